import PyProof.Rows.All
import Wide.All
import OpenK.AllK
import Wide.FinOn
import HandS.ForMost
import HandS.SortInts
import HandS.Deep
import HandS.TupLe
import HandS.TupAny
import HandS.IsInst
import HandS.Conv
import HandS.Flow
import HandS.Walk
import KE.DataCmp
import KE.DataMinMax
import HandS.Style
import HandS.Defaults
import HandS.HeadEnd
import HandS.Head0
import HandS.Head1
import HandS.Head2
import HandS.HeadHook1
import HandS.HeadHook2
import HandS.TupMul
import HandS.Zip
import KE.GoesEnum
import HandS.SetFor
import KE.SortData
import KE.KIndexOf
import HandS.Set
import HandS.Dict
import HandS.Iter
import KE.KDictList
import KE.KDictSum
import HandS.SortKw
import KE.GoesMore
import PySem.Challenge.RW_soundsjoined_k75_whole_rows_aligned_in_p
set_option Elab.async false
set_option linter.all false
section
set_option maxRecDepth 100000
set_option maxHeartbeats 4000000
/-! Pure values over the hand layer: every rule says what a piece of Python makes of data. -/
namespace PV
open PySem PySem.Spec PyProof.Rows L2

abbrev D := PyData
abbrev St := L2.St
/-- what a slot is known to hold: a value that stays, or a list that this frame alone may change -/
inductive SV where
  | v (d : D)
  | own (ds : List D)
  | dic (t : Bool) (kvs : List (D × D))
/-- a thing that this frame alone may change -/
def SV.o : SV → Bool
  | .v _ => false
  | _ => true
abbrev Ev := List (Option SV)
def gt : Ev → Nat → Option SV
  | [], _ => none
  | a :: _, 0 => a
  | _ :: r, n + 1 => gt r n
def st : Ev → Nat → Option SV → Ev
  | [], _, _ => []
  | _ :: r, 0, s => s :: r
  | a :: r, n + 1, s => a :: st r n s
def fgs : Ev → List Nat → Ev
  | env, [] => env
  | env, i :: is => st (fgs env is) i none
theorem st_length : ∀ (env : Ev) (i : Nat) (s : Option SV), (st env i s).length = env.length
  | [], _, _ => rfl
  | _ :: _, 0, _ => rfl
  | _ :: r, n + 1, s => by simp [st, st_length r n s]
theorem gt_lt : ∀ {env : Ev} {i : Nat} {s : SV}, gt env i = some s → i < env.length
  | [], _, _, h => by simp [gt] at h
  | _ :: _, 0, _, _ => by simp
  | _ :: r, n + 1, s, h => by
    have := gt_lt (env := r) (i := n) (s := s) (by simpa [gt] using h)
    simp; omega
theorem gt_st_ne : ∀ {env : Ev} {i j : Nat} {s : Option SV}, i ≠ j → gt (st env i s) j = gt env j
  | [], _, _, _, _ => rfl
  | _ :: _, 0, 0, _, h => absurd rfl h
  | _ :: _, 0, _ + 1, _, _ => rfl
  | _ :: _, _ + 1, 0, _, _ => rfl
  | _ :: r, n + 1, m + 1, s, h => by
    have := gt_st_ne (env := r) (i := n) (j := m) (s := s) (by omega)
    simpa [st, gt] using this
theorem gt_st_same : ∀ {env : Ev} {i : Nat} {s : Option SV}, i < env.length → gt (st env i s) i = s
  | [], _, _, h => by simp at h
  | _ :: _, 0, _, _ => rfl
  | _ :: r, n + 1, s, h => by
    have := gt_st_same (env := r) (i := n) (s := s) (by simpa using h)
    simpa [st, gt] using this
theorem fgs_length : ∀ (is : List Nat) (env : Ev), (fgs env is).length = env.length
  | [], _ => rfl
  | i :: is, env => by simp [fgs, st_length, fgs_length is env]
theorem gt_fgs : ∀ {is : List Nat} {env : Ev} {i : Nat} {s : SV}, gt (fgs env is) i = some s → gt env i = some s ∧ i ∉ is
  | [], _, _, _, h => ⟨h, by simp⟩
  | j :: is, env, i, s, h => by
    have h : gt (st (fgs env is) j none) i = some s := h
    by_cases e : j = i
    · subst e
      have l := gt_lt h
      rw [st_length] at l
      rw [gt_st_same l] at h; cases h
    · rw [gt_st_ne e] at h
      obtain ⟨h1, h2⟩ := gt_fgs h
      exact ⟨h1, by simp only [List.mem_cons, not_or]; exact ⟨fun z => e z.symm, h2⟩⟩

/-! ### heaps -/
theorem same_upd {H : Hp} {p : Addr} {o : HO} (h : H p = none) : Same H (upd H p o) := fun b x e => by
  rw [upd_ne (ne_of_none e h)]
  exact e
theorem Same.tup {K : PySem.W.Frag} {H H' : Hp} {a : Addr} {xs : List V} (e : Same H H') (h : SqT K H a xs) : SqT K H' a xs := by
  rcases h with (h | ⟨o, h⟩) | h
  · exact .inl (.inl (e _ _ h))
  · exact .inl (.inr ⟨o, e _ _ h⟩)
  · exact .inr h
/-- the script, as data -/
def scrD (ns : List Int) : D := .dict (ns.map fun n => (.int n, .none))
/-- keys -/
def keyD : Key → D
  | .inl i => .int i
  | .inr x => .str x
def keysD (ks : List Key) : D := .tuple (ks.map keyD)
mutual
/-- data as it stands in a part of the heap that stays -/
inductive Dv (K : PySem.W.Frag) (F : Hp) : V → D → Prop
  | non : Dv K F .non .none
  | bl (b : Bool) : Dv K F (.bl b) (.bool b)
  | int (i : Int) : Dv K F (.int i) (.int i)
  | str (x : Str) : Dv K F (.str x) (.str x)
  | lst {a : Addr} {xs : List V} {ds : List D} : F a = some (.lst xs) → DvA K F xs ds → Dv K F (.ref a) (.list ds)
  | tup {a : Addr} {xs : List V} {ds : List D} : F a = some (.tup xs) → DvA K F xs ds → Dv K F (.ref a) (.tuple ds)
  | scr {a : Addr} {ns : List Int} {kvs : List (D × D)} : kvs = ns.map (fun n => (.int n, .none)) → SqL K F a (ns.map V.int) → Dv K F (.ref a) (.dict kvs)
  | dk {a : Addr} {o : Obj} {ks : List (Key × V)} {kvs kds : List (D × D)} : kvs = (.none, .bool false) :: kds → F a = some (.frz o (.dK ks)) → kds.map Prod.fst = ks.map (fun p => keyD p.1) → DvA K F (ks.map Prod.snd) (kds.map Prod.snd) → Dv K F (.ref a) (.dict kvs)
  | dt {a : Addr} {o : Obj} {ks : List (List Key × V)} {kvs kds : List (D × D)} : kvs = (.none, .bool true) :: kds → F a = some (.frz o (.dT ks)) → kds.map Prod.fst = ks.map (fun p => keysD p.1) → DvA K F (ks.map Prod.snd) (kds.map Prod.snd) → Dv K F (.ref a) (.dict kvs)
inductive DvA (K : PySem.W.Frag) (F : Hp) : List V → List D → Prop
  | nil : DvA K F [] []
  | cons {v : V} {vs : List V} {d : D} {ds : List D} : Dv K F v d → DvA K F vs ds → DvA K F (v :: vs) (d :: ds)
end
theorem Dv.mono {K : PySem.W.Frag} {F F' : Hp} (m : Same F F') (d : D) (v : V) (h : Dv K F v d) : Dv K F' v d :=
  Dv.rec (motive_1 := fun v d _ => Dv K F' v d) (motive_2 := fun vs ds _ => DvA K F' vs ds) .non .bl .int .str (fun hs _ ih => .lst (m _ _ hs) ih) (fun hs _ ih => .tup (m _ _ hs) ih) (fun e hs => .scr e (Same.seq m hs))
    (fun e hs hk _ ih => .dk e (m _ _ hs) hk ih) (fun e hs hk _ ih => .dt e (m _ _ hs) hk ih) .nil (fun _ _ h1 h2 => .cons h1 h2) h
theorem DvA.mono {K : PySem.W.Frag} {F F' : Hp} (m : Same F F') (ds : List D) (vs : List V) (h : DvA K F vs ds) : DvA K F' vs ds :=
  DvA.rec (motive_1 := fun v d _ => Dv K F' v d) (motive_2 := fun vs ds _ => DvA K F' vs ds) .non .bl .int .str (fun hs _ ih => .lst (m _ _ hs) ih) (fun hs _ ih => .tup (m _ _ hs) ih) (fun e hs => .scr e (Same.seq m hs))
    (fun e hs hk _ ih => .dk e (m _ _ hs) hk ih) (fun e hs hk _ ih => .dt e (m _ _ hs) hk ih) .nil (fun _ _ h1 h2 => .cons h1 h2) h
mutual
/-- for the layer's == -/
theorem Dv.dp {K : PySem.W.Frag} {F : Hp} : ∀ (d : D) (v : V), d.canLay0 = true → Dv K F v d → Dp K F v d
  | .none, _, _, h => by cases h; exact .non
  | .bool b, _, _, h => by cases h; exact .bl b
  | .int i, _, _, h => by cases h; exact .int i
  | .str x, _, _, h => by cases h; exact .str x
  | .list ds, _, c, h => by
    cases h with
    | lst hs ha => exact .lst (SqL.of hs) (DvA.dp ds _ (by simpa [PyData.canLay0] using c) ha)
  | .tuple ds, _, c, h => by
    cases h with
    | tup hs ha => exact .tup (SqT.of hs) (DvA.dp ds _ (by simpa [PyData.canLay0] using c) ha)
  | .dict _, _, c, _ => by simp [PyData.canLay0] at c
theorem DvA.dp {K : PySem.W.Frag} {F : Hp} : ∀ (ds : List D) (vs : List V), PyData.canLayAll0 ds = true → DvA K F vs ds → DpAll K F vs ds
  | [], _, _, h => by cases h; exact .nil
  | d :: ds, _, c, h => by
    cases h with
    | cons h1 h2 =>
      have c' : d.canLay0 = true ∧ PyData.canLayAll0 ds = true := by simpa [PyData.canLayAll0] using c
      exact .cons (Dv.dp d _ c'.1 h1) (DvA.dp ds _ c'.2 h2)
end
section
variable {K : PySem.W.Frag} {F : Hp}
theorem DvA.length : ∀ {vs : List V} {ds : List D}, DvA K F vs ds → vs.length = ds.length
  | _, _, .nil => rfl
  | _, _, .cons _ t => by simp [DvA.length t]
theorem DvA.get : ∀ {vs : List V} {ds : List D} {i : Nat} {d : D}, DvA K F vs ds → ds[i]? = some d → ∃ v, vs[i]? = some v ∧ Dv K F v d
  | _, _, _, _, .nil, h => by simp at h
  | _, _, 0, d, .cons h1 _, h => by simp at h; subst h; exact ⟨_, rfl, h1⟩
  | _, _, i + 1, d, .cons _ t, h => by
    obtain ⟨v, e, q⟩ := DvA.get (i := i) (d := d) t (by simpa using h)
    exact ⟨v, by simpa using e, q⟩
theorem DvA.append : ∀ {vs us : List V} {ds es : List D}, DvA K F vs ds → DvA K F us es → DvA K F (vs ++ us) (ds ++ es)
  | _, _, _, _, .nil, t => t
  | _, _, _, _, .cons h r, t => .cons h (DvA.append r t)
theorem DvA.take : ∀ {vs : List V} {ds : List D} (n : Nat), DvA K F vs ds → DvA K F (vs.take n) (ds.take n)
  | _, _, 0, _ => by simp; exact .nil
  | _, _, _ + 1, .nil => .nil
  | _, _, n + 1, .cons h r => .cons h (DvA.take n r)
theorem DvA.drop : ∀ {vs : List V} {ds : List D} (n : Nat), DvA K F vs ds → DvA K F (vs.drop n) (ds.drop n)
  | _, _, 0, h => h
  | _, _, _ + 1, .nil => .nil
  | _, _, n + 1, .cons _ r => DvA.drop n r
theorem DvA.set : ∀ {vs : List V} {ds : List D} {v : V} {d : D} (i : Nat), DvA K F vs ds → Dv K F v d → DvA K F (vs.set i v) (ds.set i d)
  | _, _, _, _, _, .nil, _ => .nil
  | _, _, _, _, 0, .cons _ r, h => .cons h r
  | _, _, _, _, i + 1, .cons h0 r, h => .cons h0 (DvA.set i r h)
theorem DvA.reverse : ∀ {vs : List V} {ds : List D}, DvA K F vs ds → DvA K F vs.reverse ds.reverse
  | _, _, .nil => .nil
  | _, _, .cons h r => by
    rw [List.reverse_cons, List.reverse_cons]
    exact DvA.append (DvA.reverse r) (.cons h .nil)
theorem DvA.rep {vs : List V} {ds : List D} (h : DvA K F vs ds) : ∀ k : Nat, DvA K F (List.replicate k vs).flatten (List.replicate k ds).flatten
  | 0 => .nil
  | k + 1 => by
    rw [List.replicate_succ, List.replicate_succ, List.flatten_cons, List.flatten_cons]
    exact DvA.append h (DvA.rep h k)
theorem DvA.ints : ∀ ns : List Int, DvA K F (ns.map V.int) (ns.map PyData.int)
  | [] => .nil
  | n :: r => .cons (.int n) (DvA.ints r)
theorem DvA.ints_inv : ∀ {vs : List V} {ns : List Int}, DvA K F vs (ns.map PyData.int) → vs = ns.map V.int
  | _, [], h => by cases h; rfl
  | _, n :: r, h => by
    cases h with
    | cons h1 h2 =>
      cases h1
      rw [DvA.ints_inv h2]; rfl
theorem DvA.bls_inv : ∀ {vs : List V} {ns : List Bool}, DvA K F vs (ns.map PyData.bool) → vs = ns.map V.bl
  | _, [], h => by cases h; rfl
  | _, n :: r, h => by
    cases h with
    | cons h1 h2 =>
      cases h1
      rw [DvA.bls_inv h2]; rfl
end

/-- the frozen part has changed at nothing of H, but for tuples that are now seen -/
def Fz (H F F' : Hp) : Prop := ∀ a, H a ≠ none → F' a = F a ∨ ∃ xs, H a = some (.tup xs) ∧ F' a = some (.tup xs)
theorem Fz.refl (H F : Hp) : Fz H F F := fun _ _ => .inl rfl
theorem Fz.upd {H F F' : Hp} {a : Addr} {o : HO} (f : Fz H F F') (h : H a = none) : Fz H F (L2.upd F' a o) := fun b hb => by
  have ne : b ≠ a := fun z => hb (by rw [z]; exact h)
  rw [upd_ne ne]; exact f b hb
theorem Fz.none {H F F' : Hp} {a : Addr} {o : HO} (f : Fz H F F') (h : H a = some o) (ho : ∀ xs, o ≠ .tup xs) (h2 : F a = .none) : F' a = .none := by
  rcases f a (by rw [h]; simp) with q | ⟨xs, q, _⟩
  · exact q.trans h2
  · rw [h] at q; cases q; exact absurd rfl (ho xs)
theorem Fz.trans {H H1 F F1 F2 : Hp} (f : Fz H F F1) (s : Same H H1) (g : Fz H1 F1 F2) : Fz H F F2 := fun a h => by
  obtain ⟨o, e⟩ := Option.ne_none_iff_exists'.mp h
  have e1 := s a o e
  rcases g a (by rw [e1]; simp) with q | ⟨xs, q, q2⟩
  · rcases f a h with p | ⟨ys, p, p2⟩
    · exact .inl (q.trans p)
    · exact .inr ⟨ys, p, q.trans p2⟩
  · rw [e1] at q; cases q
    exact .inr ⟨xs, e, q2⟩
/-- the frozen part and the heap have grown by new objects alone -/
structure Grow (F H F' H' : Hp) : Prop where
  hh : Same H H'
  fr : Fz H F F'
  sub : Same F' H'
section
variable {F H F1 H1 F2 H2 : Hp}
theorem Grow.ff (g : Grow F H F1 H1) (s : Same F H) : Same F F1 := fun a o e => by
  rcases g.fr a (by rw [s a o e]; simp) with q | ⟨xs, q, q2⟩
  · exact q.trans e
  · rw [s a o e] at q; cases q; exact q2
theorem Grow.refl (s : Same F H) : Grow F H F H := ⟨Same.refl H, Fz.refl H F, s⟩
theorem Grow.trans (g : Grow F H F1 H1) (k : Grow F1 H1 F2 H2) : Grow F H F2 H2 where
  hh := g.hh.trans k.hh
  fr := g.fr.trans g.hh k.fr
  sub := k.sub
/-- a new object that stays -/
theorem Grow.new {p : Addr} {o : HO} (s : Same F H) (hp : H p = none) : Grow F H (upd F p o) (upd H p o) where
  hh := same_upd hp
  fr := (Fz.refl H F).upd hp
  sub := fun a x e => by
    by_cases z : a = p
    · subst z; rw [upd_same] at e ⊢; exact e
    · rw [upd_ne z] at e ⊢; exact s a x e
/-- a new object that may still change -/
theorem Grow.made {p : Addr} {o : HO} (s : Same F H) (hp : H p = none) : Grow F H F (upd H p o) where
  hh := same_upd hp
  fr := Fz.refl H F
  sub := fun a x e => by
    have q := s a x e
    rw [upd_ne (ne_of_none q hp)]; exact q
theorem fnone (s : Same F H) {p : Addr} (hp : H p = none) : F p = none := by
  cases q : F p with
  | none => rfl
  | some o => rw [s p o q] at hp; cases hp
end

/-- the dict that stands at o (t: its keys are tuples) -/
def DicAt (K : PySem.W.Frag) (F : Hp) (o : HO) (t : Bool) (kds : List (D × D)) : Prop :=
  (t = false ∧ ∃ ks : List (Key × V), o = .dK ks ∧ kds.map Prod.fst = ks.map (fun p => keyD p.1) ∧ DvA K F (ks.map Prod.snd) (kds.map Prod.snd)) ∨
  (t = true ∧ ∃ ks : List (List Key × V), o = .dT ks ∧ kds.map Prod.fst = ks.map (fun p => keysD p.1) ∧ DvA K F (ks.map Prod.snd) (kds.map Prod.snd))
theorem DicAt.mono {K : PySem.W.Frag} {F F' : Hp} {o : HO} {t : Bool} {kds : List (D × D)} (h : DicAt K F o t kds) (m : Same F F') : DicAt K F' o t kds := by
  rcases h with ⟨e, ks, e1, e2, e3⟩ | ⟨e, ks, e1, e2, e3⟩
  · exact .inl ⟨e, ks, e1, e2, DvA.mono m _ _ e3⟩
  · exact .inr ⟨e, ks, e1, e2, DvA.mono m _ _ e3⟩
theorem DicAt.nt {K : PySem.W.Frag} {F : Hp} {o : HO} {t : Bool} {kds : List (D × D)} (h : DicAt K F o t kds) : ∀ xs, o ≠ .tup xs := fun xs e => by
  rcases h with ⟨_, ks, e1, _⟩ | ⟨_, ks, e1, _⟩ <;> rw [e] at e1 <;> cases e1
theorem DicAt.mut {K : PySem.W.Frag} {F : Hp} {o : HO} {t : Bool} {kds : List (D × D)} (h : DicAt K F o t kds) : Mut (some o) := by
  rcases h with ⟨_, ks, e1, _⟩ | ⟨_, ks, e1, _⟩ <;> rw [e1] <;> exact True.intro
def SRel (K : PySem.W.Frag) (H0 F H : Hp) (x : V) : SV → Prop
  | .v d => Dv K F x d
  | .own ds => ∃ a vs, x = .ref a ∧ H a = some (.lst vs) ∧ F a = none ∧ H0 a = none ∧ DvA K F vs ds
  | .dic t kvs => ∃ a o, x = .ref a ∧ H a = some o ∧ F a = none ∧ H0 a = none ∧ DicAt K F o t kvs
/-- the slots as the known values tell. H0, F0: the heap and its frozen part at the def's entry -/
structure Rel (K : PySem.W.Frag) (H0 F0 : Hp) (env : Ev) (σ : St) (F H : Hp) : Prop where
  base : Same H0 H
  sub : Same F H
  frz : Fz H0 F0 F
  len : env.length = σ.length
  slot : ∀ i s, gt env i = some s → ∃ x, σ[i]? = some (some x) ∧ SRel K H0 F H x s
  apart : ∀ i j x s t, gt env i = some s → gt env j = some t → s.o = true → t.o = true → σ[i]? = some (some x) → σ[j]? = some (some x) → i = j
section
variable {K : PySem.W.Frag} {H0 F0 F H F' H' : Hp} {env : Ev} {σ : St}
theorem SRel.grow {x : V} {s : SV} (h : SRel K H0 F H x s) (g : Grow F H F' H') (sb : Same F H) : SRel K H0 F' H' x s := by
  cases s with
  | v d => exact Dv.mono (g.ff sb) d x h
  | own ds =>
    obtain ⟨a, vs, e, h1, h2, h3, h4⟩ := h
    exact ⟨a, vs, e, g.hh _ _ h1, g.fr.none h1 (fun _ z => nomatch z) h2, h3, DvA.mono (g.ff sb) _ _ h4⟩
  | dic t kvs =>
    obtain ⟨a, o, e, h1, h2, h3, h4⟩ := h
    exact ⟨a, o, e, g.hh _ _ h1, g.fr.none h1 h4.nt h2, h3, h4.mono (g.ff sb)⟩
/-- a thing of our own stands somewhere, not frozen -/
theorem SRel.at {x : V} {s : SV} (h : SRel K H0 F H x s) (ho : s.o = true) : ∃ a o, x = .ref a ∧ H a = some o ∧ F a = none ∧ H0 a = none := by
  cases s with
  | v d => cases ho
  | own ds =>
    obtain ⟨a, vs, e, h1, h2, h3, h4⟩ := h
    exact ⟨a, _, e, h1, h2, h3⟩
  | dic t kvs =>
    obtain ⟨a, o, e, h1, h2, h3, h4⟩ := h
    exact ⟨a, _, e, h1, h2, h3⟩
/-- other objects' changes -/
theorem SRel.upd {x : V} {s : SV} {D : Addr} {o : HO} (h : SRel K H0 F H x s) (hx : s.o = true → x ≠ .ref D) : SRel K H0 F (L2.upd H D o) x s := by
  cases s with
  | v d => exact h
  | own ds =>
    obtain ⟨a, vs, rfl, h1, h2, h3, h4⟩ := h
    exact ⟨a, vs, rfl, by rw [upd_ne (fun z => hx rfl (by rw [z]))]; exact h1, h2, h3, h4⟩
  | dic t kvs =>
    obtain ⟨a, u, rfl, h1, h2, h3, h4⟩ := h
    exact ⟨a, u, rfl, by rw [upd_ne (fun z => hx rfl (by rw [z]))]; exact h1, h2, h3, h4⟩
/-- a thing that was not frozen is -/
theorem SRel.updF {x : V} {s : SV} {D : Addr} {o : HO} (h : SRel K H0 F H x s) (hF : F D = none) (hx : s.o = true → x ≠ .ref D) : SRel K H0 (L2.upd F D o) H x s := by
  cases s with
  | v d => exact Dv.mono (same_upd hF) _ _ h
  | own ds =>
    obtain ⟨a, vs, rfl, h1, h2, h3, h4⟩ := h
    exact ⟨a, vs, rfl, h1, by rw [upd_ne (fun z => hx rfl (by rw [z]))]; exact h2, h3, DvA.mono (same_upd hF) _ _ h4⟩
  | dic t kvs =>
    obtain ⟨a, u, rfl, h1, h2, h3, h4⟩ := h
    exact ⟨a, u, rfl, h1, by rw [upd_ne (fun z => hx rfl (by rw [z]))]; exact h2, h3, h4.mono (same_upd hF)⟩
theorem Rel.grow (r : Rel K H0 F0 env σ F H) (g : Grow F H F' H') : Rel K H0 F0 env σ F' H' where
  base := r.base.trans g.hh
  sub := g.sub
  frz := r.frz.trans r.base g.fr
  len := r.len
  slot := fun i s e => by
    obtain ⟨x, e1, q⟩ := r.slot i s e
    exact ⟨x, e1, q.grow g r.sub⟩
  apart := r.apart
/-- a slot is stored -/
theorem Rel.set (r : Rel K H0 F0 env σ F H) {i : Nat} {x : V} {d : D} (h : Dv K F x d) : Rel K H0 F0 (st env i (some (.v d))) (σ.set i (some x)) F H where
  base := r.base
  sub := r.sub
  frz := r.frz
  len := by rw [st_length, List.length_set]; exact r.len
  slot := fun j s e => by
    have lj := gt_lt e
    rw [st_length, r.len] at lj
    by_cases q : i = j
    · subst q
      rw [gt_st_same (by rw [r.len]; exact lj)] at e
      cases e
      exact ⟨x, List.getElem?_set_self lj, h⟩
    · rw [gt_st_ne q] at e
      obtain ⟨y, e1, q1⟩ := r.slot j s e
      exact ⟨y, by rw [List.getElem?_set_ne q]; exact e1, q1⟩
  apart := fun j k y s t e1 e2 o1 o2 s1 s2 => by
    have h1 : i ≠ j := fun z => by
      subst z
      have l := gt_lt e1
      rw [st_length] at l
      rw [gt_st_same l] at e1; cases e1; cases o1
    have h2 : i ≠ k := fun z => by
      subst z
      have l := gt_lt e2
      rw [st_length] at l
      rw [gt_st_same l] at e2; cases e2; cases o2
    rw [gt_st_ne h1] at e1
    rw [gt_st_ne h2] at e2
    rw [List.getElem?_set_ne h1] at s1
    rw [List.getElem?_set_ne h2] at s2
    exact r.apart j k y s t e1 e2 o1 o2 s1 s2
/-- a thing of our own is stored: its address is in no slot of ours -/
theorem Rel.setO (r : Rel K H0 F0 env σ F H) {i : Nat} {a : Addr} {s0 : SV} (h : SRel K H0 F H (.ref a) s0)
    (hn : ∀ j s, gt env j = some s → s.o = true → σ[j]? ≠ some (some (.ref a))) : Rel K H0 F0 (st env i (some s0)) (σ.set i (some (.ref a))) F H where
  base := r.base
  sub := r.sub
  frz := r.frz
  len := by rw [st_length, List.length_set]; exact r.len
  slot := fun j s e => by
    have lj := gt_lt e
    rw [st_length, r.len] at lj
    by_cases q : i = j
    · subst q
      rw [gt_st_same (by rw [r.len]; exact lj)] at e
      cases e
      exact ⟨.ref a, List.getElem?_set_self lj, h⟩
    · rw [gt_st_ne q] at e
      obtain ⟨y, e1, q1⟩ := r.slot j s e
      exact ⟨y, by rw [List.getElem?_set_ne q]; exact e1, q1⟩
  apart := fun j k y s t e1 e2 o1 o2 s1 s2 => by
    have lj : j < σ.length := by have := gt_lt e1; rw [st_length, r.len] at this; exact this
    have lk : k < σ.length := by have := gt_lt e2; rw [st_length, r.len] at this; exact this
    by_cases q1 : i = j
    · subst q1
      by_cases q2 : i = k
      · exact q2
      · rw [List.getElem?_set_self lj] at s1
        rw [gt_st_ne q2] at e2
        rw [List.getElem?_set_ne q2] at s2
        cases s1
        exact absurd s2 (hn k t e2 o2)
    · rw [gt_st_ne q1] at e1
      rw [List.getElem?_set_ne q1] at s1
      by_cases q2 : i = k
      · subst q2
        rw [List.getElem?_set_self lk] at s2
        cases s2
        exact absurd s1 (hn j s e1 o1)
      · rw [gt_st_ne q2] at e2
        rw [List.getElem?_set_ne q2] at s2
        exact r.apart j k y s t e1 e2 o1 o2 s1 s2
/-- slots forgotten -/
theorem Rel.weak {env' : Ev} (r : Rel K H0 F0 env σ F H) (hl : env'.length = env.length) (h : ∀ i s, gt env' i = some s → gt env i = some s) : Rel K H0 F0 env' σ F H :=
  ⟨r.base, r.sub, r.frz, hl.trans r.len, fun i s e => r.slot i s (h i s e), fun i j x s t e1 e2 => r.apart i j x s t (h _ _ e1) (h _ _ e2)⟩
theorem Rel.fgs (r : Rel K H0 F0 env σ F H) (is : List Nat) : Rel K H0 F0 (fgs env is) σ F H := r.weak (fgs_length is env) fun _ _ e => (gt_fgs e).1
theorem wipe_get {σ : St} {i : Nat} : ∀ {vs : List Nat}, i ∉ vs → (wipe σ vs)[i]? = σ[i]?
  | [], _ => rfl
  | v :: vs, h => by
    unfold wipe
    simp only [List.mem_cons, not_or] at h
    rw [List.getElem?_set_ne (Ne.symm h.1)]
    exact wipe_get h.2
theorem Rel.wipe (r : Rel K H0 F0 env σ F H) (is : List Nat) : Rel K H0 F0 (PV.fgs env is) (L2.wipe σ is) F H where
  base := r.base
  sub := r.sub
  frz := r.frz
  len := by rw [fgs_length, wipe_length]; exact r.len
  slot := fun i s e => by
    obtain ⟨h1, h2⟩ := gt_fgs e
    obtain ⟨x, e1, q⟩ := r.slot i s h1
    exact ⟨x, (wipe_get h2).trans e1, q⟩
  apart := fun i j x s t e1 e2 o1 o2 s1 s2 => by
    obtain ⟨h1, k1⟩ := gt_fgs e1
    obtain ⟨h2, k2⟩ := gt_fgs e2
    exact r.apart i j x s t h1 h2 o1 o2 ((wipe_get k1).symm.trans s1) ((wipe_get k2).symm.trans s2)
end

/-! ### readings by what is made of the known values -/
/-- an operand: a value that stays, or a list of our own as it stands -/
def Bw (K : PySem.W.Frag) (F H : Hp) (x : V) (d : D) : Prop := Dv K F x d ∨ ∃ a vs ds, x = .ref a ∧ d = .list ds ∧ H a = some (.lst vs) ∧ DvA K F vs ds
theorem Bw.grow {K : PySem.W.Frag} {F H F' H' : Hp} {x : V} {d : D} (h : Bw K F H x d) (g : Grow F H F' H') (s : Same F H) : Bw K F' H' x d := by
  rcases h with h | ⟨a, vs, ds, e1, e2, h1, h2⟩
  · exact .inl (Dv.mono (g.ff s) d x h)
  · exact .inr ⟨a, vs, ds, e1, e2, g.hh _ _ h1, DvA.mono (g.ff s) _ _ h2⟩
/-- in the heap itself -/
theorem Bw.here {K : PySem.W.Frag} {F H : Hp} {x : V} {d : D} (h : Bw K F H x d) (s : Same F H) : Dv K H x d := by
  rcases h with h | ⟨a, vs, ds, rfl, rfl, h1, h2⟩
  · exact Dv.mono s d x h
  · exact .lst h1 (DvA.mono s _ _ h2)
def rdE (K : PySem.W.Frag) (den : Ev → Option D) : TE := fun σ H Q => ∃ H0 F0 env F d, Rel K H0 F0 env σ F H ∧ den env = some d ∧ ∀ x F' H', Grow F H F' H' → Dv K F' x d → Q x H'
def rdB (K : PySem.W.Frag) (den : Ev → Option D) : TE := fun σ H Q => ∃ H0 F0 env F d, Rel K H0 F0 env σ F H ∧ den env = some d ∧ ∀ x F' H', Grow F H F' H' → Bw K F' H' x d → Q x H'
/-- a new list -/
def rdN (K : PySem.W.Frag) (den : Ev → Option (List D)) : TE := fun σ H Q => ∃ H0 F0 env F ds, Rel K H0 F0 env σ F H ∧ den env = some ds ∧
  ∀ a vs F' H', Grow F H F' H' → H a = none → H' a = some (.lst vs) → F' a = none → DvA K F' vs ds → Q (.ref a) H'
def rdT (K : PySem.W.Frag) (den : Ev → Option Bool) : TT := fun σ H Q => ∃ H0 F0 env F b, Rel K H0 F0 env σ F H ∧ den env = some b ∧ ∀ F' H', Grow F H F' H' → Q b H'
def rdA (K : PySem.W.Frag) (den : Ev → Option (List D)) : TA := fun σ H Q => ∃ H0 F0 env F ds, Rel K H0 F0 env σ F H ∧ den env = some ds ∧ ∀ xs F' H', Grow F H F' H' → DvA K F' xs ds → Q xs H'
abbrev PVE (X : Cx) (e : Expr) (den : Ev → Option D) : Prop := PE X e (rdE X.K den)
abbrev PVB (X : Cx) (e : Expr) (den : Ev → Option D) : Prop := PE X e (rdB X.K den)
abbrev PVN (X : Cx) (e : Expr) (den : Ev → Option (List D)) : Prop := PE X e (rdN X.K den)
abbrev PVT (X : Cx) (e : Expr) (den : Ev → Option Bool) : Prop := PT X e (rdT X.K den)
abbrev PVW (X : Cx) (e : Expr) (den : Ev → Option Bool) : Prop := PW X e (rdT X.K den)
abbrev PVA (X : Cx) (es : List Expr) (den : Ev → Option (List D)) : Prop := PA X es (rdA X.K den)
theorem PE.imp {X : Cx} {e : Expr} {t t' : TE} (h : PE X e t) (k : ∀ σ H Q, t' σ H Q → t σ H Q) : PE X e t' := ⟨fun pins s σ H Q I q => h.run pins s σ H Q I (k _ _ _ q)⟩
theorem PT.imp {X : Cx} {e : Expr} {t t' : TT} (h : PT X e t) (k : ∀ σ H Q, t' σ H Q → t σ H Q) : PT X e t' := ⟨fun pins s σ H Q I q => h.run pins s σ H Q I (k _ _ _ q)⟩
theorem PW.imp {X : Cx} {e : Expr} {t t' : TT} (h : PW X e t) (k : ∀ σ H Q, t' σ H Q → t σ H Q) : PW X e t' := ⟨fun wh pins s σ H Q I q => h.run wh pins s σ H Q I (k _ _ _ q)⟩
theorem PA.imp {X : Cx} {e : List Expr} {t t' : TA} (h : PA X e t) (k : ∀ σ H Q, t' σ H Q → t σ H Q) : PA X e t' := ⟨fun pos pins s σ H Q I q => h.run pos pins s σ H Q I (k _ _ _ q)⟩
theorem PS.imp {X : Cx} {e : Stmt} {t t' : TS} (h : PS X e t) (k : ∀ D σ H, t' D σ H → t D σ H) : PS X e t' := ⟨fun pins s σ H D I q => h.run pins s σ H D I (k _ _ _ q)⟩
theorem PSs.imp {X : Cx} {e : List Stmt} {t t' : TS} (h : PSs X e t) (k : ∀ D σ H, t' D σ H → t D σ H) : PSs X e t' := ⟨fun pins s σ H D I q => h.run pins s σ H D I (k _ _ _ q)⟩
section
variable {X : Cx} {e a b c : Expr} {pos : Pos} {da db dc : Ev → Option D}
theorem PE.toB (h : PVE X e da) : PVB X e da := PE.imp h fun σ H Q ⟨H0, F0, env, F, d, r, ed, k⟩ => ⟨H0, F0, env, F, d, r, ed, fun x F' H' g hd => k x F' H' g (.inl hd)⟩
/-- a new list, from here on left as it is -/
def eLst (dn : Ev → Option (List D)) : Ev → Option D := fun env => (dn env).map PyData.list
theorem PE.ofN {dn : Ev → Option (List D)} (h : PVN X e dn) : PVE X e (eLst dn) := PE.imp h fun σ H Q ⟨H0, F0, env, F, d, r, ed, k⟩ => by
  obtain ⟨ds, e1, e2⟩ := Option.map_eq_some_iff.mp ed
  subst e2
  refine ⟨H0, F0, env, F, ds, r, e1, fun a vs F' H' g hn h1 h2 h3 => k (.ref a) (upd F' a (.lst vs)) H' ⟨g.hh, g.fr.upd hn, fun b o eb => ?_⟩ ?_⟩
  · by_cases z : b = a
    · subst z; rw [upd_same] at eb; cases eb; exact h1
    · rw [upd_ne z] at eb; exact g.sub b o eb
  · exact .lst upd_same (DvA.mono (same_upd h2) _ _ h3)
theorem PE.nB {dn : Ev → Option (List D)} (h : PVN X e dn) : PVB X e (eLst dn) := PE.toB (PE.ofN h)

/-! ### names, constants -/
def eVar (i : Nat) : Ev → Option D := fun env => match gt env i with | some (.v d) => some d | _ => none
def bVar (i : Nat) : Ev → Option D := fun env => match gt env i with | some (.v d) => some d | some (.own ds) => some (.list ds) | _ => none
def eC (d : D) : Ev → Option D := fun _ => some d
theorem ve (i : Nat) {x : Str} (hN : X.N[i]? = some x := by rfl) (hv : Vis X.env.scope x := by first | exact Or.inl rfl | exact Or.inr (Or.inl rfl) | exact Or.inr (Or.inr rfl)) (hd : (x == ("__debug__" : Str)) = false := by decide)
    (hcd : (x == ("__classdict__" : Str)) = false := by decide) : PVE X (.Name x pos) (eVar i) := PE.imp (pe_var (i := i) hN hv hd hcd) fun σ H Q ⟨H0, F0, env, F, d, r, ed, k⟩ => by
  unfold eVar at ed
  split at ed
  · rename_i d' hg
    cases ed
    obtain ⟨x, e1, q⟩ := r.slot i _ hg
    exact ⟨x, e1, k x F H (Grow.refl r.sub) q⟩
  · cases ed
theorem vb (i : Nat) {x : Str} (hN : X.N[i]? = some x := by rfl) (hv : Vis X.env.scope x := by first | exact Or.inl rfl | exact Or.inr (Or.inl rfl) | exact Or.inr (Or.inr rfl)) (hd : (x == ("__debug__" : Str)) = false := by decide)
    (hcd : (x == ("__classdict__" : Str)) = false := by decide) : PVB X (.Name x pos) (bVar i) := PE.imp (pe_var (i := i) hN hv hd hcd) fun σ H Q ⟨H0, F0, env, F, d, r, ed, k⟩ => by
  unfold bVar at ed
  split at ed
  · rename_i d' hg
    cases ed
    obtain ⟨x, e1, q⟩ := r.slot i _ hg
    exact ⟨x, e1, k x F H (Grow.refl r.sub) (.inl q)⟩
  · rename_i ds hg
    cases ed
    obtain ⟨x, e1, q⟩ := r.slot i _ hg
    obtain ⟨a, vs, ex, h1, h2, h3, h4⟩ := q
    exact ⟨x, e1, k x F H (Grow.refl r.sub) (.inr ⟨a, vs, ds, ex, rfl, h1, h4⟩)⟩
  · cases ed
theorem vc_int {i : Int} {j} : PVE X (.Constant (.int i) j pos) (eC (.int i)) := PE.imp pe_int fun σ H Q ⟨H0, F0, env, F, d, r, ed, k⟩ => by cases ed; exact k _ F H (Grow.refl r.sub) (.int i)
theorem vc_bl {i : Bool} {j} : PVE X (.Constant (.bool i) j pos) (eC (.bool i)) := PE.imp pe_bl fun σ H Q ⟨H0, F0, env, F, d, r, ed, k⟩ => by cases ed; exact k _ F H (Grow.refl r.sub) (.bl i)
theorem vc_non {j} : PVE X (.Constant .none j pos) (eC .none) := PE.imp pe_non fun σ H Q ⟨H0, F0, env, F, d, r, ed, k⟩ => by cases ed; exact k _ F H (Grow.refl r.sub) .non
theorem vc_str {z : Str} {j} : PVE X (.Constant (.str z) j pos) (eC (.str z)) := PE.imp pe_str fun σ H Q ⟨H0, F0, env, F, d, r, ed, k⟩ => by cases ed; exact k _ F H (Grow.refl r.sub) (.str z)

/-! ### two operands -/
def e2 (g : D → D → Option D) (da db : Ev → Option D) : Ev → Option D := fun env => (da env).bind fun x => (db env).bind fun y => g x y
def e1 (g : D → Option D) (da : Ev → Option D) : Ev → Option D := fun env => (da env).bind g
def n2 (g : D → D → Option (List D)) (da db : Ev → Option D) : Ev → Option (List D) := fun env => (da env).bind fun x => (db env).bind fun y => g x y
/-- the reading of an operation on two values that makes g of them -/
def rOf (K : PySem.W.Frag) (g : D → D → Option D) : R2 := fun x y H Q => ∃ F d e z, Same F H ∧ Bw K F H x d ∧ Bw K F H y e ∧ g d e = some z ∧ ∀ w F' H', Grow F H F' H' → Dv K F' w z → Q w H'
/-- .. a new list -/
def rnOf (K : PySem.W.Frag) (g : D → D → Option (List D)) : R2 := fun x y H Q => ∃ F d e zs, Same F H ∧ Bw K F H x d ∧ Bw K F H y e ∧ g d e = some zs ∧
  ∀ a vs F' H', Grow F H F' H' → H a = none → H' a = some (.lst vs) → F' a = none → DvA K F' vs zs → Q (.ref a) H'
theorem bin_rd {K : PySem.W.Frag} {g : D → D → Option D} {σ : St} {H : Hp} {Q : VK} (q : rdE K (e2 g da db) σ H Q) : tOp (rOf K g) (rdB K da) (rdB K db) σ H Q := by
  obtain ⟨H0, F0, env, F, z, rl, ed, k⟩ := q
  obtain ⟨d, h1, ed⟩ := Option.bind_eq_some_iff.mp ed
  obtain ⟨e, h2, ed⟩ := Option.bind_eq_some_iff.mp ed
  exact ⟨H0, F0, env, F, d, rl, h1, fun x F1 H1 g1 b1 => ⟨H0, F0, env, F1, e, rl.grow g1, h2, fun y F2 H2 g2 b2 =>
    ⟨F2, d, e, z, g2.sub, b1.grow g2 g1.sub, b2, ed, fun w F' H' g' hw => k w F' H' (g1.trans (g2.trans g')) hw⟩⟩⟩
theorem bin_rn {K : PySem.W.Frag} {g : D → D → Option (List D)} {σ : St} {H : Hp} {Q : VK} (q : rdN K (n2 g da db) σ H Q) : tOp (rnOf K g) (rdB K da) (rdB K db) σ H Q := by
  obtain ⟨H0, F0, env, F, z, rl, ed, k⟩ := q
  obtain ⟨d, h1, ed⟩ := Option.bind_eq_some_iff.mp ed
  obtain ⟨e, h2, ed⟩ := Option.bind_eq_some_iff.mp ed
  refine ⟨H0, F0, env, F, d, rl, h1, fun x F1 H1 g1 b1 => ⟨H0, F0, env, F1, e, rl.grow g1, h2, fun y F2 H2 g2 b2 =>
    ⟨F2, d, e, z, g2.sub, b1.grow g2 g1.sub, b2, ed, fun a vs F' H' g' hn ha hf hv => k a vs F' H' (g1.trans (g2.trans g')) ?_ ha hf hv⟩⟩⟩
  cases hh : H a with
  | none => rfl
  | some o => rw [(g1.trans g2).hh a o hh] at hn; cases hn
theorem vop {op : Operator} {g : D → D → Option D} (ho : OpR X (binaryOp op) (rOf X.K g)) (ha : PVB X a da) (hb : PVB X b db) : PVE X (.BinOp a op b pos) (e2 g da db) :=
  PE.imp (pe_op ho ha hb) fun _ _ _ q => bin_rd q
theorem vopN {op : Operator} {g : D → D → Option (List D)} (ho : OpR X (binaryOp op) (rnOf X.K g)) (ha : PVB X a da) (hb : PVB X b db) : PVN X (.BinOp a op b pos) (n2 g da db) :=
  PE.imp (pe_op ho ha hb) fun _ _ _ q => bin_rn q
theorem vcmp {op : CmpOp} {g : D → D → Option D} (ho : OpR X (compareOp op) (rOf X.K g)) (ha : PVB X a da) (hb : PVB X b db) (hm : behindInMarks op b = false := by first | exact nobehind _ (by decide) (by decide) | rfl) : PVE X (.Compare a [op] [b] pos) (e2 g da db) :=
  PE.imp (pe_cmpR ho ha hb hm) fun _ _ _ q => bin_rd q
def t1 (g : D → Option Bool) (da : Ev → Option D) : Ev → Option Bool := fun env => (da env).bind g
def isB : D → Option Bool
  | .bool b => some b
  | _ => none
theorem isB_some {d : D} {b : Bool} (h : isB d = some b) : d = .bool b := by
  cases d <;> simp only [isB] at h <;> cases h
  rfl
theorem vcmpT {op : CmpOp} {g : D → D → Option D} (ho : OpR X (compareOp op) (rOf X.K g)) (ha : PVB X a da) (hb : PVB X b db) (hm : behindInMarks op b = false := by first | exact nobehind _ (by decide) (by decide) | rfl) : PVT X (.Compare a [op] [b] pos) (t1 isB (e2 g da db)) :=
  PT.imp (pt_cmpR ho ha hb hm) fun σ H Q ⟨H0, F0, env, F, z, rl, ed, k⟩ => by
    obtain ⟨w, h1, h2⟩ := Option.bind_eq_some_iff.mp ed
    obtain rfl := isB_some h2
    refine bin_rd ⟨H0, F0, env, F, _, rl, h1, fun x F' H' g hd => ?_⟩
    cases hd
    exact ⟨_, rfl, k F' H' g⟩
/-- a op b op c -/
def eCh (g g' : D → D → Option D) (da db dc : Ev → Option D) : Ev → Option D := fun env => (da env).bind fun x => (db env).bind fun y => (g x y).bind fun z => (isB z).bind fun k =>
  if k = true then (dc env).bind fun w => g' y w else some (.bool false)
theorem chain_rd {K : PySem.W.Frag} {g g' : D → D → Option D} {σ : St} {H : Hp} {Q : VK} (q : rdE K (eCh g g' da db dc) σ H Q) : tChain (rOf K g) (rOf K g') (rdB K da) (rdB K db) (rdB K dc) σ H Q := by
  obtain ⟨H0, F0, env, F, z, rl, ed, k⟩ := q
  obtain ⟨d, h1, ed⟩ := Option.bind_eq_some_iff.mp ed
  obtain ⟨e, h2, ed⟩ := Option.bind_eq_some_iff.mp ed
  obtain ⟨f, h3, ed⟩ := Option.bind_eq_some_iff.mp ed
  obtain ⟨t, h4, ed4⟩ := Option.bind_eq_some_iff.mp ed
  obtain rfl := isB_some h4
  refine ⟨H0, F0, env, F, d, rl, h1, fun x F1 H1 g1 b1 => ⟨H0, F0, env, F1, e, rl.grow g1, h2, fun y F2 H2 g2 b2 =>
    ⟨F2, d, e, _, g2.sub, b1.grow g2 g1.sub, b2, h3, fun w F3 H3 g3 hw => ?_⟩⟩⟩
  cases hw
  refine ⟨t, rfl, ?_⟩
  cases t with
  | false =>
    simp only [Bool.false_eq_true, if_false] at ed4 ⊢
    cases ed4
    exact k _ F3 H3 (g1.trans (g2.trans g3)) (.bl false)
  | true =>
    simp only [if_true] at ed4 ⊢
    obtain ⟨c, h5, ed5⟩ := Option.bind_eq_some_iff.mp ed4
    exact ⟨H0, F0, env, F3, c, rl.grow (g1.trans (g2.trans g3)), h5, fun w F4 H4 g4 b4 => ⟨F4, e, c, z, g4.sub, b2.grow (g3.trans g4) g2.sub, b4, ed5, fun w' F' H' g' hw => k w' F' H' (g1.trans (g2.trans (g3.trans (g4.trans g')))) hw⟩⟩
theorem vch {op op' : CmpOp} {g g' : D → D → Option D} (ho : OpR X (compareOp op) (rOf X.K g)) (ho' : OpR X (compareOp op') (rOf X.K g')) (ha : PVB X a da) (hb : PVB X b db) (hc : PVB X c dc)
    (hm : lastMarks [op, op'] [b, c] = false := by with_unfolding_all rfl) : PVE X (.Compare a [op, op'] [b, c] pos) (eCh g g' da db dc) :=
  PE.imp (pe_chain ho ho' ha hb hc hm) fun _ _ _ q => chain_rd q
theorem vchT {op op' : CmpOp} {g g' : D → D → Option D} (ho : OpR X (compareOp op) (rOf X.K g)) (ho' : OpR X (compareOp op') (rOf X.K g')) (ha : PVB X a da) (hb : PVB X b db) (hc : PVB X c dc)
    (hm : lastMarks [op, op'] [b, c] = false := by with_unfolding_all rfl) : PVT X (.Compare a [op, op'] [b, c] pos) (t1 isB (eCh g g' da db dc)) :=
  PT.imp (pt_chain ho ho' ha hb hc hm) fun σ H Q ⟨H0, F0, env, F, z, rl, ed, k⟩ => by
    obtain ⟨w, h1, h2⟩ := Option.bind_eq_some_iff.mp ed
    obtain rfl := isB_some h2
    refine chain_rd ⟨H0, F0, env, F, _, rl, h1, fun x F' H' g hd => ?_⟩
    cases hd
    exact ⟨_, rfl, k F' H' g⟩
/-- one operand -/
def ruOf (K : PySem.W.Frag) (g : D → Option D) : V → Hp → VK → Prop := fun x H Q => ∃ F d z, Same F H ∧ Bw K F H x d ∧ g d = some z ∧ ∀ w F' H', Grow F H F' H' → Dv K F' w z → Q w H'
theorem vun {op : UnaryOp} {g : D → Option D} (ho : UnR X (unaryOp op) (ruOf X.K g)) (ha : PVB X a da) : PVE X (.UnaryOp op a pos) (e1 g da) :=
  PE.imp (pe_un ho ha) fun σ H Q ⟨H0, F0, env, F, z, rl, ed, k⟩ => by
    obtain ⟨d, h1, ed⟩ := Option.bind_eq_some_iff.mp ed
    exact ⟨H0, F0, env, F, d, rl, h1, fun x F1 H1 g1 b1 => ⟨F1, d, z, g1.sub, b1, ed, fun w F' H' g' hw => k w F' H' (g1.trans g') hw⟩⟩
/-- a subscript -/
theorem vix {g : D → D → Option D} (hr : IxR X (rOf X.K g)) (ha : PVB X a da) (hb : PVB X b db) (hs : PlainIx b := by exact fun _ _ => rfl) : PVE X (.Subscript a b pos) (e2 g da db) :=
  PE.imp (pe_ix hr ha hb hs) fun _ _ _ q => bin_rd q

/-! ### arguments, displays -/
inductive BwA (K : PySem.W.Frag) (F H : Hp) : List V → List D → Prop
  | nil : BwA K F H [] []
  | cons {v : V} {vs : List V} {d : D} {ds : List D} : Bw K F H v d → BwA K F H vs ds → BwA K F H (v :: vs) (d :: ds)
theorem BwA.grow {K : PySem.W.Frag} {F H F' H' : Hp} (g : Grow F H F' H') (s : Same F H) : ∀ {xs : List V} {ds : List D}, BwA K F H xs ds → BwA K F' H' xs ds
  | _, _, .nil => .nil
  | _, _, .cons h t => .cons (h.grow g s) (BwA.grow g s t)
def rdAB (K : PySem.W.Frag) (den : Ev → Option (List D)) : TA := fun σ H Q => ∃ H0 F0 env F ds, Rel K H0 F0 env σ F H ∧ den env = some ds ∧ ∀ xs F' H', Grow F H F' H' → BwA K F' H' xs ds → Q xs H'
abbrev PVAB (X : Cx) (es : List Expr) (den : Ev → Option (List D)) : Prop := PA X es (rdAB X.K den)
def aNil : Ev → Option (List D) := fun _ => some []
def aCons (da : Ev → Option D) (dr : Ev → Option (List D)) : Ev → Option (List D) := fun env => (da env).bind fun x => (dr env).bind fun xs => some (x :: xs)
variable {es : List Expr} {dr : Ev → Option (List D)}
theorem va_nil : PVA X [] aNil := PA.imp pa_nil fun σ H Q ⟨H0, F0, env, F, z, rl, ed, k⟩ => by cases ed; exact k [] F H (Grow.refl rl.sub) .nil
theorem vab_nil : PVAB X [] aNil := PA.imp pa_nil fun σ H Q ⟨H0, F0, env, F, z, rl, ed, k⟩ => by cases ed; exact k [] F H (Grow.refl rl.sub) .nil
theorem va_cons (ha : PVE X e da) (hr : PVA X es dr) (hs : starEach (e :: es) X.env = (false, eval e X.env) :: starEach es X.env := by rfl) : PVA X (e :: es) (aCons da dr) :=
  PA.imp (pa_cons ha hr hs) fun σ H Q ⟨H0, F0, env, F, z, rl, ed, k⟩ => by
    obtain ⟨d, h1, ed⟩ := Option.bind_eq_some_iff.mp ed
    obtain ⟨ds, h2, ed⟩ := Option.bind_eq_some_iff.mp ed
    cases ed
    exact ⟨H0, F0, env, F, d, rl, h1, fun x F1 H1 g1 b1 => ⟨H0, F0, env, F1, ds, rl.grow g1, h2, fun xs F2 H2 g2 b2 => k _ F2 H2 (g1.trans g2) (.cons (Dv.mono (g2.ff g1.sub) _ _ b1) b2)⟩⟩
theorem vab_cons (ha : PVB X e da) (hr : PVAB X es dr) (hs : starEach (e :: es) X.env = (false, eval e X.env) :: starEach es X.env := by rfl) : PVAB X (e :: es) (aCons da dr) :=
  PA.imp (pa_cons ha hr hs) fun σ H Q ⟨H0, F0, env, F, z, rl, ed, k⟩ => by
    obtain ⟨d, h1, ed⟩ := Option.bind_eq_some_iff.mp ed
    obtain ⟨ds, h2, ed⟩ := Option.bind_eq_some_iff.mp ed
    cases ed
    exact ⟨H0, F0, env, F, d, rl, h1, fun x F1 H1 g1 b1 => ⟨H0, F0, env, F1, ds, rl.grow g1, h2, fun xs F2 H2 g2 b2 => k _ F2 H2 (g1.trans g2) (.cons (b1.grow g2 g1.sub) b2)⟩⟩
def line : Nat := 16777216
theorem le_line {n : Nat} (h : n ≤ line) : n ≤ sizeLine := by rw [sizeLine_eq]; exact h
def tupD (ds : List D) : Option D := if ds.length ≤ line then some (.tuple ds) else none
def eTup (dr : Ev → Option (List D)) : Ev → Option D := fun env => (dr env).bind tupD
theorem vtup {x1} (h : PVA X es dr) : PVE X (.Tuple es x1 pos) (eTup dr) := PE.imp (pe_tup h) fun σ H Q ⟨H0, F0, env, F, z, rl, ed, k⟩ => by
  obtain ⟨ds, h1, ed⟩ := Option.bind_eq_some_iff.mp ed
  unfold tupD at ed
  split at ed <;> cases ed
  rename_i hz
  refine ⟨H0, F0, env, F, ds, rl, h1, fun xs F1 H1 g1 b1 => ⟨by rw [DvA.length b1]; exact le_line hz, fun p hp => k _ _ _ (g1.trans (Grow.new g1.sub hp)) (.tup upd_same (DvA.mono (same_upd (fnone g1.sub hp)) _ _ b1))⟩⟩
def nLst (dr : Ev → Option (List D)) : Ev → Option (List D) := fun env => (dr env).bind fun ds => if ds.length ≤ line then some ds else none
theorem vlst (h : PVA X es dr) : PVN X (.List es pos) (nLst dr) := PE.imp (pe_lst h) fun σ H Q ⟨H0, F0, env, F, z, rl, ed, k⟩ => by
  obtain ⟨ds, h1, ed⟩ := Option.bind_eq_some_iff.mp ed
  split at ed <;> cases ed
  rename_i hz
  refine ⟨H0, F0, env, F, z, rl, h1, fun xs F1 H1 g1 b1 => ⟨by rw [DvA.length b1]; exact le_line hz, fun p hp => ?_⟩⟩
  refine k p xs F1 _ (g1.trans (Grow.made g1.sub hp)) ?_ upd_same (fnone g1.sub hp) b1
  cases hh : H p with
  | none => rfl
  | some o => rw [g1.hh p o hh] at hp; cases hp

/-! ### calls of what is built in -/
def rcOf (K : PySem.W.Frag) (g : List D → Option D) : List V → Hp → VK → Prop := fun xs H Q => ∃ F ds z, Same F H ∧ BwA K F H xs ds ∧ g ds = some z ∧ ∀ w F' H', Grow F H F' H' → Dv K F' w z → Q w H'
def rcnOf (K : PySem.W.Frag) (g : List D → Option (List D)) : List V → Hp → VK → Prop := fun xs H Q => ∃ F ds zs, Same F H ∧ BwA K F H xs ds ∧ g ds = some zs ∧
  ∀ a vs F' H', Grow F H F' H' → H a = none → H' a = some (.lst vs) → F' a = none → DvA K F' vs zs → Q (.ref a) H'
def eA (g : List D → Option D) (dr : Ev → Option (List D)) : Ev → Option D := fun env => (dr env).bind g
def nA (g : List D → Option (List D)) (dr : Ev → Option (List D)) : Ev → Option (List D) := fun env => (dr env).bind g
theorem call_rd {K : PySem.W.Frag} {g : List D → Option D} {σ : St} {H : Hp} {Q : VK} (q : rdE K (eA g dr) σ H Q) : tCB (rcOf K g) (rdAB K dr) σ H Q := by
  obtain ⟨H0, F0, env, F, z, rl, ed, k⟩ := q
  obtain ⟨ds, h1, ed⟩ := Option.bind_eq_some_iff.mp ed
  exact ⟨H0, F0, env, F, ds, rl, h1, fun xs F1 H1 g1 b1 => ⟨F1, ds, z, g1.sub, b1, ed, fun w F' H' g' hw => k w F' H' (g1.trans g') hw⟩⟩
theorem call_rn {K : PySem.W.Frag} {g : List D → Option (List D)} {σ : St} {H : Hp} {Q : VK} (q : rdN K (nA g dr) σ H Q) : tCB (rcnOf K g) (rdAB K dr) σ H Q := by
  obtain ⟨H0, F0, env, F, z, rl, ed, k⟩ := q
  obtain ⟨ds, h1, ed⟩ := Option.bind_eq_some_iff.mp ed
  refine ⟨H0, F0, env, F, ds, rl, h1, fun xs F1 H1 g1 b1 => ⟨F1, ds, z, g1.sub, b1, ed, fun a vs F' H' g' hn ha hf hv => k a vs F' H' (g1.trans g') ?_ ha hf hv⟩⟩
  cases hh : H a with
  | none => rfl
  | some o => rw [g1.hh a o hh] at hn; cases hn
variable {x : Str} {p : Pos} {id T : String}
theorem vcall {g : List D → Option D} (hc : CallR X (.builtin id) (rcOf X.K g)) (hm : X.mg x = none) (hv : bootBuiltins x = some (.builtin id)) (ha : PVAB X (e :: es) dr) (hg : Gl X x := by rfl) (hn : x ≠ "__name__" := by decide) (hdb : (x == ("__debug__" : Str)) = false := by decide)
    (he : starEach (e :: es) X.env = (false, eval e X.env) :: starEach es X.env := by rfl) (hpl : (backTo pos (starEach es X.env)).any (·.1) = false := by rfl) : PVE X (.Call (.Name x p) (e :: es) [] pos) (eA g dr) :=
  PE.imp (pe_callB hc hg hm hv ha hn hdb he hpl) fun _ _ _ q => call_rd q
theorem vcallN {g : List D → Option (List D)} (hc : CallR X (.builtin id) (rcnOf X.K g)) (hm : X.mg x = none) (hv : bootBuiltins x = some (.builtin id)) (ha : PVAB X (e :: es) dr) (hg : Gl X x := by rfl) (hn : x ≠ "__name__" := by decide) (hdb : (x == ("__debug__" : Str)) = false := by decide)
    (he : starEach (e :: es) X.env = (false, eval e X.env) :: starEach es X.env := by rfl) (hpl : (backTo pos (starEach es X.env)).any (·.1) = false := by rfl) : PVN X (.Call (.Name x p) (e :: es) [] pos) (nA g dr) :=
  PE.imp (pe_callB hc hg hm hv ha hn hdb he hpl) fun _ _ _ q => call_rn q
theorem vty {g : List D → Option D} (hc : CallR X (.type T) (rcOf X.K g)) (hm : X.mg x = none) (hv : bootBuiltins x = some (.type T)) (ha : PVAB X (e :: es) dr) (hg : Gl X x := by rfl) (hn : x ≠ "__name__" := by decide) (hdb : (x == ("__debug__" : Str)) = false := by decide)
    (he : starEach (e :: es) X.env = (false, eval e X.env) :: starEach es X.env := by rfl) (hpl : (backTo pos (starEach es X.env)).any (·.1) = false := by rfl) : PVE X (.Call (.Name x p) (e :: es) [] pos) (eA g dr) :=
  PE.imp (pe_callTy hc hg hm hv ha hn hdb he hpl) fun _ _ _ q => call_rd q
theorem vtyN {g : List D → Option (List D)} (hc : CallR X (.type T) (rcnOf X.K g)) (hm : X.mg x = none) (hv : bootBuiltins x = some (.type T)) (ha : PVAB X (e :: es) dr) (hg : Gl X x := by rfl) (hn : x ≠ "__name__" := by decide) (hdb : (x == ("__debug__" : Str)) = false := by decide)
    (he : starEach (e :: es) X.env = (false, eval e X.env) :: starEach es X.env := by rfl) (hpl : (backTo pos (starEach es X.env)).any (·.1) = false := by rfl) : PVN X (.Call (.Name x p) (e :: es) [] pos) (nA g dr) :=
  PE.imp (pe_callTy hc hg hm hv ha hn hdb he hpl) fun _ _ _ q => call_rn q

/-! ### slices -/
def rslOf (K : PySem.W.Frag) (g : D → Option Int → Option Int → Option D) : V → Option Int → Option Int → Hp → VK → Prop := fun x lo hi H Q => ∃ F d z, Same F H ∧ Bw K F H x d ∧ g d lo hi = some z ∧ ∀ w F' H', Grow F H F' H' → Dv K F' w z → Q w H'
def rslnOf (K : PySem.W.Frag) (g : D → Option Int → Option Int → Option (List D)) : V → Option Int → Option Int → Hp → VK → Prop := fun x lo hi H Q => ∃ F d zs, Same F H ∧ Bw K F H x d ∧ g d lo hi = some zs ∧
  ∀ a vs F' H', Grow F H F' H' → H a = none → H' a = some (.lst vs) → F' a = none → DvA K F' vs zs → Q (.ref a) H'
abbrev Part := Ev → Option (Option Int)
def pN : Part := fun _ => some none
def isI : D → Option Int
  | .int i => some i
  | _ => none
theorem isI_some {d : D} {i : Int} (h : isI d = some i) : d = .int i := by
  cases d <;> simp only [isI] at h <;> cases h
  rfl
def pI (da : Ev → Option D) : Part := fun env => (da env).bind fun d => (isI d).map some
def rdP (K : PySem.W.Frag) (den : Part) : TO := fun σ H Q => ∃ H0 F0 env F o, Rel K H0 F0 env σ F H ∧ den env = some o ∧ ∀ F' H', Grow F H F' H' → Q o H'
theorem PO.imp {eo : Option Expr} {t t' : TO} (h : PO X eo t) (k : ∀ σ H Q, t' σ H Q → t σ H Q) : PO X eo t' := ⟨fun pins s σ H Q I q => h.run pins s σ H Q I (k _ _ _ q)⟩
theorem vp_none : PO X none (rdP X.K pN) := PO.imp po_none fun σ H Q ⟨H0, F0, env, F, z, rl, ed, k⟩ => by cases ed; exact k F H (Grow.refl rl.sub)
theorem vp_some (h : PVE X e da) : PO X (some e) (rdP X.K (pI da)) := PO.imp (po_some h) fun σ H Q ⟨H0, F0, env, F, z, rl, ed, k⟩ => by
  obtain ⟨d, h1, ed⟩ := Option.bind_eq_some_iff.mp ed
  obtain ⟨i, h2, ed⟩ := Option.map_eq_some_iff.mp ed
  subst ed
  obtain rfl := isI_some h2
  refine ⟨H0, F0, env, F, _, rl, h1, fun x F1 H1 g1 b1 => ?_⟩
  cases b1
  exact ⟨i, rfl, k F1 H1 g1⟩
def eSl (g : D → Option Int → Option Int → Option D) (da : Ev → Option D) (pl ph : Part) : Ev → Option D := fun env => (da env).bind fun d => (pl env).bind fun l => (ph env).bind fun h => g d l h
def nSl (g : D → Option Int → Option Int → Option (List D)) (da : Ev → Option D) (pl ph : Part) : Ev → Option (List D) := fun env => (da env).bind fun d => (pl env).bind fun l => (ph env).bind fun h => g d l h
variable {lo hi : Option Expr} {pl ph : Part} {p2 : Pos}
theorem vslice {g : D → Option Int → Option Int → Option D} (hr : SlR X (rslOf X.K g)) (ha : PVB X a da) (hl : PO X lo (rdP X.K pl)) (hu : PO X hi (rdP X.K ph)) : PVE X (.Subscript a (.Slice lo hi none p2) pos) (eSl g da pl ph) :=
  PE.imp (pe_slice hr ha hl hu) fun σ H Q ⟨H0, F0, env, F, z, rl, ed, k⟩ => by
    obtain ⟨d, h1, ed⟩ := Option.bind_eq_some_iff.mp ed
    obtain ⟨l, h2, ed⟩ := Option.bind_eq_some_iff.mp ed
    obtain ⟨h, h3, ed⟩ := Option.bind_eq_some_iff.mp ed
    exact ⟨H0, F0, env, F, d, rl, h1, fun x F1 H1 g1 b1 => ⟨H0, F0, env, F1, l, rl.grow g1, h2, fun F2 H2 g2 => ⟨H0, F0, env, F2, h, rl.grow (g1.trans g2), h3, fun F3 H3 g3 =>
      ⟨F3, d, z, g3.sub, b1.grow (g2.trans g3) g1.sub, ed, fun w F' H' g' hw => k w F' H' (g1.trans (g2.trans (g3.trans g'))) hw⟩⟩⟩⟩
theorem vsliceN {g : D → Option Int → Option Int → Option (List D)} (hr : SlR X (rslnOf X.K g)) (ha : PVB X a da) (hl : PO X lo (rdP X.K pl)) (hu : PO X hi (rdP X.K ph)) : PVN X (.Subscript a (.Slice lo hi none p2) pos) (nSl g da pl ph) :=
  PE.imp (pe_slice hr ha hl hu) fun σ H Q ⟨H0, F0, env, F, z, rl, ed, k⟩ => by
    obtain ⟨d, h1, ed⟩ := Option.bind_eq_some_iff.mp ed
    obtain ⟨l, h2, ed⟩ := Option.bind_eq_some_iff.mp ed
    obtain ⟨h, h3, ed⟩ := Option.bind_eq_some_iff.mp ed
    refine ⟨H0, F0, env, F, d, rl, h1, fun x F1 H1 g1 b1 => ⟨H0, F0, env, F1, l, rl.grow g1, h2, fun F2 H2 g2 => ⟨H0, F0, env, F2, h, rl.grow (g1.trans g2), h3, fun F3 H3 g3 =>
      ⟨F3, d, z, g3.sub, b1.grow (g2.trans g3) g1.sub, ed, fun a vs F' H' g' hn ha hf hv => k a vs F' H' (g1.trans (g2.trans (g3.trans g'))) ?_ ha hf hv⟩⟩⟩⟩
    cases hh : H a with
    | none => rfl
    | some o => rw [(g1.trans (g2.trans g3)).hh a o hh] at hn; cases hn

/-! ### tests -/
def truD : D → Option Bool
  | .none => some false
  | .bool b => some b
  | .int i => some (i != 0)
  | .list xs => some (!xs.isEmpty)
  | .tuple xs => some (!xs.isEmpty)
  | _ => none
theorem tru_of {K : PySem.W.Frag} {F H : Hp} {y : V} {d : D} {k : Bool} (s : Same F H) (h : Bw K F H y d) (t : truD d = some k) : TruV K y H k := by
  have em : ∀ {vs : List V} {ds : List D}, DvA K F vs ds → (!ds.isEmpty) = !vs.isEmpty := fun q => by cases q <;> rfl
  rcases h with h | ⟨a, vs, ds, rfl, rfl, h1, h2⟩
  · cases h <;> simp only [truD, Option.some.injEq] at t
    case non => exact t.symm
    case bl => exact t.symm
    case int => exact t.symm
    case str => cases t
    case lst h1 h2 => subst t; exact .inl ⟨_, SqL.of (s _ _ h1), em h2⟩
    case tup h1 h2 => subst t; exact .inr (.inl ⟨_, SqT.of (s _ _ h1), em h2⟩)
    case scr => cases t
    case dk => cases t
    case dt => cases t
  · simp only [truD, Option.some.injEq] at t
    subst t
    exact .inl ⟨_, SqL.of h1, em h2⟩
/-- an expression's truth (not a comparison, and, or, not, if) -/
theorem vtru (ha : PVB X a da) (he : ∀ whole, isTrue a X.env whole = (do let v ← whole; standAt a.pos; holding [v] (truthy v)) := by intro _; rfl) : PVT X a (t1 truD da) :=
  PT.imp (pt_truth ha he) fun σ H Q ⟨H0, F0, env, F, z, rl, ed, k⟩ => by
    obtain ⟨d, h1, ed⟩ := Option.bind_eq_some_iff.mp ed
    exact ⟨H0, F0, env, F, d, rl, h1, fun x F1 H1 g1 b1 => ⟨z, tru_of g1.sub b1 ed, k F1 H1 g1⟩⟩
def tAn (ta tb : Ev → Option Bool) : Ev → Option Bool := fun env => (ta env).bind fun c => if c = true then tb env else some false
def tOr' (ta tb : Ev → Option Bool) : Ev → Option Bool := fun env => (ta env).bind fun c => if c = true then some true else tb env
def tNo (ta : Ev → Option Bool) : Ev → Option Bool := fun env => (ta env).map fun c => !c
variable {ta tb : Ev → Option Bool} {rest : List Expr}
theorem vw_and1 (ha : PVT X a ta) : PVW X (.BoolOp .And [a] pos) ta := pw_and1 ha
theorem vw_or1 (ha : PVT X a ta) : PVW X (.BoolOp .Or [a] pos) ta := pw_or1 ha
theorem vw_and (ha : PVT X a ta) (hb : PVW X (.BoolOp .And (b :: rest) pos) tb) : PVW X (.BoolOp .And (a :: b :: rest) pos) (tAn ta tb) :=
  PW.imp (pw_and ha hb) fun σ H Q ⟨H0, F0, env, F, z, rl, ed, k⟩ => by
    obtain ⟨c, h1, ed⟩ := Option.bind_eq_some_iff.mp ed
    refine ⟨H0, F0, env, F, c, rl, h1, fun F1 H1 g1 => ?_⟩
    cases c with
    | true => simp only [if_true] at ed ⊢; exact ⟨H0, F0, env, F1, z, rl.grow g1, ed, fun F2 H2 g2 => k F2 H2 (g1.trans g2)⟩
    | false => simp only [Bool.false_eq_true, if_false] at ed ⊢; cases ed; exact k F1 H1 g1
theorem vw_or (ha : PVT X a ta) (hb : PVW X (.BoolOp .Or (b :: rest) pos) tb) : PVW X (.BoolOp .Or (a :: b :: rest) pos) (tOr' ta tb) :=
  PW.imp (pw_or ha hb) fun σ H Q ⟨H0, F0, env, F, z, rl, ed, k⟩ => by
    obtain ⟨c, h1, ed⟩ := Option.bind_eq_some_iff.mp ed
    refine ⟨H0, F0, env, F, c, rl, h1, fun F1 H1 g1 => ?_⟩
    cases c with
    | true => simp only [if_true] at ed ⊢; cases ed; exact k F1 H1 g1
    | false => simp only [Bool.false_eq_true, if_false] at ed ⊢; exact ⟨H0, F0, env, F1, z, rl.grow g1, ed, fun F2 H2 g2 => k F2 H2 (g1.trans g2)⟩
theorem vt_not (ha : PVT X a ta) : PVT X (.UnaryOp .Not a pos) (tNo ta) :=
  PT.imp (pt_not ha) fun σ H Q ⟨H0, F0, env, F, z, rl, ed, k⟩ => by
    obtain ⟨c, h1, ed⟩ := Option.map_eq_some_iff.mp ed
    subst ed
    exact ⟨H0, F0, env, F, c, rl, h1, fun F1 H1 g1 => k F1 H1 g1⟩
/-- as values -/
def eAn (da db : Ev → Option D) : Ev → Option D := fun env => (da env).bind fun x => (truD x).bind fun c => if c = true then db env else some x
def eOr (da db : Ev → Option D) : Ev → Option D := fun env => (da env).bind fun x => (truD x).bind fun c => if c = true then some x else db env
theorem ve_one {op} (h : PVE X a da) : PVE X (.BoolOp op [a] pos) da := pe_one h
theorem ve_and (ha : PVE X a da) (hb : PVE X (.BoolOp .And (b :: rest) pos) db) : PVE X (.BoolOp .And (a :: b :: rest) pos) (eAn da db) :=
  PE.imp (pe_andT ha hb) fun σ H Q ⟨H0, F0, env, F, z, rl, ed, k⟩ => by
    obtain ⟨d, h1, ed⟩ := Option.bind_eq_some_iff.mp ed
    obtain ⟨c, h2, ed⟩ := Option.bind_eq_some_iff.mp ed
    refine ⟨H0, F0, env, F, d, rl, h1, fun x F1 H1 g1 b1 => ⟨c, tru_of g1.sub (.inl b1) h2, ?_⟩⟩
    cases c with
    | true => simp only [if_true] at ed ⊢; exact ⟨H0, F0, env, F1, z, rl.grow g1, ed, fun w F2 H2 g2 hw => k w F2 H2 (g1.trans g2) hw⟩
    | false => simp only [Bool.false_eq_true, if_false] at ed ⊢; cases ed; exact k x F1 H1 g1 b1
theorem ve_or (ha : PVE X a da) (hb : PVE X (.BoolOp .Or (b :: rest) pos) db) : PVE X (.BoolOp .Or (a :: b :: rest) pos) (eOr da db) :=
  PE.imp (pe_orT ha hb) fun σ H Q ⟨H0, F0, env, F, z, rl, ed, k⟩ => by
    obtain ⟨d, h1, ed⟩ := Option.bind_eq_some_iff.mp ed
    obtain ⟨c, h2, ed⟩ := Option.bind_eq_some_iff.mp ed
    refine ⟨H0, F0, env, F, d, rl, h1, fun x F1 H1 g1 b1 => ⟨c, tru_of g1.sub (.inl b1) h2, ?_⟩⟩
    cases c with
    | true => simp only [if_true] at ed ⊢; cases ed; exact k x F1 H1 g1 b1
    | false => simp only [Bool.false_eq_true, if_false] at ed ⊢; exact ⟨H0, F0, env, F1, z, rl.grow g1, ed, fun w F2 H2 g2 hw => k w F2 H2 (g1.trans g2) hw⟩
def notD (d : D) : Option D := (truD d).map fun k => .bool (!k)
theorem ve_not (ha : PVB X a da) : PVE X (.UnaryOp .Not a pos) (e1 notD da) :=
  PE.imp (pe_notT ha) fun σ H Q ⟨H0, F0, env, F, z, rl, ed, k⟩ => by
    obtain ⟨d, h1, ed⟩ := Option.bind_eq_some_iff.mp ed
    obtain ⟨c, h2, ed⟩ := Option.map_eq_some_iff.mp ed
    subst ed
    exact ⟨H0, F0, env, F, d, rl, h1, fun x F1 H1 g1 b1 => ⟨c, tru_of g1.sub b1 h2, k _ F1 H1 g1 (.bl _)⟩⟩
def eIf (tc : Ev → Option Bool) (da db : Ev → Option D) : Ev → Option D := fun env => (tc env).bind fun c => if c = true then da env else db env
theorem ve_if (hc : PVT X c ta) (ha : PVE X a da) (hb : PVE X b db) : PVE X (.IfExp c a b pos) (eIf ta da db) :=
  PE.imp (pe_ifExp hc ha hb) fun σ H Q ⟨H0, F0, env, F, z, rl, ed, k⟩ => by
    obtain ⟨c, h1, ed⟩ := Option.bind_eq_some_iff.mp ed
    refine ⟨H0, F0, env, F, c, rl, h1, fun F1 H1 g1 => ?_⟩
    cases c with
    | true => simp only [if_true] at ed ⊢; exact ⟨H0, F0, env, F1, z, rl.grow g1, ed, fun w F2 H2 g2 hw => k w F2 H2 (g1.trans g2) hw⟩
    | false => simp only [Bool.false_eq_true, if_false] at ed ⊢; exact ⟨H0, F0, env, F1, z, rl.grow g1, ed, fun w F2 H2 g2 hw => k w F2 H2 (g1.trans g2) hw⟩
end
end PV
end

section
set_option maxRecDepth 100000
set_option maxHeartbeats 4000000
namespace PV
open PySem PySem.Spec PyProof.Rows L2
section
variable {K : PySem.W.Frag} {F H : Hp} {x : V}
theorem Bw.int {i : Int} (h : Bw K F H x (.int i)) : x = .int i := by
  rcases h with h | ⟨_, _, _, _, e, _⟩
  · cases h; rfl
  · cases e
theorem Bw.bl {i : Bool} (h : Bw K F H x (.bool i)) : x = .bl i := by
  rcases h with h | ⟨_, _, _, _, e, _⟩
  · cases h; rfl
  · cases e
theorem Bw.non (h : Bw K F H x .none) : x = .non := by
  rcases h with h | ⟨_, _, _, _, e, _⟩
  · cases h; rfl
  · cases e
theorem Bw.str {z : Str} (h : Bw K F H x (.str z)) : x = .str z := by
  rcases h with h | ⟨_, _, _, _, e, _⟩
  · cases h; rfl
  · cases e
theorem Bw.lst {ds : List D} (h : Bw K F H x (.list ds)) (s : Same F H) : ∃ a vs, x = .ref a ∧ H a = some (.lst vs) ∧ DvA K F vs ds := by
  rcases h with h | ⟨a, vs, es, rfl, e, h1, h2⟩
  · cases h with | lst h1 h2 => exact ⟨_, _, rfl, s _ _ h1, h2⟩
  · cases e; exact ⟨a, vs, rfl, h1, h2⟩
theorem Bw.tup {ds : List D} (h : Bw K F H x (.tuple ds)) (s : Same F H) : ∃ a vs, x = .ref a ∧ H a = some (.tup vs) ∧ F a = some (.tup vs) ∧ DvA K F vs ds := by
  rcases h with h | ⟨a, vs, es, rfl, e, h1, h2⟩
  · cases h with | tup h1 h2 => exact ⟨_, _, rfl, s _ _ h1, h1, h2⟩
  · cases e
/-- not the script -/
def mkd : List (D × D) → Bool
  | (.none, _) :: _ => true
  | _ => false
theorem Bw.scr {kvs : List (D × D)} (h : Bw K F H x (.dict kvs)) (hm : mkd kvs = false) (s : Same F H) : ∃ (a : Addr) (ns : List Int), x = .ref a ∧ kvs = ns.map (fun n => (.int n, .none)) ∧ SqL K H a (ns.map V.int) := by
  rcases h with h | ⟨a, vs, es, rfl, e, h1, h2⟩
  · cases h with
    | scr e h1 => exact ⟨_, _, rfl, e, Same.seq s h1⟩
    | dk e _ _ _ => subst e; cases hm
    | dt e _ _ _ => subst e; cases hm
  · cases e
theorem Bw.dv {d : D} (h : Bw K F H x d) (s : Same F H) : Dv K H x d := h.here s
theorem BwA.one {xs : List V} {d : D} (h : BwA K F H xs [d]) : ∃ v, xs = [v] ∧ Bw K F H v d := by
  cases h with | cons h t => cases t; exact ⟨_, rfl, h⟩
theorem BwA.two {xs : List V} {d e : D} (h : BwA K F H xs [d, e]) : ∃ v u, xs = [v, u] ∧ Bw K F H v d ∧ Bw K F H u e := by
  cases h with | cons h t => cases t with | cons h2 t => cases t; exact ⟨_, _, rfl, h, h2⟩
/-- a new tuple, a new list that stays -/
theorem Dv.newTup {p : Addr} {vs : List V} {ds : List D} (hp : F p = none) (h : DvA K F vs ds) : Dv K (upd F p (.tup vs)) (.ref p) (.tuple ds) := .tup upd_same (DvA.mono (same_upd hp) _ _ h)
theorem Dv.newLst {p : Addr} {vs : List V} {ds : List D} (hp : F p = none) (h : DvA K F vs ds) : Dv K (upd F p (.lst vs)) (.ref p) (.list ds) := .lst upd_same (DvA.mono (same_upd hp) _ _ h)
theorem DvA.nil_iff {vs : List V} {ds : List D} (h : DvA K F vs ds) : vs = [] ↔ ds = [] := by cases h <;> simp
end

/-! ### numbers -/
def addD : D → D → Option D
  | .int i, .int j => some (.int (i + j))
  | .tuple xs, .tuple ys => if xs.length + ys.length ≤ line then some (.tuple (xs ++ ys)) else none
  | .list xs, .list ys => if xs.length + ys.length ≤ line then some (.list (xs ++ ys)) else none
  | _, _ => none
def subD : D → D → Option D
  | .int i, .int j => some (.int (i - j))
  | _, _ => none
def mulOk (i j : Int) : Bool := decide (i.natAbs < 18446744073709551616) || decide (j.natAbs < 18446744073709551616)
def fdivD : D → D → Option D
  | .int i, .int j => if 0 < j ∧ j.toNat < 1073741824 then some (.int (i / j)) else if j ≠ 0 ∧ j.natAbs < 1073741824 then some (.int (i.fdiv j)) else none
  | _, _ => none
def modD : D → D → Option D
  | .int i, .int j => if 0 < j then some (.int (i % j)) else if j ≠ 0 then some (.int (i.fmod j)) else none
  | _, _ => none
def powD : D → D → Option D
  | .int i, .int j => if 0 ≤ j ∧ j.toNat ≤ 1000000 ∧ i.natAbs < 18446744073709551616 then some (.int (i ^ j.toNat)) else none
  | _, _ => none
def shlD : D → D → Option D
  | .int i, .int j => if 0 ≤ j ∧ j.toNat ≤ 1000000 ∧ i.natAbs < 18446744073709551616 then some (.int (i * 2 ^ j.toNat)) else none
  | _, _ => none
def shrD : D → D → Option D
  | .int i, .int j => if 0 ≤ j then some (.int (i / 2 ^ j.toNat)) else none
  | _, _ => none
def bandD : D → D → Option D
  | .int i, .int j => some (.int (Builtin.bitAnd i j))
  | _, _ => none
def borD : D → D → Option D
  | .int i, .int j => some (.int (Builtin.bitOr i j))
  | _, _ => none
def negD : D → Option D
  | .int i => some (.int (-i))
  | _ => none
section
variable {X : Cx}
theorem op_ints {f : Value → Value → Sem Value} {r : R2} {g : D → D → Option D} {C : Int → Int → Prop} {h : Int → Int → V} (ho : OpR X f (rI C h))
    (hg : ∀ d e z, g d e = some z → ∃ i j, d = .int i ∧ e = .int j ∧ C i j ∧ Dv X.K (fun _ => none) (h i j) z) : OpR X f (rOf X.K g) := by
  intro pins s σ H x y v u Q I rx ry ⟨F, d, e, z, sb, b1, b2, hq, k⟩
  obtain ⟨i, j, rfl, rfl, hc, hz⟩ := hg d e z hq
  exact ho pins s σ H x y v u Q I rx ry ⟨i, j, b1.int, b2.int, hc, k _ F H (Grow.refl sb) (Dv.mono (fun _ _ q => by cases q) _ _ hz)⟩
theorem op_ints0 {f : Value → Value → Sem Value} {r : R2} {g : D → D → Option D} {h : Int → Int → V} (ho : OpR X f (rI0 h))
    (hg : ∀ d e z, g d e = some z → ∃ i j, d = .int i ∧ e = .int j ∧ Dv X.K (fun _ => none) (h i j) z) : OpR X f (rOf X.K g) := by
  intro pins s σ H x y v u Q I rx ry ⟨F, d, e, z, sb, b1, b2, hq, k⟩
  obtain ⟨i, j, rfl, rfl, hz⟩ := hg d e z hq
  exact ho pins s σ H x y v u Q I rx ry ⟨i, j, b1.int, b2.int, k _ F H (Grow.refl sb) (Dv.mono (fun _ _ q => by cases q) _ _ hz)⟩
theorem o_sub : OpR X (binaryOp .Sub) (rOf X.K subD) := op_ints0 (r := fun _ _ _ _ => True) op_sub fun d e z h => by
  unfold subD at h; split at h <;> cases h
  exact ⟨_, _, rfl, rfl, .int _⟩
theorem o_and : OpR X (binaryOp .BitAnd) (rOf X.K bandD) := op_ints0 (r := fun _ _ _ _ => True) op_and fun d e z h => by
  unfold bandD at h; split at h <;> cases h
  exact ⟨_, _, rfl, rfl, .int _⟩
theorem o_or : OpR X (binaryOp .BitOr) (rOf X.K borD) := op_ints0 (r := fun _ _ _ _ => True) op_or fun d e z h => by
  unfold borD at h; split at h <;> cases h
  exact ⟨_, _, rfl, rfl, .int _⟩
theorem o_pow : OpR X (binaryOp .Pow) (rOf X.K powD) := op_ints (r := fun _ _ _ _ => True) op_pow fun d e z h => by
  unfold powD at h; split at h
  · split at h <;> cases h
    rename_i hc
    exact ⟨_, _, rfl, rfl, ⟨hc.1, by omega, hc.2.2⟩, .int _⟩
  · cases h
theorem o_shl : OpR X (binaryOp .LShift) (rOf X.K shlD) := op_ints (r := fun _ _ _ _ => True) op_shl fun d e z h => by
  unfold shlD at h; split at h
  · split at h <;> cases h
    rename_i hc
    exact ⟨_, _, rfl, rfl, ⟨hc.1, by omega, hc.2.2⟩, .int _⟩
  · cases h
theorem o_shr : OpR X (binaryOp .RShift) (rOf X.K shrD) := op_ints (r := fun _ _ _ _ => True) op_shr fun d e z h => by
  unfold shrD at h; split at h
  · split at h <;> cases h
    rename_i hc
    exact ⟨_, _, rfl, rfl, hc, .int _⟩
  · cases h
theorem o_fdiv : OpR X (binaryOp .FloorDiv) (rOf X.K fdivD) := by
  intro pins s σ H x y v u Q I rx ry ⟨F, d, e, z, sb, b1, b2, hq, k⟩
  unfold fdivD at hq; split at hq
  · split at hq
    · rename_i hc
      cases hq
      exact op_fdiv pins s σ H x y v u Q I rx ry ⟨_, _, b1.int, b2.int, ⟨hc.1, by omega⟩, k _ F H (Grow.refl sb) (.int _)⟩
    · split at hq <;> cases hq
      rename_i hc
      exact op_fdivN pins s σ H x y v u Q I rx ry ⟨_, _, b1.int, b2.int, hc, k _ F H (Grow.refl sb) (.int _)⟩
  · cases hq
theorem o_mod : OpR X (binaryOp .Mod) (rOf X.K modD) := by
  intro pins s σ H x y v u Q I rx ry ⟨F, d, e, z, sb, b1, b2, hq, k⟩
  unfold modD at hq; split at hq
  · split at hq
    · rename_i hc
      cases hq
      exact op_mod pins s σ H x y v u Q I rx ry ⟨_, _, b1.int, b2.int, hc, k _ F H (Grow.refl sb) (.int _)⟩
    · split at hq <;> cases hq
      rename_i hc
      exact op_modN pins s σ H x y v u Q I rx ry ⟨_, _, b1.int, b2.int, hc, k _ F H (Grow.refl sb) (.int _)⟩
  · cases hq
theorem o_add : OpR X (binaryOp .Add) (rOf X.K addD) := by
  intro pins s σ H x y v u Q I rx ry ⟨F, d, e, z, sb, b1, b2, hq, k⟩
  unfold addD at hq; split at hq
  · cases hq
    exact op_add pins s σ H x y v u Q I rx ry ⟨_, _, b1.int, b2.int, k _ F H (Grow.refl sb) (.int _)⟩
  · split at hq <;> cases hq
    rename_i hz
    obtain ⟨a, vs, rfl, ha, fa, va⟩ := b1.tup sb
    obtain ⟨b, us, rfl, hb, fb, vb⟩ := b2.tup sb
    refine op_catA pins s σ H _ _ v u Q I rx ry ⟨a, b, vs, us, rfl, rfl, SqT.of ha, SqT.of hb, ?_, fun e0 => ?_, fun _ e0 => ?_, fun _ _ p hp => ?_⟩
    · rw [DvA.length va, DvA.length vb]; exact le_line hz
    · rw [(DvA.nil_iff va).mp e0] at k
      exact k _ F H (Grow.refl sb) (.tup fb vb)
    · rw [(DvA.nil_iff vb).mp e0, List.append_nil] at k
      exact k _ F H (Grow.refl sb) (.tup fa va)
    · exact k _ _ _ (Grow.new sb hp) (Dv.newTup (fnone sb hp) (DvA.append va vb))
  · split at hq <;> cases hq
    rename_i hz
    obtain ⟨a, vs, rfl, ha, va⟩ := b1.lst sb
    obtain ⟨b, us, rfl, hb, vb⟩ := b2.lst sb
    refine op_cat pins s σ H _ _ v u Q I rx ry ⟨a, b, vs, us, rfl, rfl, ha, hb, ?_, fun p hp => ?_⟩
    · rw [DvA.length va, DvA.length vb]; exact le_line hz
    · exact k _ _ _ (Grow.new sb hp) (Dv.newLst (fnone sb hp) (DvA.append va vb))
  · cases hq
def catLD : D → D → Option (List D)
  | .list xs, .list ys => if xs.length + ys.length ≤ line then some (xs ++ ys) else none
  | _, _ => none
theorem on_cat : OpR X (binaryOp .Add) (rnOf X.K catLD) := by
  intro pins s σ H x y v u Q I rx ry ⟨F, d, e, z, sb, b1, b2, hq, k⟩
  unfold catLD at hq; split at hq
  · split at hq <;> cases hq
    rename_i hz
    obtain ⟨a, vs, rfl, ha, va⟩ := b1.lst sb
    obtain ⟨b, us, rfl, hb, vb⟩ := b2.lst sb
    refine op_cat pins s σ H _ _ v u Q I rx ry ⟨a, b, vs, us, rfl, rfl, ha, hb, ?_, fun p hp => ?_⟩
    · rw [DvA.length va, DvA.length vb]; exact le_line hz
    · exact k _ _ _ _ (Grow.made sb hp) hp upd_same (fnone sb hp) (DvA.append va vb)
  · cases hq
theorem o_neg : UnR X (unaryOp .USub) (ruOf X.K negD) := by
  intro pins s σ H x v Q I rx ⟨F, d, z, sb, b1, hq, k⟩
  unfold negD at hq; split at hq <;> cases hq
  exact un_neg pins s σ H x v Q I rx ⟨_, b1.int, k _ F H (Grow.refl sb) (.int _)⟩

/-! ### comparisons -/
def okD (d : D) : Bool := SeqAt.shaped d
def eqD (d e : D) : Option D := if okD d && okD e then some (.bool (PyData.eqv d e)) else none
def neD (d e : D) : Option D := if okD d && okD e then some (.bool (!PyData.eqv d e)) else none
theorem o_eq {k : Nat} (hr : Room k X.A) : OpR X (compareOp .Eq) (rOf X.K eqD) := by
  intro pins s σ H x y v u Q I rx ry ⟨F, d, e, z, sb, b1, b2, hq, k⟩
  unfold eqD at hq; split at hq <;> cases hq
  rename_i hc
  have hc := Bool.and_eq_true_iff.mp hc
  exact op_eqD hr.units pins s σ H x y v u Q I rx ry ⟨d, e, Dv.dp d x (SeqAt.canLay_of_shaped hc.1) (b1.here sb), Dv.dp e y (SeqAt.canLay_of_shaped hc.2) (b2.here sb), hc.1, hc.2, k _ F H (Grow.refl sb) (.bl _)⟩
theorem o_ne {k : Nat} (hr : Room k X.A) : OpR X (compareOp .NotEq) (rOf X.K neD) := by
  intro pins s σ H x y v u Q I rx ry ⟨F, d, e, z, sb, b1, b2, hq, k⟩
  unfold neD at hq; split at hq <;> cases hq
  rename_i hc
  have hc := Bool.and_eq_true_iff.mp hc
  exact op_neD hr.units pins s σ H x y v u Q I rx ry ⟨d, e, Dv.dp d x (SeqAt.canLay_of_shaped hc.1) (b1.here sb), Dv.dp e y (SeqAt.canLay_of_shaped hc.2) (b2.here sb), hc.1, hc.2, k _ F H (Grow.refl sb) (.bl _)⟩
/-- data that may be compared -/
def ltOk (d e : D) : Bool := okD d && okD e && PySem.W.alike d e
def ltD : D → D → Option D
  | .int i, .int j => some (.bool (decide (i < j)))
  | .tuple xs, .tuple ys => if ltOk (.tuple xs) (.tuple ys) = true then some (.bool (PySem.W.dataLt (.tuple xs) (.tuple ys))) else none
  | _, _ => none
def leD : D → D → Option D
  | .int i, .int j => some (.bool (decide (i ≤ j)))
  | .tuple xs, .tuple ys => if ltOk (.tuple xs) (.tuple ys) = true then some (.bool (!PySem.W.dataLt (.tuple ys) (.tuple xs))) else none
  | _, _ => none
def gtD : D → D → Option D
  | .int i, .int j => some (.bool (decide (j < i)))
  | .tuple xs, .tuple ys => if ltOk (.tuple xs) (.tuple ys) = true then some (.bool (PySem.W.dataLt (.tuple ys) (.tuple xs))) else none
  | _, _ => none
def geD : D → D → Option D
  | .int i, .int j => some (.bool (decide (j ≤ i)))
  | .tuple xs, .tuple ys => if ltOk (.tuple xs) (.tuple ys) = true then some (.bool (!PySem.W.dataLt (.tuple xs) (.tuple ys))) else none
  | _, _ => none
theorem ltOk_spec {K : PySem.W.Frag} {F H : Hp} {x y : V} {d e : D} {X : Cx} {pins : List (Addr × Obj)} {σ : L2.St} {s : Shared} {v u : Value} (hK : X.K = K) (h : ltOk d e = true) (I : Inv X pins σ H s) (sb : Same F H) (b1 : Bw K F H x d) (b2 : Bw K F H y e)
    (rx : RelV x v) (ry : RelV y u) (hu : X.A.units + 65 < cLine) : (∃ as, Reads s.heap v d as) ∧ (∃ bs, Reads s.heap u e bs) ∧ PySem.W.alike d e = true ∧ X.A.units + min d.depth e.depth < cLine := by
  subst hK
  simp only [ltOk, Bool.and_eq_true] at h
  have h1 := SeqAt.canLay_of_shaped h.1.1
  have h2 := SeqAt.canLay_of_shaped h.1.2
  have h3 := SeqAt.depth_of_shaped h.1.1
  refine ⟨Dp.reads I d x v (Dv.dp d x h1 (b1.here sb)) rx, Dp.reads I e y u (Dv.dp e y h2 (b2.here sb)) ry, h.2, ?_⟩
  have := Nat.min_le_left d.depth e.depth
  omega
theorem o_lt {k : Nat} (hr : Room k X.A) : OpR X (compareOp .Lt) (rOf X.K ltD) := by
  intro pins s σ H x y v u Q I rx ry ⟨F, d, e, z, sb, b1, b2, hq, k⟩
  unfold ltD at hq; split at hq
  · cases hq
    exact op_lt pins s σ H x y v u Q I rx ry ⟨_, _, b1.int, b2.int, k _ F H (Grow.refl sb) (.bl _)⟩
  · obtain ⟨hc, hz⟩ := Option.ite_none_right_eq_some.mp hq
    obtain rfl := Option.some.inj hz
    obtain ⟨⟨as, r1⟩, ⟨bs, r2⟩, h3, h4⟩ := ltOk_spec rfl hc I sb b1 b2 rx ry (by have := hr.un; omega)
    exact PySem.W.lt_data r1 r2 h3 (by intro q; cases q) h4 ⟨.bl _, H, I, rfl, k _ F H (Grow.refl sb) (.bl _)⟩
  · cases hq
theorem o_le {k : Nat} (hr : Room k X.A) : OpR X (compareOp .LtE) (rOf X.K leD) := by
  intro pins s σ H x y v u Q I rx ry ⟨F, d, e, z, sb, b1, b2, hq, k⟩
  unfold leD at hq; split at hq
  · cases hq
    exact op_le pins s σ H x y v u Q I rx ry ⟨_, _, b1.int, b2.int, k _ F H (Grow.refl sb) (.bl _)⟩
  · obtain ⟨hc, hz⟩ := Option.ite_none_right_eq_some.mp hq
    obtain rfl := Option.some.inj hz
    obtain ⟨⟨as, r1⟩, ⟨bs, r2⟩, h3, h4⟩ := ltOk_spec rfl hc I sb b1 b2 rx ry (by have := hr.un; omega)
    exact PySem.W.le_data r1 r2 h3 (by intro q; cases q) h4 ⟨.bl _, H, I, rfl, k _ F H (Grow.refl sb) (.bl _)⟩
  · cases hq
theorem o_gt {k : Nat} (hr : Room k X.A) : OpR X (compareOp .Gt) (rOf X.K gtD) := by
  intro pins s σ H x y v u Q I rx ry ⟨F, d, e, z, sb, b1, b2, hq, k⟩
  unfold gtD at hq; split at hq
  · cases hq
    exact op_gt pins s σ H x y v u Q I rx ry ⟨_, _, b1.int, b2.int, k _ F H (Grow.refl sb) (.bl _)⟩
  · obtain ⟨hc, hz⟩ := Option.ite_none_right_eq_some.mp hq
    obtain rfl := Option.some.inj hz
    obtain ⟨⟨as, r1⟩, ⟨bs, r2⟩, h3, h4⟩ := ltOk_spec rfl hc I sb b1 b2 rx ry (by have := hr.un; omega)
    exact PySem.W.gt_data r1 r2 h3 (by intro q; cases q) h4 ⟨.bl _, H, I, rfl, k _ F H (Grow.refl sb) (.bl _)⟩
  · cases hq
theorem o_ge {k : Nat} (hr : Room k X.A) : OpR X (compareOp .GtE) (rOf X.K geD) := by
  intro pins s σ H x y v u Q I rx ry ⟨F, d, e, z, sb, b1, b2, hq, k⟩
  unfold geD at hq; split at hq
  · cases hq
    exact op_ge pins s σ H x y v u Q I rx ry ⟨_, _, b1.int, b2.int, k _ F H (Grow.refl sb) (.bl _)⟩
  · obtain ⟨hc, hz⟩ := Option.ite_none_right_eq_some.mp hq
    obtain rfl := Option.some.inj hz
    obtain ⟨⟨as, r1⟩, ⟨bs, r2⟩, h3, h4⟩ := ltOk_spec rfl hc I sb b1 b2 rx ry (by have := hr.un; omega)
    exact PySem.W.ge_data r1 r2 h3 (by intro q; cases q) h4 ⟨.bl _, H, I, rfl, k _ F H (Grow.refl sb) (.bl _)⟩
  · cases hq
/-- in a list, in a tuple -/
def memD (d : D) (ds : List D) : Bool := ds.any fun z => PyData.eqv z d
def inD : D → D → Option D
  | d, .list ds => if okD d && okD (.list ds) then some (.bool (memD d ds)) else none
  | d, .tuple ds => if okD d && okD (.list ds) then some (.bool (memD d ds)) else none
  | _, _ => none
def ninD : D → D → Option D
  | d, .list ds => if okD d && okD (.list ds) then some (.bool (!memD d ds)) else none
  | d, .tuple ds => if okD d && okD (.list ds) then some (.bool (!memD d ds)) else none
  | _, _ => none
theorem ok_lt (ds : List D) : SeqAt.shaped (.tuple ds) = SeqAt.shaped (.list ds) := by
  have h1 : PyData.canLay0 (.tuple ds) = PyData.canLay0 (.list ds) := by simp only [PyData.canLay0]
  have h2 : (PyData.tuple ds).depth = (PyData.list ds).depth := by simp only [PyData.depth]
  unfold SeqAt.shaped
  rw [h1, h2]
theorem o_in {k : Nat} (hr : Room k X.A) : OpR X (compareOp .In) (rOf X.K inD) := by
  intro pins s σ H x y v u Q I rx ry ⟨F, d, e, z, sb, b1, b2, hq, k⟩
  have hu : X.A.units + 65 < cLine := by have := hr.un; omega
  unfold inD at hq; split at hq
  · split at hq <;> cases hq
    rename_i hc
    have hc := Bool.and_eq_true_iff.mp hc
    exact op_inD hu pins s σ H x y v u Q I rx ry ⟨_, _, Dv.dp _ x (SeqAt.canLay_of_shaped hc.1) (b1.here sb), Dv.dp _ y (SeqAt.canLay_of_shaped hc.2) (b2.here sb), hc.1, hc.2, k _ F H (Grow.refl sb) (.bl _)⟩
  · split at hq <;> cases hq
    rename_i ds hc
    have hc := Bool.and_eq_true_iff.mp hc
    have hc2 : SeqAt.shaped (.tuple ds) = true := (ok_lt ds).trans hc.2
    obtain ⟨as, r1⟩ := Dp.reads I _ x v (Dv.dp _ x (SeqAt.canLay_of_shaped hc.1) (b1.here sb)) rx
    obtain ⟨bs, r2⟩ := Dp.reads I _ y u (Dv.dp _ y (SeqAt.canLay_of_shaped hc2) (b2.here sb)) ry
    exact SeqAt.in_tuple_reads r2 r1 (SeqAt.canLay_of_shaped hc2) (SeqAt.canLay_of_shaped hc.1) (room_in_shaped hc.1 hu) ⟨.bl _, H, I, rfl, k _ F H (Grow.refl sb) (.bl _)⟩
  · cases hq
theorem o_notin {k : Nat} (hr : Room k X.A) : OpR X (compareOp .NotIn) (rOf X.K ninD) := by
  intro pins s σ H x y v u Q I rx ry ⟨F, d, e, z, sb, b1, b2, hq, k⟩
  have hu : X.A.units + 65 < cLine := by have := hr.un; omega
  unfold ninD at hq; split at hq
  · split at hq <;> cases hq
    rename_i hc
    have hc := Bool.and_eq_true_iff.mp hc
    exact op_notInD hu pins s σ H x y v u Q I rx ry ⟨_, _, Dv.dp _ x (SeqAt.canLay_of_shaped hc.1) (b1.here sb), Dv.dp _ y (SeqAt.canLay_of_shaped hc.2) (b2.here sb), hc.1, hc.2, k _ F H (Grow.refl sb) (.bl _)⟩
  · split at hq <;> cases hq
    rename_i ds hc
    have hc := Bool.and_eq_true_iff.mp hc
    have hc2 : SeqAt.shaped (.tuple ds) = true := (ok_lt ds).trans hc.2
    obtain ⟨as, r1⟩ := Dp.reads I _ x v (Dv.dp _ x (SeqAt.canLay_of_shaped hc.1) (b1.here sb)) rx
    obtain ⟨bs, r2⟩ := Dp.reads I _ y u (Dv.dp _ y (SeqAt.canLay_of_shaped hc2) (b2.here sb)) ry
    exact SeqAt.notIn_tuple_reads r2 r1 (SeqAt.canLay_of_shaped hc2) (SeqAt.canLay_of_shaped hc.1) (room_in_shaped hc.1 hu) ⟨.bl _, H, I, rfl, k _ F H (Grow.refl sb) (.bl _)⟩
  · cases hq
/-- is None, is True, is False -/
def isNonD : D → Bool
  | .none => true
  | _ => false
def isD : D → D → Option D
  | d, .none => some (.bool (isNonD d))
  | .bool a, .bool b => some (.bool (decide (a = b)))
  | _, _ => none
def isntD : D → D → Option D
  | d, .none => some (.bool (!isNonD d))
  | .bool a, .bool b => some (.bool (!decide (a = b)))
  | _, _ => none
theorem non_iff {K : PySem.W.Frag} {F H : Hp} {x : V} {d : D} (b : Bw K F H x d) : decide (x = .non) = isNonD d := by
  rcases b with h | ⟨a, vs, es, rfl, rfl, _⟩
  · cases h <;> rfl
  · rfl
theorem o_is : OpR X (compareOp .Is) (rOf X.K isD) := by
  intro pins s σ H x y v u Q I rx ry ⟨F, d, e, z, sb, b1, b2, hq, k⟩
  unfold isD at hq; split at hq
  · cases hq
    exact op_isN pins s σ H x y v u Q I rx ry ⟨b2.non, by rw [non_iff b1]; exact k _ F H (Grow.refl sb) (.bl _)⟩
  · cases hq
    exact op_is_bl pins s σ H x y v u Q I rx ry ⟨_, _, b1.bl, b2.bl, k _ F H (Grow.refl sb) (.bl _)⟩
  · cases hq
theorem o_isnt : OpR X (compareOp .IsNot) (rOf X.K isntD) := by
  intro pins s σ H x y v u Q I rx ry ⟨F, d, e, z, sb, b1, b2, hq, k⟩
  unfold isntD at hq; split at hq
  · cases hq
    exact op_notN pins s σ H x y v u Q I rx ry ⟨b2.non, by rw [non_iff b1]; exact k _ F H (Grow.refl sb) (.bl _)⟩
  · cases hq
    exact op_isnot_bl pins s σ H x y v u Q I rx ry ⟨_, _, b1.bl, b2.bl, k _ F H (Grow.refl sb) (.bl _)⟩
  · cases hq

/-! ### items, slices -/
def ixD : D → D → Option D
  | .list ds, .int i => atI ds i
  | .tuple ds, .int i => atI ds i
  | .dict kvs, .int i => if mkd kvs = true then none else (atI kvs i).map (·.1)
  | _, _ => none
theorem at_dv {K : PySem.W.Frag} {F : Hp} {vs : List V} {ds : List D} {i : Int} {d : D} (h : DvA K F vs ds) (e : atI ds i = some d) : ∃ v, atI vs i = some v ∧ Dv K F v d := by
  unfold atI at e ⊢
  rw [DvA.length h]
  obtain ⟨j, h1, h2⟩ := Option.bind_eq_some_iff.mp e
  rw [h1]
  exact DvA.get h h2
theorem at_scr {ns : List Int} {i : Int} {z : D} (h : (atI (ns.map fun n => ((.int n, .none) : D × D)) i).map (·.1) = some z) : ∃ n, z = .int n ∧ atI (ns.map V.int) i = some (.int n) := by
  obtain ⟨p, h1, h2⟩ := Option.map_eq_some_iff.mp h
  subst h2
  obtain ⟨j, h3, h4⟩ := Option.bind_eq_some_iff.mp (show (ixN _ _).bind _ = _ from h1)
  rw [List.length_map] at h3
  rw [List.getElem?_map] at h4
  obtain ⟨n, h5, h6⟩ := Option.map_eq_some_iff.mp h4
  subst h6
  refine ⟨n, rfl, ?_⟩
  unfold atI
  rw [List.length_map, h3]
  show (ns.map V.int)[j]? = _
  rw [List.getElem?_map, h5]; rfl
theorem i_ix : IxR X (rOf X.K ixD) := by
  intro value slice pins s σ H x y v u Q I rx ry ⟨F, d, e, z, sb, b1, b2, hq, k⟩ hs
  unfold ixD at hq; split at hq
  · obtain ⟨a, vs, rfl, ha, va⟩ := b1.lst sb
    obtain ⟨w, e1, hw⟩ := at_dv va hq
    exact ix_list value slice pins s σ H _ y v u Q I rx ry ⟨a, vs, _, w, rfl, b2.int, SqL.of ha, e1, k _ F H (Grow.refl sb) hw⟩ hs
  · obtain ⟨a, vs, rfl, ha, fa, va⟩ := b1.tup sb
    obtain ⟨w, e1, hw⟩ := at_dv va hq
    exact ix_tup value slice pins s σ H _ y v u Q I rx ry ⟨a, vs, _, w, rfl, b2.int, SqT.of ha, e1, k _ F H (Grow.refl sb) hw⟩ hs
  · rename_i hi
    split at hq
    · cases hq
    rename_i hm
    obtain ⟨a, ns, rfl, rfl, ha⟩ := b1.scr (by simpa using hm) sb
    obtain ⟨n, rfl, e1⟩ := at_scr hq
    exact ix_list value slice pins s σ H _ y v u Q I rx ry ⟨a, ns.map V.int, _, _, rfl, b2.int, ha, e1, k _ F H (Grow.refl sb) (.int n)⟩ hs
  · cases hq
def cutL {α : Type} (xs : List α) (lo hi : Option Int) : List α := (xs.drop (HT.sIx xs.length 0 lo)).take (HT.sIx xs.length xs.length hi - HT.sIx xs.length 0 lo)
theorem cut_dv {K : PySem.W.Frag} {F : Hp} {vs : List V} {ds : List D} (h : DvA K F vs ds) (lo hi : Option Int) : DvA K F (cutV vs lo hi) (cutL ds lo hi) := by
  unfold cutV cutL
  rw [DvA.length h]
  exact DvA.take _ (DvA.drop _ h)
def slD : D → Option Int → Option Int → Option D
  | .list ds, lo, hi => some (.list (cutL ds lo hi))
  | .tuple ds, lo, hi => some (.tuple (cutL ds lo hi))
  | _, _, _ => none
theorem s_sl : SlR X (rslOf X.K slD) := by
  intro pins s σ H x v vl vu lo hi sl Q I rx hs pl pu ⟨F, d, z, sb, b1, hq, k⟩
  unfold slD at hq; split at hq
  · cases hq
    obtain ⟨a, vs, rfl, ha, va⟩ := b1.lst sb
    exact sl_list pins s σ H _ v vl vu lo hi sl Q I rx hs pl pu ⟨a, vs, rfl, SqL.of ha, fun p hp => k _ _ _ (Grow.new sb hp) (Dv.newLst (fnone sb hp) (cut_dv va lo hi))⟩
  · cases hq
    obtain ⟨a, vs, rfl, ha, fa, va⟩ := b1.tup sb
    refine sl_tupA pins s σ H _ v vl vu lo hi sl Q I rx hs pl pu ⟨a, vs, rfl, SqT.of ha, fun e => ?_, fun _ p hp => k _ _ _ (Grow.new sb hp) (Dv.newTup (fnone sb hp) (cut_dv va lo hi))⟩
    have q : DvA X.K F (cutV vs lo hi) (cutL _ lo hi) := cut_dv va lo hi
    have e2 : cutV vs lo hi = vs := by
      unfold cutV
      rw [e.1, e.2]
      simp
    rw [e2] at q
    exact k _ F H (Grow.refl sb) (.tup fa q)
  · cases hq
def slLD : D → Option Int → Option Int → Option (List D)
  | .list ds, lo, hi => some (cutL ds lo hi)
  | _, _, _ => none
theorem sn_sl : SlR X (rslnOf X.K slLD) := by
  intro pins s σ H x v vl vu lo hi sl Q I rx hs pl pu ⟨F, d, z, sb, b1, hq, k⟩
  unfold slLD at hq; split at hq
  · cases hq
    obtain ⟨a, vs, rfl, ha, va⟩ := b1.lst sb
    exact sl_list pins s σ H _ v vl vu lo hi sl Q I rx hs pl pu ⟨a, vs, rfl, SqL.of ha, fun p hp => k _ _ _ _ (Grow.made sb hp) hp upd_same (fnone sb hp) (cut_dv va lo hi)⟩
  · cases hq

/-! ### what is built in -/
def lenD : List D → Option D
  | [.list ds] => some (.int ds.length)
  | [.tuple ds] => some (.int ds.length)
  | [.str z] => if z.length ≤ line then some (.int z.length) else none
  | [.dict kvs] => if mkd kvs = true then none else some (.int kvs.length)
  | _ => none
theorem c_len : CallR X (.builtin "len") (rcOf X.K lenD) := by
  intro pins s σ H xs us Q I r ⟨F, ds, z, sb, b, hq, k⟩
  unfold lenD at hq; split at hq
  · cases hq
    obtain ⟨v, rfl, c⟩ := b.one
    obtain ⟨a, vs, rfl, ha, va⟩ := c.lst sb
    exact call_len_seq pins s σ H _ us Q I r ⟨a, vs, rfl, .inl (SqL.of ha), by rw [DvA.length va]; exact k _ F H (Grow.refl sb) (.int _)⟩
  · cases hq
    obtain ⟨v, rfl, c⟩ := b.one
    obtain ⟨a, vs, rfl, ha, fa, va⟩ := c.tup sb
    exact call_len_seq pins s σ H _ us Q I r ⟨a, vs, rfl, .inr (SqT.of ha), by rw [DvA.length va]; exact k _ F H (Grow.refl sb) (.int _)⟩
  · split at hq <;> cases hq
    rename_i hz
    obtain ⟨v, rfl, c⟩ := b.one
    exact call_len_str pins s σ H _ us Q I r ⟨_, by rw [c.str], le_line hz, k _ F H (Grow.refl sb) (.int _)⟩
  · split at hq
    · cases hq
    rename_i hm
    cases hq
    obtain ⟨v, rfl, c⟩ := b.one
    obtain ⟨a, ns, rfl, rfl, ha⟩ := c.scr (by simpa using hm) sb
    exact call_len_seq pins s σ H _ us Q I r ⟨a, ns.map V.int, rfl, .inl ha, by rw [List.length_map] at k ⊢; exact k _ F H (Grow.refl sb) (.int _)⟩
  · cases hq
def intD : List D → Option D
  | [.int i] => some (.int i)
  | [.bool k] => some (.int (if k then 1 else 0))
  | _ => none
theorem c_int : CallR X (.type "int") (rcOf X.K intD) := by
  intro pins s σ H xs us Q I r ⟨F, ds, z, sb, b, hq, k⟩
  unfold intD at hq; split at hq
  · cases hq
    obtain ⟨v, rfl, c⟩ := b.one
    exact call_int1 pins s σ H _ us Q I r (.inl ⟨_, by rw [c.int], k _ F H (Grow.refl sb) (.int _)⟩)
  · cases hq
    obtain ⟨v, rfl, c⟩ := b.one
    exact call_int1 pins s σ H _ us Q I r (.inr ⟨_, by rw [c.bl], k _ F H (Grow.refl sb) (.int _)⟩)
  · cases hq
def absD : List D → Option D
  | [.int i] => some (.int (if i < 0 then -i else i))
  | _ => none
theorem c_abs : CallR X (.builtin "abs") (rcOf X.K absD) := by
  intro pins s σ H xs us Q I r ⟨F, ds, z, sb, b, hq, k⟩
  unfold absD at hq; split at hq <;> cases hq
  obtain ⟨v, rfl, c⟩ := b.one
  exact call_abs pins s σ H _ us Q I r ⟨_, by rw [c.int], k _ F H (Grow.refl sb) (.int _)⟩
/-- the ints, the truth values of a list -/
def ints? : List D → Option (List Int)
  | [] => some []
  | .int i :: r => (ints? r).map (i :: ·)
  | _ :: _ => none
theorem ints_some : ∀ {ds : List D} {ns : List Int}, ints? ds = some ns → ds = ns.map PyData.int
  | [], _, h => by cases h; rfl
  | d :: r, ns, h => by
    cases d <;> simp only [ints?] at h <;> try cases h
    obtain ⟨ms, h1, h2⟩ := Option.map_eq_some_iff.mp h
    subst h2
    rw [ints_some h1]; rfl
theorem ints_map : ∀ ns : List Int, ints? (ns.map PyData.int) = some ns
  | [] => rfl
  | n :: r => by
    show (ints? (r.map PyData.int)).map (n :: ·) = _
    rw [ints_map r]; rfl
def bls? : List D → Option (List Bool)
  | [] => some []
  | .bool i :: r => (bls? r).map (i :: ·)
  | _ :: _ => none
theorem bls_some : ∀ {ds : List D} {ns : List Bool}, bls? ds = some ns → ds = ns.map PyData.bool
  | [], _, h => by cases h; rfl
  | d :: r, ns, h => by
    cases d <;> simp only [bls?] at h <;> try cases h
    obtain ⟨ms, h1, h2⟩ := Option.map_eq_some_iff.mp h
    subst h2
    rw [bls_some h1]; rfl
theorem bls_map : ∀ ns : List Bool, bls? (ns.map PyData.bool) = some ns
  | [] => rfl
  | n :: r => by
    show (bls? (r.map PyData.bool)).map (n :: ·) = _
    rw [bls_map r]; rfl
def sumD : List D → Option D
  | [.list ds] => (ints? ds).map fun ns => .int ns.sum
  | [.tuple ds] => (ints? ds).map fun ns => .int ns.sum
  | _ => none
theorem sum_tup {prog : Program} {w : World} {A : Around} {E : Value → Shared → Prop} {s : Shared} {l : Addr} {its : List Value} {ns : List Int} {Q : Value → Shared → Prop}
    (hh : A.handled = none) (hl : s.heap.IsTuple l its.toArray) (hi : IntsAre its ns)
    (h : ∀ h' tk t', (∀ b o, s.heap.get? b = some o → h'.get? b = some o) → Q (.int ns.sum t') { s with heap := h', toks := tk }) : wpAny (model prog w) A (call (.builtin "sum") [.ref l]) Q E s := by
  obtain ⟨xs, e⟩ := hi.allInts.items
  have hn : numsOf (intItems xs).toList = ns := by rw [← e]; exact hi.numsOf
  rw [nums_intItems] at hn
  rw [e] at hl
  refine PySem.W.ktm_sumG hh hl fun h' tk t' hk => ?_
  have := h h' tk t' hk
  rw [preSum_eq, List.take_of_length_le (by simp), hn]; exact this
theorem c_sum (hc : X.calm = true) : CallR X (.builtin "sum") (rcOf X.K sumD) := by
  intro pins s σ H xs us Q I r ⟨F, ds, z, sb, b, hq, k⟩
  unfold sumD at hq; split at hq
  · obtain ⟨ns, h1, h2⟩ := Option.map_eq_some_iff.mp hq
    subst h2
    obtain rfl := ints_some h1
    obtain ⟨v, rfl, c⟩ := b.one
    obtain ⟨a, vs, rfl, ha, va⟩ := c.lst sb
    obtain rfl := DvA.ints_inv va
    exact cr_sum hc pins s σ H _ us Q I r ⟨a, ns, rfl, SqL.of ha, k _ F H (Grow.refl sb) (.int _)⟩
  · obtain ⟨ns, h1, h2⟩ := Option.map_eq_some_iff.mp hq
    subst h2
    obtain rfl := ints_some h1
    obtain ⟨v, rfl, c⟩ := b.one
    obtain ⟨a, vs, rfl, ha, fa, va⟩ := c.tup sb
    obtain rfl := DvA.ints_inv va
    obtain ⟨its, rv, hl, _⟩ := I.tuple (SqT.of ha)
    rw [Vals.ref1 r]
    exact sum_tup (I.ok.hd hc) hl rv.ints fun h' tk t' hk => ⟨.int _, H, I.kept hk, ⟨_, rfl⟩, k _ F H (Grow.refl sb) (.int _)⟩
  · cases hq
def allD : List D → Option D
  | [.list ds] => (bls? ds).map fun bs => .bool (bs.all id)
  | _ => none
def anyD : List D → Option D
  | [.list ds] => (bls? ds).map fun bs => .bool (bs.any id)
  | _ => none
theorem c_all (hc : X.calm = true) : CallR X (.builtin "all") (rcOf X.K allD) := by
  intro pins s σ H xs us Q I r ⟨F, ds, z, sb, b, hq, k⟩
  unfold allD at hq; split at hq
  · obtain ⟨ns, h1, h2⟩ := Option.map_eq_some_iff.mp hq
    subst h2
    obtain rfl := bls_some h1
    obtain ⟨v, rfl, c⟩ := b.one
    obtain ⟨a, vs, rfl, ha, va⟩ := c.lst sb
    obtain rfl := DvA.bls_inv va
    exact cr_all hc pins s σ H _ us Q I r ⟨a, ns, rfl, SqL.of ha, k _ F H (Grow.refl sb) (.bl _)⟩
  · cases hq
theorem c_any (hc : X.calm = true) : CallR X (.builtin "any") (rcOf X.K anyD) := by
  intro pins s σ H xs us Q I r ⟨F, ds, z, sb, b, hq, k⟩
  unfold anyD at hq; split at hq
  · obtain ⟨ns, h1, h2⟩ := Option.map_eq_some_iff.mp hq
    subst h2
    obtain rfl := bls_some h1
    obtain ⟨v, rfl, c⟩ := b.one
    obtain ⟨a, vs, rfl, ha, va⟩ := c.lst sb
    obtain rfl := DvA.bls_inv va
    exact cr_any hc pins s σ H _ us Q I r ⟨a, ns, rfl, SqL.of ha, k _ F H (Grow.refl sb) (.bl _)⟩
  · cases hq
/-- tuple(x), list(x) -/
def tupOfD : List D → Option D
  | [.list ds] => some (.tuple ds)
  | [.tuple ds] => some (.tuple ds)
  | _ => none
theorem c_tup : CallR X (.type "tuple") (rcOf X.K tupOfD) := by
  intro pins s σ H xs us Q I r ⟨F, ds, z, sb, b, hq, k⟩
  unfold tupOfD at hq; split at hq
  · cases hq
    obtain ⟨v, rfl, c⟩ := b.one
    obtain ⟨a, vs, rfl, ha, va⟩ := c.lst sb
    exact call_tuple_of pins s σ H _ us Q I r ⟨a, vs, rfl, .inl ⟨SqL.of ha, fun p hp => k _ _ _ (Grow.new sb hp) (Dv.newTup (fnone sb hp) va)⟩⟩
  · cases hq
    obtain ⟨v, rfl, c⟩ := b.one
    obtain ⟨a, vs, rfl, ha, fa, va⟩ := c.tup sb
    exact call_tuple_of pins s σ H _ us Q I r ⟨a, vs, rfl, .inr ⟨SqT.of ha, k _ F H (Grow.refl sb) (.tup fa va)⟩⟩
  · cases hq
def lstOfD : List D → Option (List D)
  | [.list ds] => some ds
  | [.tuple ds] => some ds
  | _ => none
theorem cn_lst : CallR X (.type "list") (rcnOf X.K lstOfD) := by
  intro pins s σ H xs us Q I r ⟨F, ds, z, sb, b, hq, k⟩
  unfold lstOfD at hq; split at hq
  · cases hq
    obtain ⟨v, rfl, c⟩ := b.one
    obtain ⟨a, vs, rfl, ha, va⟩ := c.lst sb
    exact call_list_of pins s σ H _ us Q I r ⟨a, vs, rfl, .inl (SqL.of ha), fun p hp => k _ _ _ _ (Grow.made sb hp) hp upd_same (fnone sb hp) va⟩
  · cases hq
    obtain ⟨v, rfl, c⟩ := b.one
    obtain ⟨a, vs, rfl, ha, fa, va⟩ := c.tup sb
    exact call_list_of pins s σ H _ us Q I r ⟨a, vs, rfl, .inr (SqT.of ha), fun p hp => k _ _ _ _ (Grow.made sb hp) hp upd_same (fnone sb hp) va⟩
  · cases hq
/-- sorted, of ints -/
def ins (n : Int) : List Int → List Int
  | [] => [n]
  | m :: r => if n ≤ m then n :: m :: r else m :: ins n r
def sortI : List Int → List Int
  | [] => []
  | n :: r => ins n (sortI r)
theorem ins_perm (n : Int) : ∀ l : List Int, (ins n l).Perm (n :: l)
  | [] => .refl _
  | m :: r => by
    unfold ins
    split
    · exact .refl _
    · exact ((ins_perm n r).cons m).trans (.swap n m r)
theorem sortI_perm : ∀ l : List Int, (sortI l).Perm l
  | [] => .refl _
  | n :: r => (ins_perm n _).trans ((sortI_perm r).cons n)
theorem ins_sorted {n : Int} : ∀ {l : List Int}, l.Pairwise (· ≤ ·) → (ins n l).Pairwise (· ≤ ·)
  | [], _ => by simp [ins]
  | m :: r, h => by
    have h1 := (List.pairwise_cons.mp h)
    unfold ins
    split
    · rename_i hle
      refine List.pairwise_cons.mpr ⟨fun b hb => ?_, h⟩
      rcases List.mem_cons.mp hb with rfl | hb
      · exact hle
      · exact Int.le_trans hle (h1.1 b hb)
    · rename_i hle
      refine List.pairwise_cons.mpr ⟨fun b hb => ?_, ins_sorted h1.2⟩
      rcases List.mem_cons.mp ((ins_perm n r).mem_iff.mp hb) with rfl | hb
      · omega
      · exact h1.1 b hb
theorem sortI_sorted : ∀ l : List Int, (sortI l).Pairwise (· ≤ ·)
  | [] => .nil
  | _ :: r => ins_sorted (sortI_sorted r)
theorem sortI_of {a b : List Int} (hp : a.Perm b) (ha : a.Pairwise (· ≤ ·)) : a = sortI b :=
  PySem.W.ksm_same (hp.trans (sortI_perm b).symm) ha (sortI_sorted b)
def sortD : List D → Option (List D)
  | [.list ds] => (ints? ds).map fun ns => (sortI ns).map PyData.int
  | _ => none
theorem cn_sort : CallR X (.builtin "sorted") (rcnOf X.K sortD) := by
  intro pins s σ H xs us Q I r ⟨F, ds, z, sb, b, hq, k⟩
  unfold sortD at hq; split at hq
  · obtain ⟨ns, h1, h2⟩ := Option.map_eq_some_iff.mp hq
    subst h2
    obtain rfl := ints_some h1
    obtain ⟨v, rfl, c⟩ := b.one
    obtain ⟨a, vs, rfl, ha, va⟩ := c.lst sb
    obtain rfl := DvA.ints_inv va
    refine cr_sortedI pins s σ H _ us Q I r ⟨a, ns, rfl, SqL.of ha, fun ns' p h1 h2 hp => ?_⟩
    rw [sortI_of h1 h2]
    exact k _ _ _ _ (Grow.made sb hp) hp upd_same (fnone sb hp) (DvA.ints _)
  · cases hq
end
/-- isinstance(e, T) -/
def tyD : D → String
  | .none => "NoneType"
  | .bool _ => "bool"
  | .int _ => "int"
  | .str _ => "str"
  | .list _ => "list"
  | .tuple _ => "tuple"
  | .dict _ => "list"
def isiD (T : String) (d : D) : Option D := (kitB (tyD d) T).map .bool
theorem ty_of {K : PySem.W.Frag} {F H : Hp} {x : V} {d : D} {T : String} {z : D} (s : Same F H) (b : Bw K F H x d) (h : isiD T d = some z) (hd : ∀ kvs, d ≠ .dict kvs) : TyX K H x (.type (tyD d)) := by
  cases d with
  | none => rw [b.non]; exact .base .non
  | bool _ => rw [b.bl]; exact .base (.bl _)
  | int _ => rw [b.int]; exact .base (.int _)
  | str _ => rw [b.str]; exact .base (.str _)
  | list ds => obtain ⟨a, vs, rfl, ha, _⟩ := b.lst s; exact .base (.lst ha)
  | tuple ds => obtain ⟨a, vs, rfl, ha, _, _⟩ := b.tup s; exact .base (.tup ha)
  | dict kvs => exact absurd rfl (hd kvs)
def isiD' (T : String) : D → Option D
  | .dict _ => none
  | d => isiD T d
theorem vis {X : Cx} {e : Expr} {da : Ev → Option D} {T : String} {x : Str} {p p2 pos : Pos} (ha : PVB X e da) (hm : X.mg "isinstance" = none) (hm2 : X.mg x = none) (hv : bootBuiltins x = some (.type T)) (hg : Gl X "isinstance" := by rfl) (hg2 : Gl X x := by rfl)
    (hn : x ≠ "__name__" := by decide) (hdb : (x == ("__debug__" : Str)) = false := by decide)
    (he : starEach [e, .Name x p2] X.env = (false, eval e X.env) :: starEach [.Name x p2] X.env := by rfl) (hpl : (backTo pos (starEach [.Name x p2] X.env)).any (·.1) = false := by rfl) :
    PVE X (.Call (.Name "isinstance" p) [e, .Name x p2] [] pos) (e1 (isiD' T) da) :=
  PE.imp (pe_callB call_isi hg hm (by decide +kernel) (pa_cons ha (pa_cons (pe_bltn (v := .ty T) hg2 hm2 hv rfl hn hdb) pa_nil) he) (by decide) (by decide) he hpl) fun σ H Q ⟨H0, F0, env, F, z, rl, ed, k⟩ => by
    obtain ⟨d, h1, ed⟩ := Option.bind_eq_some_iff.mp ed
    refine ⟨H0, F0, env, F, d, rl, h1, fun y F1 H1 g1 b1 => ?_⟩
    have nd : ∀ kvs, d ≠ .dict kvs := fun kvs e => by subst e; cases ed
    have ed' : isiD T d = some z := by cases d <;> first | exact ed | exact absurd rfl (nd _)
    obtain ⟨b, h2, h3⟩ := Option.map_eq_some_iff.mp ed'
    subst h3
    exact ⟨y, .ty T, .type (tyD d), .type T, b, rfl, .ty T, ty_of g1.sub b1 ed' nd, kit_ty h2, k _ F1 H1 g1 (.bl b)⟩
end PV
end

section
set_option maxRecDepth 100000
set_option maxHeartbeats 4000000
namespace PV
open PySem PySem.Spec PyProof.Rows L2

theorem ite_some {α : Type} {c : Prop} [Decidable c] {a b : α} (h : (if c then some a else none) = some b) : c ∧ a = b := by
  split at h
  · cases h; exact ⟨by assumption, rfl⟩
  · cases h
/-! ### what is walked -/
structure WalkD (K : PySem.W.Frag) (Fs : Hp) (J : It) (ds : List D) : Prop where
  go : ∀ i F H, Same Fs F → Same F H → i < ds.length → J.go i H
  stop : ∀ F H, Same Fs F → Same F H → J.stop ds.length H
  yld : ∀ i F H x H', Same Fs F → Same F H → i < ds.length → J.yld i H x H' → ∃ F' d, Grow F H F' H' ∧ ds[i]? = some d ∧ Dv K F' x d
theorem WalkD.of {K : PySem.W.Frag} {Fs : Hp} {J : It} {ds : List D} {n : Nat} {G : Hp → Prop} {Y : Nat → Hp → V → Hp → Prop} (w : Walk J n G Y) (hn : n = ds.length) (hG : ∀ F H, Same Fs F → Same F H → G H)
    (hY : ∀ i F H x H', Same Fs F → Same F H → i < n → Y i H x H' → ∃ F' d, Grow F H F' H' ∧ ds[i]? = some d ∧ Dv K F' x d) : WalkD K Fs J ds :=
  ⟨fun i F H a b hi => w.goes i H (by omega) (hG F H a b), fun F H a b => by rw [← hn]; exact w.stops H (hG F H a b), fun i F H x H' a b hi y => hY i F H x H' a b (by omega) (w.yields i H x H' (by omega) (hG F H a b) y)⟩
def rdI (K : PySem.W.Frag) (den : Ev → Option (List D)) : TI := fun σ H R => ∃ H0 F0 env F ds, Rel K H0 F0 env σ F H ∧ den env = some ds ∧ ∀ J F' H', Grow F H F' H' → WalkD K F' J ds → R J H'
abbrev PVI (X : Cx) (tg it : Expr) (den : Ev → Option (List D)) : Prop := PI X tg it (rdI X.K den)
section
variable {X : Cx} {e a b c tg : Expr} {pos : Pos} {da db dc : Ev → Option D}
theorem PI.imp {t t' : TI} (h : PI X tg e t) (k : ∀ σ H Q, t' σ H Q → t σ H Q) : PI X tg e t' := ⟨fun pins s σ H R I q => h.run pins s σ H R I (k _ _ _ q)⟩
theorem PI.or {t t' : TI} (h : PI X tg e t) (h' : PI X tg e t') : PI X tg e (fun σ H R => t σ H R ∨ t' σ H R) := ⟨fun pins s σ H R I q => q.elim (fun q => h.run pins s σ H R I q) fun q => h'.run pins s σ H R I q⟩
/-- a list, a tuple -/
def seqD : D → Option (List D)
  | .list ds => some ds
  | .tuple ds => some ds
  | _ => none
def iSeq (da : Ev → Option D) : Ev → Option (List D) := fun env => (da env).bind seqD
theorem vi_seq (ha : PVE X e da) : PVI X tg e (iSeq da) := PI.imp (PI.or (pi_list ha) (pi_tup ha)) fun σ H R ⟨H0, F0, env, F, ds, rl, ed, k⟩ => by
  obtain ⟨d, h1, ed⟩ := Option.bind_eq_some_iff.mp ed
  unfold seqD at ed; split at ed <;> cases ed
  · refine .inl ⟨H0, F0, env, F, _, rl, h1, fun x F1 H1 g1 hd => ?_⟩
    cases hd with
    | @lst a vs _ q1 q2 =>
      refine ⟨a, rfl, ⟨vs, SqL.of (g1.sub _ _ q1)⟩, k _ F1 H1 g1 (WalkD.of walk_list (DvA.length q2) (fun F H s1 s2 => SqL.of (s2 _ _ (s1 _ _ q1))) fun i F H x H' s1 s2 hi y => ?_)⟩
      obtain ⟨rfl, y⟩ := y
      obtain ⟨v, e1, e2⟩ := DvA.get q2 (List.getElem?_eq_getElem (by rw [← DvA.length q2]; exact hi))
      rw [e1] at y; cases y
      exact ⟨F, _, Grow.refl s2, List.getElem?_eq_getElem (by rw [← DvA.length q2]; exact hi), Dv.mono s1 _ _ e2⟩
  · refine .inr ⟨H0, F0, env, F, _, rl, h1, fun x F1 H1 g1 hd => ?_⟩
    cases hd with
    | @tup a vs _ q1 q2 =>
      refine ⟨a, rfl, ⟨vs, SqT.of (g1.sub _ _ q1)⟩, k _ F1 H1 g1 (WalkD.of walk_tup (DvA.length q2) (fun F H s1 s2 => SqT.of (s2 _ _ (s1 _ _ q1))) fun i F H x H' s1 s2 hi y => ?_)⟩
      obtain ⟨rfl, y⟩ := y
      obtain ⟨v, e1, e2⟩ := DvA.get q2 (List.getElem?_eq_getElem (by rw [← DvA.length q2]; exact hi))
      rw [e1] at y; cases y
      exact ⟨F, _, Grow.refl s2, List.getElem?_eq_getElem (by rw [← DvA.length q2]; exact hi), Dv.mono s1 _ _ e2⟩
def rngD (lo : Int) (n : Nat) : List D := (List.range n).map fun (k : Nat) => PyData.int (lo + (k : Int))
theorem rngD_length (lo : Int) (n : Nat) : (rngD lo n).length = n := by unfold rngD; rw [List.length_map, List.length_range]
theorem rngD_get (lo : Int) {n i : Nat} (h : i < n) : (rngD lo n)[i]? = some (.int (lo + i)) := by
  unfold rngD; rw [List.getElem?_map, List.getElem?_range h]; rfl
theorem walk_rng {K : PySem.W.Frag} {Fs : Hp} {lo : Int} {n : Nat} : WalkD K Fs (Itr lo n) (rngD lo n) :=
  WalkD.of walk_range (rngD_length lo n).symm (fun _ _ _ _ => trivial) fun i F H x H' s1 s2 hi y => by
    obtain ⟨rfl, rfl⟩ := y
    exact ⟨F, _, Grow.refl s2, rngD_get lo hi, .int _⟩
def rngOk (i : Int) : Bool := decide (i.natAbs < 4611686018427387904)
def rg1 : List D → Option (List D)
  | [.int j] => if rngOk j then some (rngD 0 j.toNat) else none
  | _ => none
def rg2 : List D → Option (List D)
  | [.int i, .int j] => if rngOk i && rngOk j then some (rngD i (j - i).toNat) else none
  | _ => none
theorem rngOk_iff {i : Int} (h : rngOk i = true) : -(2 ^ 62) ≤ i ∧ i < 2 ^ 62 := by
  have := of_decide_eq_true h
  omega
variable {dr : Ev → Option (List D)} {p : Pos}
theorem vi_rg1 (ha : PVAB X [a] dr) (hm : X.mg "range" = none) (hg : Gl X "range" := by rfl) (hs : starEach [a] X.env = [(false, eval a X.env)] := by rfl) : PVI X tg (.Call (.Name "range" p) [a] [] pos) (nA rg1 dr) :=
  PI.imp (pi_range1 hg hm ha hs) fun σ H R ⟨H0, F0, env, F, ds, rl, ed, k⟩ => by
    obtain ⟨d, h1, ed⟩ := Option.bind_eq_some_iff.mp ed
    unfold rg1 at ed; split at ed
    · split at ed <;> cases ed
      rename_i hj
      refine ⟨H0, F0, env, F, _, rl, h1, fun xs F1 H1 g1 hd => ?_⟩
      obtain ⟨v, rfl, hv⟩ := hd.one
      obtain rfl := hv.int
      exact ⟨_, rfl, (rngOk_iff hj).1, (rngOk_iff hj).2, k _ F1 H1 g1 walk_rng⟩
    · cases ed
theorem vi_rg2 (ha : PVAB X [a, b] dr) (hm : X.mg "range" = none) (hg : Gl X "range" := by rfl) (hs : starEach [a, b] X.env = [(false, eval a X.env), (false, eval b X.env)] := by rfl) (hs2 : starEach [b] X.env = [(false, eval b X.env)] := by rfl) : PVI X tg (.Call (.Name "range" p) [a, b] [] pos) (nA rg2 dr) :=
  PI.imp (pi_range2 hg hm ha hs hs2) fun σ H R ⟨H0, F0, env, F, ds, rl, ed, k⟩ => by
    obtain ⟨d, h1, ed⟩ := Option.bind_eq_some_iff.mp ed
    unfold rg2 at ed; split at ed
    · split at ed <;> cases ed
      rename_i hj
      have hj := Bool.and_eq_true_iff.mp hj
      refine ⟨H0, F0, env, F, _, rl, h1, fun xs F1 H1 g1 hd => ?_⟩
      obtain ⟨v, u, rfl, hv, hu⟩ := hd.two
      obtain rfl := hv.int
      obtain rfl := hu.int
      exact ⟨_, _, rfl, ⟨(rngOk_iff hj.1).1, (rngOk_iff hj.1).2, (rngOk_iff hj.2).1, (rngOk_iff hj.2).2⟩, k _ F1 H1 g1 walk_rng⟩
    · cases ed
/-- pairs made turn by turn -/
theorem pair_yld {K : PySem.W.Frag} {F H H' : Hp} {x v u : V} {d e : D} {T : Addr} (s : Same F H) (hx : x = .ref T) (hT : H T = none) (hH : H' = upd H T (.tup [v, u])) (hv : Dv K F v d) (hu : Dv K F u e) :
    ∃ F', Grow F H F' H' ∧ Dv K F' x (.tuple [d, e]) := by
  subst hx; subst hH
  exact ⟨_, Grow.new s hT, Dv.newTup (fnone s hT) (.cons hv (.cons hu .nil))⟩
def enumD (ds : List D) : List D := (ds.zipIdx).map fun p => .tuple [.int (p.2 : Nat), p.1]
theorem enumD_length (ds : List D) : (enumD ds).length = ds.length := by simp [enumD]
theorem enumD_get {ds : List D} {i : Nat} {d : D} (h : ds[i]? = some d) : (enumD ds)[i]? = some (.tuple [.int (i : Nat), d]) := by
  simp [enumD, List.getElem?_zipIdx, h]
def enL : List D → Option (List D)
  | [.list ds] => some (enumD ds)
  | _ => none
theorem vi_enumL {elts : List Expr} {kk : Nat} {tpos : Pos} (ha : PVA X [a] dr) (hm : X.mg "enumerate" = none) (hg : Gl X "enumerate" := by rfl) (hs : starEach [a] X.env = [(false, eval a X.env)] := by rfl) :
    PVI X (.Tuple elts kk tpos) (.Call (.Name "enumerate" p) [a] [] pos) (nA enL dr) :=
  PI.imp (pi_enum hg hm ha hs) fun σ H R ⟨H0, F0, env, F, ds, rl, ed, k⟩ => by
    obtain ⟨d, h1, ed⟩ := Option.bind_eq_some_iff.mp ed
    unfold enL at ed; split at ed <;> cases ed
    refine ⟨H0, F0, env, F, _, rl, h1, fun xs F1 H1 g1 hd => ?_⟩
    cases hd with
    | cons hd ht =>
      cases ht
      cases hd with
      | @lst a vs _ q1 q2 =>
        refine ⟨a, vs, rfl, SqL.of (g1.sub _ _ q1), k _ F1 H1 g1 (WalkD.of walk_enum ((DvA.length q2).trans (enumD_length _).symm) (fun F H s1 s2 => SqL.of (s2 _ _ (s1 _ _ q1))) fun i F H x H' s1 s2 hi y => ?_)⟩
        obtain ⟨T, v, u, e1, e2, e3, e4, e5⟩ := y
        cases e4
        have e5 : vs[i]? = some u := e5
        have hl := List.getElem?_eq_getElem (show i < _ by rw [← DvA.length q2]; exact hi)
        obtain ⟨u', e6, e7⟩ := DvA.get q2 hl
        rw [e6] at e5; cases e5
        obtain ⟨F', g, hv⟩ := pair_yld s2 e1 e2 e3 (.int _) (Dv.mono s1 _ _ e7)
        exact ⟨F', _, g, enumD_get hl, hv⟩

/-! ### targets -/
abbrev Tgt := D → Ev → Option Ev
/-- no list of our own has come -/
def OwnSub (env env' : Ev) (σ σ' : St) : Prop := ∀ j s, gt env' j = some s → s.o = true → gt env j = some s ∧ σ'[j]? = σ[j]?
theorem OwnSub.set {env : Ev} {σ : St} {i : Nat} {x : Option V} {d : D} : OwnSub env (st env i (some (.v d))) σ (σ.set i x) := fun j s h o => by
  have n : i ≠ j := fun z => by
    subst z
    have l := gt_lt h
    rw [st_length] at l
    rw [gt_st_same l] at h; cases h; cases o
  rw [gt_st_ne n] at h
  exact ⟨h, List.getElem?_set_ne n⟩
def rdG (K : PySem.W.Frag) (is : List Nat) (tgt : Tgt) : TG := fun v σ H Q => ∃ H0 F0 env F d env', Rel K H0 F0 env σ F H ∧ Dv K F v d ∧ tgt d env = some env' ∧
  ∀ σ', Rel K H0 F0 env' σ' F H → (∀ vs, (∀ i ∈ is, i ∈ vs) → wipe σ' vs = wipe σ vs) → OwnSub env env' σ σ' → Q σ' H
abbrev PVG (X : Cx) (tg : Expr) (is : List Nat) (tgt : Tgt) : Prop := PG X tg (rdG X.K is tgt)
def rdGs (K : PySem.W.Frag) (is : List Nat) (tgt : List D → Ev → Option Ev) : TGs := fun v σ H Q => ∃ H0 F0 env F d env', Rel K H0 F0 env σ F H ∧ DvA K F v d ∧ tgt d env = some env' ∧
  ∀ σ', Rel K H0 F0 env' σ' F H → (∀ vs, (∀ i ∈ is, i ∈ vs) → wipe σ' vs = wipe σ vs) → OwnSub env env' σ σ' → Q σ' H
abbrev PVGs (X : Cx) (tg : List Expr) (is : List Nat) (tgt : List D → Ev → Option Ev) : Prop := PGs X tg (rdGs X.K is tgt)
theorem PG.imp {t t' : TG} (h : PG X tg t) (k : ∀ v σ H Q, t' v σ H Q → t v σ H Q) : PG X tg t' := ⟨fun pins s σ H v u Q I r q => h.run pins s σ H v u Q I r (k _ _ _ _ q)⟩
theorem PGs.imp {ts : List Expr} {t t' : TGs} (h : PGs X ts t) (k : ∀ v σ H Q, t' v σ H Q → t v σ H Q) : PGs X ts t' := ⟨fun pins s σ H v u Q I r q => h.run pins s σ H v u Q I r (k _ _ _ _ q)⟩
theorem wipe_at (σ : St) (j : Nat) : ∀ vs : List Nat, (wipe σ vs)[j]? = if j ∈ vs then (σ[j]?).map fun _ => none else σ[j]?
  | [] => by simp [wipe]
  | v :: vs => by
    unfold wipe
    by_cases e : v = j
    · subst e
      rw [List.getElem?_set]
      simp only [if_true, List.mem_cons, true_or]
      rw [wipe_length]
      by_cases h : v < σ.length
      · simp [h]
      · simp [h]
    · rw [List.getElem?_set_ne e, wipe_at σ j vs]
      simp only [List.mem_cons, show ¬ j = v from fun z => e z.symm, false_or]
theorem wipe_set {σ : St} {i : Nat} {x : Option V} {vs : List Nat} (h : i ∈ vs) : wipe (σ.set i x) vs = wipe σ vs := by
  apply List.ext_getElem?
  intro j
  rw [wipe_at, wipe_at]
  by_cases e : i = j
  · subst e
    rw [if_pos h, if_pos h, List.getElem?_set]
    by_cases hl : i < σ.length
    · simp [hl]
    · simp [hl]
  · rw [List.getElem?_set_ne e]
def gN (i : Nat) : Tgt := fun d env => some (st env i (some (.v d)))
theorem vg (i : Nat) {x : Str} (hN : X.N.Nodup) (hi : X.N[i]? = some x := by rfl) (hx : Loc X.env.scope x := by first | exact Or.inl rfl | exact Or.inr rfl) (hf : X.fn x = true ∨ X.env.scope.names.lookup x = some .local := by first | exact .inl rfl | exact .inr rfl) :
    PVG X (.Name x pos) [i] (gN i) := PG.imp (pg_name hN hi hx hf) fun v σ H Q ⟨H0, F0, env, F, d, env', rl, hd, ed, k⟩ => by
  cases ed
  exact k _ (rl.set hd) (fun vs h => wipe_set (h i (by simp))) OwnSub.set
def gsNil : List D → Ev → Option Ev
  | [], env => some env
  | _ :: _, _ => none
def gsCons (t : Tgt) (u : List D → Ev → Option Ev) : List D → Ev → Option Ev
  | d :: ds, env => (t d env).bind fun e1 => u ds e1
  | [], _ => none
theorem vgs_nil : PVGs X [] [] gsNil := PGs.imp pgs_nil fun v σ H Q ⟨H0, F0, env, F, d, env', rl, hd, ed, k⟩ => by
  cases hd with
  | nil => cases ed; exact ⟨rfl, k σ rl (fun _ _ => rfl) fun _ _ h _ => ⟨h, rfl⟩⟩
  | cons _ _ => cases ed
theorem vgs_cons {es : List Expr} {is js : List Nat} {t : Tgt} {u : List D → Ev → Option Ev} (h1 : PVG X e is t) (h2 : PVGs X es js u)
    (hs : (assignEach (e :: es) X.env).map (·.2) = assign e X.env :: (assignEach es X.env).map (·.2) := by rfl) : PVGs X (e :: es) (is ++ js) (gsCons t u) :=
  PGs.imp (pgs_cons h1 h2 hs) fun v σ H Q ⟨H0, F0, env, F, d, env', rl, hd, ed, k⟩ => by
    cases hd with
    | nil => cases ed
    | cons hd ht =>
      obtain ⟨e1, q1, ed⟩ := Option.bind_eq_some_iff.mp (show Option.bind _ _ = _ from ed)
      refine ⟨_, _, rfl, H0, F0, env, F, _, e1, rl, hd, q1, fun σ1 r1 w1 o1 => ⟨H0, F0, e1, F, _, env', r1, ht, ed, fun σ2 r2 w2 o2 => k σ2 r2 (fun vs h => ?_) fun j s h o => ⟨(o1 j s (o2 j s h o).1 o).1, (o2 j s h o).2.trans (o1 j s (o2 j s h o).1 o).2⟩⟩⟩
      rw [w2 vs fun i hi => h i (List.mem_append_right _ hi), w1 vs fun i hi => h i (List.mem_append_left _ hi)]
def gT (u : List D → Ev → Option Ev) : Tgt := fun d env => match d with
  | .tuple ds => u ds env
  | _ => none
def gLen (n : Nat) (t : Tgt) : Tgt := fun d env => match d with
  | .tuple ds => if ds.length = n then t d env else none
  | _ => none
theorem vgt {es : List Expr} {k : Nat} {is : List Nat} {u : List D → Ev → Option Ev} {n : Nat} (hc : X.calm = true) (h : PVGs X es is u)
    (hn : (assignEach es X.env).length = n := by rfl) (hst : (assignEach es X.env).findIdx? (·.1) = none := by rfl) : PVG X (.Tuple es k pos) is (gLen n (gT u)) :=
  PG.imp (pg_tup hc h hn hst) fun v σ H Q ⟨H0, F0, env, F, d, env', rl, hd, ed, k⟩ => by
    unfold gLen at ed; split at ed
    · split at ed
      · rename_i hl
        cases hd with
        | @tup a vs _ q1 q2 => exact ⟨a, vs, rfl, SqT.of (rl.sub _ _ q1), (DvA.length q2).trans hl, H0, F0, env, F, _, env', rl, q2, ed, k⟩
      · cases ed
    · cases ed

/-! ### statements -/
inductive Out where
  | nx (e : Ev)
  | rt (d : D)
  | bk (e : Ev)
  | ct (e : Ev)
def OutOk (K : PySem.W.Frag) (H0 F0 F : Hp) (Dn : Ends) : Out → Prop
  | .nx e => ∀ σ' F' H', Rel K H0 F0 e σ' F' H' → Same F F' → Dn.nx σ' H'
  | .bk e => ∀ σ' F' H', Rel K H0 F0 e σ' F' H' → Same F F' → Dn.bk σ' H'
  | .ct e => ∀ σ' F' H', Rel K H0 F0 e σ' F' H' → Same F F' → Dn.ct σ' H'
  | .rt d => ∀ x F' H', Same H0 H' → Fz H0 F0 F' → Same F' H' → Dv K F' x d → Dn.rt x H'
theorem OutOk.mono {K : PySem.W.Frag} {H0 F0 F F1 : Hp} {Dn : Ends} {o : Out} (h : OutOk K H0 F0 F Dn o) (s : Same F F1) : OutOk K H0 F0 F1 Dn o := by
  cases o with
  | nx e => exact fun σ' F' H' r q => h σ' F' H' r (s.trans q)
  | bk e => exact fun σ' F' H' r q => h σ' F' H' r (s.trans q)
  | ct e => exact fun σ' F' H' r q => h σ' F' H' r (s.trans q)
  | rt d => exact h
def rdS (K : PySem.W.Frag) (den : Ev → Option Out) : TS := fun Dn σ H => ∃ H0 F0 env F o, Rel K H0 F0 env σ F H ∧ den env = some o ∧ OutOk K H0 F0 F Dn o
abbrev PVS (X : Cx) (s : Stmt) (den : Ev → Option Out) : Prop := PS X s (rdS X.K den)
abbrev PVSs (X : Cx) (s : List Stmt) (den : Ev → Option Out) : Prop := PSs X s (rdS X.K den)
variable {s : Stmt} {ss : List Stmt} {d1 d2 : Ev → Option Out}
def sNil : Ev → Option Out := fun env => some (.nx env)
def sSeq (d1 d2 : Ev → Option Out) : Ev → Option Out := fun env => (d1 env).bind fun o => match o with
  | .nx e => d2 e
  | o => some o
theorem vs_nil : PVSs X [] sNil := PSs.imp pss_nil fun D σ H ⟨H0, F0, env, F, o, rl, ed, k⟩ => by cases ed; exact k σ F H rl (Same.refl F)
theorem vs_cons (h1 : PVS X s d1) (h2 : PVSs X ss d2) : PVSs X (s :: ss) (sSeq d1 d2) := PSs.imp (pss_cons h1 h2) fun D σ H ⟨H0, F0, env, F, o, rl, ed, k⟩ => by
  obtain ⟨o1, e1, ed⟩ := Option.bind_eq_some_iff.mp ed
  refine ⟨H0, F0, env, F, o1, rl, e1, ?_⟩
  cases o1 with
  | nx e => exact fun σ' F' H' r q => ⟨H0, F0, e, F', o, r, ed, k.mono q⟩
  | bk e => cases ed; exact k
  | ct e => cases ed; exact k
  | rt d => cases ed; exact k
theorem vs_one (h1 : PVS X s d1) : PVSs X [s] d1 := pss_one h1
/-- slots forgotten, behind and ahead -/
def Out.fg (is : List Nat) : Out → Out
  | .nx e => .nx (fgs e is)
  | .bk e => .bk (fgs e is)
  | .ct e => .ct (fgs e is)
  | .rt d => .rt d
/-- code that is not come to -/
def sNo : Ev → Option Out := fun _ => none
theorem vs_no : PVS X s sNo := PS.imp ps_never fun D σ H ⟨H0, F0, env, F, o, rl, ed, k⟩ => by cases ed
theorem vss_no : PVSs X ss sNo := PSs.imp pss_never fun D σ H ⟨H0, F0, env, F, o, rl, ed, k⟩ => by cases ed
/-- a list of our own is from here on left as it is -/
def frz (env : Ev) (i : Nat) : Ev := match gt env i with
  | some (.own ds) => st env i (some (.v (.list ds)))
  | _ => env
theorem Rel.frzS {K : PySem.W.Frag} {H0 F0 F H : Hp} {env : Ev} {σ : St} (r : Rel K H0 F0 env σ F H) (i : Nat) : ∃ F', Same F F' ∧ Rel K H0 F0 (PV.frz env i) σ F' H := by
  unfold PV.frz
  split
  · rename_i ds hg
    obtain ⟨x, e1, a, vs, rfl, h1, h2, h3, h4⟩ := r.slot i _ hg
    refine ⟨upd F a (.lst vs), same_upd h2, r.base, fun b o e => ?_, r.frz.upd h3, by rw [st_length]; exact r.len, fun j s e => ?_, fun j k x es fs e1' e2' o1 o2 s1 s2 => ?_⟩
    · by_cases z : b = a
      · subst z; rw [upd_same] at e; cases e; exact h1
      · rw [upd_ne z] at e; exact r.sub b o e
    · by_cases z : i = j
      · subst z
        rw [gt_st_same (gt_lt hg)] at e; cases e
        exact ⟨.ref a, e1, .lst upd_same (DvA.mono (same_upd h2) _ _ h4)⟩
      · rw [gt_st_ne z] at e
        obtain ⟨y, e2, q⟩ := r.slot j s e
        exact ⟨y, e2, q.updF h2 fun so w => z (r.apart i j (.ref a) _ s hg e rfl so e1 (by rw [← w]; exact e2))⟩
    · have n1 : i ≠ j := fun z => by subst z; rw [gt_st_same (gt_lt hg)] at e1'; cases e1'; cases o1
      have n2 : i ≠ k := fun z => by subst z; rw [gt_st_same (gt_lt hg)] at e2'; cases e2'; cases o2
      rw [gt_st_ne n1] at e1'
      rw [gt_st_ne n2] at e2'
      exact r.apart j k x es fs e1' e2' o1 o2 s1 s2
  · exact ⟨F, Same.refl F, r⟩
def sPre (f : Ev → Ev) (d1 : Ev → Option Out) : Ev → Option Out := fun env => d1 (f env)
theorem vs_frz (i : Nat) (h : PVS X s d1) : PVS X s (sPre (fun env => frz env i) d1) := PS.imp h fun D σ H ⟨H0, F0, env, F, o, rl, ed, k⟩ => by
  obtain ⟨F', q, r⟩ := rl.frzS i
  exact ⟨H0, F0, _, F', o, r, ed, k.mono q⟩
theorem vs_fg (is : List Nat) (h : PVS X s d1) : PVS X s (sPre (fun env => fgs env is) d1) := PS.imp h fun D σ H ⟨H0, F0, env, F, o, rl, ed, k⟩ =>
  ⟨H0, F0, _, F, o, rl.fgs is, ed, k⟩
def sPass : Ev → Option Out := sNil
theorem vs_pass : PVS X (.Pass pos) sNil := PS.imp ps_pass fun D σ H ⟨H0, F0, env, F, o, rl, ed, k⟩ => by cases ed; exact k σ F H rl (Same.refl F)
def sBrk : Ev → Option Out := fun env => some (.bk env)
def sCnt : Ev → Option Out := fun env => some (.ct env)
theorem vs_brk : PVS X (.Break pos) sBrk := PS.imp ps_break fun D σ H ⟨H0, F0, env, F, o, rl, ed, k⟩ => by cases ed; exact k σ F H rl (Same.refl F)
theorem vs_cnt : PVS X (.Continue pos) sCnt := PS.imp ps_continue fun D σ H ⟨H0, F0, env, F, o, rl, ed, k⟩ => by cases ed; exact k σ F H rl (Same.refl F)
def sRet (da : Ev → Option D) : Ev → Option Out := fun env => (da env).map .rt
theorem vs_ret (ha : PVE X e da) : PVS X (.Return (some e) pos) (sRet da) := PS.imp (ps_ret ha) fun D σ H ⟨H0, F0, env, F, o, rl, ed, k⟩ => by
  obtain ⟨d, h1, h2⟩ := Option.map_eq_some_iff.mp ed
  subst h2
  refine ⟨H0, F0, env, F, d, rl, h1, fun x F' H' g hd => ?_⟩
  have r := rl.grow g
  exact k x F' H' r.base r.frz r.sub hd
def sIf (tc : Ev → Option Bool) (d1 d2 : Ev → Option Out) : Ev → Option Out := fun env => (tc env).bind fun c => if c = true then d1 env else d2 env
theorem vs_if {tc : Ev → Option Bool} {sa sb : List Stmt} (hc : PVT X c tc) (h1 : PVSs X sa d1) (h2 : PVSs X sb d2) : PVS X (.If c sa sb pos) (sIf tc d1 d2) := PS.imp (ps_if hc h1 h2) fun D σ H ⟨H0, F0, env, F, o, rl, ed, k⟩ => by
  obtain ⟨b, e1, ed⟩ := Option.bind_eq_some_iff.mp ed
  refine ⟨H0, F0, env, F, b, rl, e1, fun F1 H1 g1 => ?_⟩
  cases b with
  | true => simp only [if_true] at ed ⊢; exact ⟨H0, F0, env, F1, o, rl.grow g1, ed, k.mono (g1.ff rl.sub)⟩
  | false => simp only [Bool.false_eq_true, if_false] at ed ⊢; exact ⟨H0, F0, env, F1, o, rl.grow g1, ed, k.mono (g1.ff rl.sub)⟩

/-! ### what a slot is given: a value, or a new list of our own -/
def NRel (K : PySem.W.Frag) (H F' H' : Hp) (x : V) : SV → Prop
  | .v d => Dv K F' x d
  | .own ds => ∃ a vs, x = .ref a ∧ H a = none ∧ H' a = some (.lst vs) ∧ F' a = none ∧ DvA K F' vs ds
  | .dic t kvs => ∃ a o, x = .ref a ∧ H a = none ∧ H' a = some o ∧ F' a = none ∧ DicAt K F' o t kvs
def rdX (K : PySem.W.Frag) (den : Ev → Option SV) : TE := fun σ H Q => ∃ H0 F0 env F s, Rel K H0 F0 env σ F H ∧ den env = some s ∧ ∀ x F' H', Grow F H F' H' → NRel K H F' H' x s → Q x H'
abbrev PVX (X : Cx) (e : Expr) (den : Ev → Option SV) : Prop := PE X e (rdX X.K den)
def xV (da : Ev → Option D) : Ev → Option SV := fun env => (da env).map .v
def xO (dn : Ev → Option (List D)) : Ev → Option SV := fun env => (dn env).map .own
theorem PE.xv (h : PVE X e da) : PVX X e (xV da) := PE.imp h fun σ H Q ⟨H0, F0, env, F, o, rl, ed, k⟩ => by
  obtain ⟨d, h1, h2⟩ := Option.map_eq_some_iff.mp ed
  subst h2
  exact ⟨H0, F0, env, F, d, rl, h1, fun x F' H' g hd => k x F' H' g hd⟩
theorem PE.xo (h : PVN X e dr) : PVX X e (xO dr) := PE.imp h fun σ H Q ⟨H0, F0, env, F, o, rl, ed, k⟩ => by
  obtain ⟨d, h1, h2⟩ := Option.map_eq_some_iff.mp ed
  subst h2
  exact ⟨H0, F0, env, F, d, rl, h1, fun a vs F' H' g hn ha hf hd => k _ F' H' g ⟨a, vs, rfl, hn, ha, hf, hd⟩⟩
theorem NRel.grow {K : PySem.W.Frag} {H F H1 F1 H2 : Hp} {x : V} {s : SV} (h : NRel K H F H1 x s) (g : Grow F H1 F1 H2) (sb : Same F H1) : NRel K H F1 H2 x s := by
  cases s with
  | v d => exact Dv.mono (g.ff sb) _ _ h
  | own ds =>
    obtain ⟨a, vs, rfl, h1, h2, h3, h4⟩ := h
    exact ⟨a, vs, rfl, h1, g.hh _ _ h2, g.fr.none h2 (fun _ z => nomatch z) h3, DvA.mono (g.ff sb) _ _ h4⟩
  | dic t kvs =>
    obtain ⟨a, o, rfl, h1, h2, h3, h4⟩ := h
    exact ⟨a, o, rfl, h1, g.hh _ _ h2, g.fr.none h2 h4.nt h3, h4.mono (g.ff sb)⟩
/-- H: a heap in which every slot's own list stands already -/
theorem Rel.setX {K : PySem.W.Frag} {H0 F0 F H F' H' : Hp} {env : Ev} {σ : St} (r : Rel K H0 F0 env σ F' H') (b0 : Same H0 H) (old : ∀ j s b, gt env j = some s → s.o = true → σ[j]? = some (some (.ref b)) → H b ≠ none) {i : Nat} {x : V} {s : SV} (h : NRel K H F' H' x s) : Rel K H0 F0 (st env i (some s)) (σ.set i (some x)) F' H' := by
  cases s with
  | v d => exact r.set h
  | own ds =>
    obtain ⟨a, vs, rfl, h1, h2, h3, h4⟩ := h
    refine r.setO ⟨a, vs, rfl, h2, h3, ?_, h4⟩ fun j s hg so hs => old j s a hg so hs h1
    cases q : H0 a with
    | none => rfl
    | some o => rw [b0 a o q] at h1; cases h1
  | dic t kvs =>
    obtain ⟨a, u, rfl, h1, h2, h3, h4⟩ := h
    refine r.setO ⟨a, u, rfl, h2, h3, ?_, h4⟩ fun j s hg so hs => old j s a hg so hs h1
    cases q : H0 a with
    | none => rfl
    | some o => rw [b0 a o q] at h1; cases h1
theorem Rel.old {K : PySem.W.Frag} {H0 F0 F H : Hp} {env : Ev} {σ : St} (r : Rel K H0 F0 env σ F H) : ∀ j s b, gt env j = some s → s.o = true → σ[j]? = some (some (.ref b)) → H b ≠ none := fun j s b hg so hs => by
  obtain ⟨x, e1, q⟩ := r.slot j _ hg
  obtain ⟨a, o, e2, h1, _⟩ := q.at so
  rw [hs] at e1; cases e1; cases e2
  rw [h1]; simp
def sSet (i : Nat) (dx : Ev → Option SV) : Ev → Option Out := fun env => (dx env).map fun s => .nx (st env i (some s))
variable {dx dy dz : Ev → Option SV}
theorem vs_set (i : Nat) {x : Str} {pos' : Pos} (hN : X.N.Nodup) (he : PVX X e dx) (hi : X.N[i]? = some x := by rfl) (hx : Loc X.env.scope x := by first | exact Or.inl rfl | exact Or.inr rfl) (hs : swapsWith e (some (.Name x pos')) pos.line X.env = pure false := by rfl)
    (hf : X.fn x = true ∨ X.env.scope.names.lookup x = some .local := by first | exact .inl rfl | exact .inr rfl) : PVS X (.Assign [.Name x pos'] e pos) (sSet i dx) := PS.imp (ps_set hN hi hx he hs hf) fun D σ H ⟨H0, F0, env, F, o, rl, ed, k⟩ => by
  obtain ⟨sv, h1, h2⟩ := Option.map_eq_some_iff.mp ed
  subst h2
  exact ⟨H0, F0, env, F, sv, rl, h1, fun y F' H' g hd => k _ F' H' ((rl.grow g).setX (F := F) rl.base rl.old hd) (g.ff rl.sub)⟩
/-- a, b = x, y -/
def sPar (i j : Nat) (dx dy : Ev → Option SV) : Ev → Option Out := fun env => (dx env).bind fun s => (dy env).map fun t => .nx (st (st env i (some s)) j (some t))
def rdX2 (K : PySem.W.Frag) (dx dy : Ev → Option SV) : TA := fun σ H Q => ∃ H0 F0 env F s t, Rel K H0 F0 env σ F H ∧ dx env = some s ∧ dy env = some t ∧
  ∀ x y F1 H1 F2 H2, Grow F H F1 H1 → Grow F1 H1 F2 H2 → NRel K H F1 H1 x s → NRel K H1 F2 H2 y t → Q [x, y] H2
theorem va_x2 (ha : PVX X a dx) (hb : PVX X b dy) (hs : starEach [a, b] X.env = (false, eval a X.env) :: starEach [b] X.env := by rfl) (hs2 : starEach [b] X.env = (false, eval b X.env) :: starEach [] X.env := by rfl) : PA X [a, b] (rdX2 X.K dx dy) :=
  PA.imp (pa_cons ha (pa_cons hb pa_nil hs2) hs) fun σ H Q ⟨H0, F0, env, F, s, t, rl, e1, e2, k⟩ =>
    ⟨H0, F0, env, F, s, rl, e1, fun x F1 H1 g1 n1 => ⟨H0, F0, env, F1, t, rl.grow g1, e2, fun y F2 H2 g2 n2 => k x y F1 H1 F2 H2 g1 g2 n1 n2⟩⟩
theorem vs_par (i j : Nat) {x y : Str} {px py pt : Pos} {kt k2 pt2} (hc : X.calm = true) (hN : X.N.Nodup) (ha : PVX X a dx) (hb : PVX X b dy) (hij : i ≠ j := by decide) (hi : X.N[i]? = some x := by rfl) (hj : X.N[j]? = some y := by rfl)
    (hx : X.env.scope.names.lookup x = some .local := by rfl) (hy : X.env.scope.names.lookup y = some .local := by rfl) (hsa : starEach [a, b] X.env = (false, eval a X.env) :: starEach [b] X.env := by rfl) (hsb : starEach [b] X.env = (false, eval b X.env) :: starEach [] X.env := by rfl)
    (hw : swappedStores [.Tuple [.Name x px, .Name y py] kt pt] (.Tuple [a, b] k2 pt2) X.env = pure (some [x, y]) := by rfl)
    (hs : swapsWithSole [.Tuple [.Name x px, .Name y py] kt pt] (.Tuple [a, b] k2 pt2) pos.line X.env = pure false := by rfl) :
    PVS X (.Assign [.Tuple [.Name x px, .Name y py] kt pt] (.Tuple [a, b] k2 pt2) pos) (sPar i j dx dy) := PS.imp (ps_par hc hN hi hj hij hx hy (va_x2 ha hb hsa hsb) hw hs) fun D σ H ⟨H0, F0, env, F, o, rl, ed, k⟩ => by
  obtain ⟨s1, h1, ed⟩ := Option.bind_eq_some_iff.mp ed
  obtain ⟨s2, h2, h3⟩ := Option.map_eq_some_iff.mp ed
  subst h3
  refine ⟨H0, F0, env, F, s1, s2, rl, h1, h2, fun x y F1 H1 F2 H2 g1 g2 n1 n2 => ⟨x, y, rfl, k _ F2 H2 ?_ ((g1.trans g2).ff rl.sub)⟩⟩
  have r1 := (rl.grow g1).setX (F := F) rl.base rl.old n1 (i := i)
  have r2 : Rel X.K H0 F0 (st env i (some s1)) (σ.set i (some x)) F2 H2 := r1.grow g2
  exact r2.setX (F := F1) r1.base r1.old n2
/-- target = value -/
def sAsg (tgt : Tgt) (da : Ev → Option D) : Ev → Option Out := fun env => (da env).bind fun d => (tgt d env).map .nx
theorem vs_asg {is : List Nat} {tgt : Tgt} (he : PVE X e da) (hg : PVG X tg is tgt) (hs : swapsWithSole [tg] e pos.line X.env = pure false := by rfl) (hw : swappedStores [tg] e X.env = pure none := by rfl)
    (h1 : (assignEach [tg] X.env).map (·.2) = [assign tg X.env] := by rfl) : PVS X (.Assign [tg] e pos) (sAsg tgt da) := PS.imp (ps_asg he hg hs hw h1) fun D σ H ⟨H0, F0, env, F, o, rl, ed, k⟩ => by
  obtain ⟨d, h1, ed⟩ := Option.bind_eq_some_iff.mp ed
  obtain ⟨e', h2, h3⟩ := Option.map_eq_some_iff.mp ed
  subst h3
  exact ⟨H0, F0, env, F, d, rl, h1, fun x F1 H1 g1 hd => ⟨H0, F0, env, F1, d, e', rl.grow g1, hd, h2, fun σ' r' _ _ => k σ' F1 H1 r' (g1.ff rl.sub)⟩⟩
/-- name op= value -/
def sAug (i : Nat) (g : D → D → Option D) (da : Ev → Option D) : Ev → Option Out := fun env => (eVar i env).bind fun x => (da env).bind fun y => (g x y).map fun z => .nx (st env i (some (.v z)))
theorem vs_aug (i : Nat) {x : Str} {op : Operator} {g : D → D → Option D} {pos' : Pos} (hN : X.N.Nodup) (he : PVE X e da) (ho : OpR X (inplaceOp op) (rOf X.K g)) (hi : X.N[i]? = some x := by rfl) (hx : Loc X.env.scope x := by first | exact Or.inl rfl | exact Or.inr rfl)
    (hf : X.fn x = true ∨ X.env.scope.names.lookup x = some .local := by first | exact .inl rfl | exact .inr rfl) : PVS X (.AugAssign (.Name x pos') op e pos) (sAug i g da) := PS.imp (ps_aug hN hi hx he ho hf) fun D σ H ⟨H0, F0, env, F, o, rl, ed, k⟩ => by
  obtain ⟨u, h1, ed⟩ := Option.bind_eq_some_iff.mp ed
  obtain ⟨w, h2, ed⟩ := Option.bind_eq_some_iff.mp ed
  obtain ⟨z, h3, h4⟩ := Option.map_eq_some_iff.mp ed
  subst h4
  unfold eVar at h1; split at h1 <;> cases h1
  rename_i hg
  obtain ⟨y, e1, q⟩ := rl.slot i _ hg
  refine ⟨y, e1, H0, F0, env, F, w, rl, h2, fun v F1 H1 g1 hd => ⟨F1, u, w, z, g1.sub, .inl (Dv.mono (g1.ff rl.sub) _ _ q), .inl hd, h3, fun v' F2 H2 g2 hv => ?_⟩⟩
  exact k _ F2 H2 (((rl.grow g1).grow g2).set hv) ((g1.trans g2).ff rl.sub)
theorem o_iadd : OpR X (inplaceOp .Add) (rOf X.K (fun d e => match d, e with | .int i, .int j => some (.int (i + j)) | _, _ => none)) := op_ints0 (r := fun _ _ _ _ => True) iop_add fun d e z h => by
  split at h <;> cases h
  exact ⟨_, _, rfl, rfl, .int _⟩
theorem o_isub : OpR X (inplaceOp .Sub) (rOf X.K subD) := op_ints0 (r := fun _ _ _ _ => True) iop_sub fun d e z h => by
  unfold subD at h; split at h <;> cases h
  exact ⟨_, _, rfl, rfl, .int _⟩
/-- a thing of our own is changed -/
theorem Rel.writeO {K : PySem.W.Frag} {H0 F0 F H : Hp} {env : Ev} {σ : St} (r : Rel K H0 F0 env σ F H) {i : Nat} {s0 s1 : SV} {a : Addr} {o : HO} (hg : gt env i = some s0) (h0 : s0.o = true) (hs : σ[i]? = some (some (.ref a)))
    (hv : F a = none → H0 a = none → SRel K H0 F (upd H a o) (.ref a) s1) : Rel K H0 F0 (st env i (some s1)) σ F (upd H a o) := by
  obtain ⟨x, e1, q⟩ := r.slot i _ hg
  obtain ⟨b, u, e2, h1, h2, h3⟩ := q.at h0
  rw [hs] at e1; cases e1; cases e2
  refine ⟨fun b o e => ?_, fun b o e => ?_, r.frz, by rw [st_length]; exact r.len, fun j s e => ?_, fun j k y es' fs e1 e2 o1 o2 s1 s2 => ?_⟩
  · rw [upd_ne (ne_of_none e h3)]; exact r.base b o e
  · rw [upd_ne (ne_of_none e h2)]; exact r.sub b o e
  · by_cases z : i = j
    · subst z
      rw [gt_st_same (gt_lt hg)] at e; cases e
      exact ⟨.ref a, hs, hv h2 h3⟩
    · rw [gt_st_ne z] at e
      obtain ⟨y, e2, q⟩ := r.slot j s e
      exact ⟨y, e2, q.upd fun so w => z (r.apart i j (.ref a) _ s hg e h0 so hs (by rw [← w]; exact e2))⟩
  · have f1 : ∃ q, gt env j = some q ∧ q.o = true := by
      by_cases z : i = j
      · subst z; exact ⟨_, hg, h0⟩
      · rw [gt_st_ne z] at e1; exact ⟨_, e1, o1⟩
    have f2 : ∃ q, gt env k = some q ∧ q.o = true := by
      by_cases z : i = k
      · subst z; exact ⟨_, hg, h0⟩
      · rw [gt_st_ne z] at e2; exact ⟨_, e2, o2⟩
    obtain ⟨q1, f1, p1⟩ := f1
    obtain ⟨q2, f2, p2⟩ := f2
    exact r.apart j k y q1 q2 f1 f2 p1 p2 s1 s2
theorem Rel.write {K : PySem.W.Frag} {H0 F0 F H : Hp} {env : Ev} {σ : St} (r : Rel K H0 F0 env σ F H) {i : Nat} {ds es : List D} {a : Addr} {us : List V} (hg : gt env i = some (.own ds)) (hs : σ[i]? = some (some (.ref a))) (hv : DvA K F us es) : Rel K H0 F0 (st env i (some (.own es))) σ F (upd H a (.lst us)) :=
  r.writeO hg rfl hs fun h2 h3 => ⟨a, us, rfl, upd_same, h2, h3, hv⟩
def isO : Option SV → Option (List D)
  | some (.own ds) => some ds
  | _ => none
theorem isO_some {o : Option SV} {ds : List D} (h : isO o = some ds) : o = some (.own ds) := by
  unfold isO at h; split at h <;> cases h; rfl
def sApp (i : Nat) (da : Ev → Option D) : Ev → Option Out := fun env => (isO (gt env i)).bind fun ds => (da env).bind fun d => if ds.length < line then some (.nx (st env i (some (.own (ds ++ [d]))))) else none
theorem vs_app (i : Nat) {x : Str} {px apos cpos : Pos} (ha : PVE X e da) (hN : X.N[i]? = some x := by rfl) (hv : Vis X.env.scope x := by first | exact Or.inl rfl | exact Or.inr (Or.inl rfl) | exact Or.inr (Or.inr rfl)) (hd : (x == ("__debug__" : Str)) = false := by decide) (hcd : (x == ("__classdict__" : Str)) = false := by decide)
    (hbase : attributeBase (.Name x px) "append" X.env (eval (.Name x px) X.env) = eval (.Name x px) X.env := by rfl)
    (hfew : ((backTo cpos (starEach [e] X.env)).all (fun x => !x.1) && (backToKw cpos (keywordEach [] X.env)).all (fun x => x.1.isSome)
      && decide (([e] : List Expr).length + ([] : List Keyword).length + (if ([] : List Keyword).isEmpty then 0 else 1) < 30)) = true := by rfl)
    (hline : (apos.endLine == cpos.line) = true := by rfl) (hs : starEach [e] X.env = (false, eval e X.env) :: starEach [] X.env := by rfl) (hplain : (backTo cpos (starEach [] X.env)).any (·.1) = false := by rfl)
    (hsw : swapsWith (.Call (.Attribute (.Name x px) "append" apos) [e] [] cpos) none pos.line X.env = pure false := by rfl) :
    PVS X (.Expr (.Call (.Attribute (.Name x px) "append" apos) [e] [] cpos) pos) (sApp i da) :=
  PS.imp (ps_expr (pe_bm PySem.F.plainAttrs_list PySem.F.slot_list_append PySem.F.type_list_append mt_append (pe_var (i := i) hN hv hd hcd) (pa_cons ha pa_nil hs) hbase hfew hline hs hplain) hsw) fun D σ H ⟨H0, F0, env, F, o, rl, ed, k⟩ => by
    obtain ⟨ds, h1, ed⟩ := Option.bind_eq_some_iff.mp ed
    obtain ⟨d, h2, ed⟩ := Option.bind_eq_some_iff.mp ed
    obtain ⟨hz, rfl⟩ := ite_some ed
    have hg := isO_some h1
    obtain ⟨y, e1, a, vs, rfl, q1, q2, q3, q4⟩ := rl.slot i _ hg
    refine ⟨.ref a, e1, .inl ⟨rfl, vs, SqL.of q1⟩, H0, F0, env, F, d, rl, h2, fun v F1 H1 g1 hd => ⟨a, vs, v, rfl, rfl, g1.hh _ _ q1, ?_, ?_⟩⟩
    · rw [DvA.length q4, sizeLine_eq]; exact hz
    · exact k σ F1 _ ((rl.grow g1).write hg e1 (DvA.append (DvA.mono (g1.ff rl.sub) _ _ q4) (.cons hd .nil))) (g1.ff rl.sub)
def lstD : D → Option (List D)
  | .list ds => some ds
  | _ => none
theorem lstD_some {d : D} {ds : List D} (h : lstD d = some ds) : d = .list ds := by unfold lstD at h; split at h <;> cases h; rfl
def sExt (i : Nat) (da : Ev → Option D) : Ev → Option Out := fun env => (isO (gt env i)).bind fun ds => (da env).bind fun d => (lstD d).bind fun es => if ds.length + es.length ≤ line then some (.nx (st env i (some (.own (ds ++ es))))) else none
theorem vs_ext (i : Nat) {x : Str} {px apos cpos : Pos} (ha : PVB X e da) (hN : X.N[i]? = some x := by rfl) (hv : Vis X.env.scope x := by first | exact Or.inl rfl | exact Or.inr (Or.inl rfl) | exact Or.inr (Or.inr rfl)) (hd : (x == ("__debug__" : Str)) = false := by decide) (hcd : (x == ("__classdict__" : Str)) = false := by decide)
    (hbase : attributeBase (.Name x px) "extend" X.env (eval (.Name x px) X.env) = eval (.Name x px) X.env := by rfl)
    (hfew : ((backTo cpos (starEach [e] X.env)).all (fun x => !x.1) && (backToKw cpos (keywordEach [] X.env)).all (fun x => x.1.isSome)
      && decide (([e] : List Expr).length + ([] : List Keyword).length + (if ([] : List Keyword).isEmpty then 0 else 1) < 30)) = true := by rfl)
    (hline : (apos.endLine == cpos.line) = true := by rfl) (hs : starEach [e] X.env = (false, eval e X.env) :: starEach [] X.env := by rfl) (hplain : (backTo cpos (starEach [] X.env)).any (·.1) = false := by rfl)
    (hsw : swapsWith (.Call (.Attribute (.Name x px) "extend" apos) [e] [] cpos) none pos.line X.env = pure false := by rfl) :
    PVS X (.Expr (.Call (.Attribute (.Name x px) "extend" apos) [e] [] cpos) pos) (sExt i da) :=
  PS.imp (ps_expr (pe_bm PySem.F.plainAttrs_list PySem.F.slot_list_extend PySem.F.type_list_extend mt_extend (pe_var (i := i) hN hv hd hcd) (pa_cons ha pa_nil hs) hbase hfew hline hs hplain) hsw) fun D σ H ⟨H0, F0, env, F, o, rl, ed, k⟩ => by
    obtain ⟨ds, h1, ed⟩ := Option.bind_eq_some_iff.mp ed
    obtain ⟨d, h2, ed⟩ := Option.bind_eq_some_iff.mp ed
    obtain ⟨es, h3, ed⟩ := Option.bind_eq_some_iff.mp ed
    obtain ⟨hz, rfl⟩ := ite_some ed
    obtain rfl := lstD_some h3
    have hg := isO_some h1
    obtain ⟨y, e1, a, vs, rfl, q1, q2, q3, q4⟩ := rl.slot i _ hg
    refine ⟨.ref a, e1, .inl ⟨rfl, vs, SqL.of q1⟩, H0, F0, env, F, _, rl, h2, fun v F1 H1 g1 hd => ?_⟩
    obtain ⟨b, us, rfl, hb, ub⟩ := hd.lst g1.sub
    refine ⟨a, b, vs, us, rfl, rfl, g1.hh _ _ q1, hb, ?_, ?_⟩
    · rw [DvA.length q4, DvA.length ub, sizeLine_eq]; exact hz
    · exact k σ F1 _ ((rl.grow g1).write hg e1 (DvA.append (DvA.mono (g1.ff rl.sub) _ _ q4) ub)) (g1.ff rl.sub)
/-- xs[i] = e, xs a list of our own -/
def rdSetIx (K : PySem.W.Frag) (i : Nat) (di : Ev → Option D) : TG := fun v σ H Q => ∃ H0 F0 env F d env', Rel K H0 F0 env σ F H ∧ Dv K F v d ∧ ((isO (gt env i)).bind fun ds => (di env).bind fun ix => (isI ix).bind fun n => (ixN ds.length n).map fun j => st env i (some (.own (ds.set j d)))) = some env' ∧
  ∀ F' H', Rel K H0 F0 env' σ F' H' → Same F F' → Q σ H'
theorem vg_ix (i : Nat) {x : Str} {px : Pos} (hi : PVE X b db) (hN : X.N[i]? = some x := by rfl) (hv : Vis X.env.scope x := by first | exact Or.inl rfl | exact Or.inr (Or.inl rfl) | exact Or.inr (Or.inr rfl)) (hd : (x == ("__debug__" : Str)) = false := by decide) (hcd : (x == ("__classdict__" : Str)) = false := by decide)
    (ha : ∀ v, assign (.Subscript (.Name x px) b pos) X.env v = (do
      let ov ← holding [v] (eval (.Name x px) X.env)
      let iv ← holding [v, ov] (eval b X.env)
      standAt pos
      holding [v, ov, iv] (setItem ov iv v)
      release [v, ov, iv] []) := by intro _; rfl) : PG X (.Subscript (.Name x px) b pos) (rdSetIx X.K i db) :=
  PG.imp (pg_sub (pe_var (i := i) hN hv hd hcd) hi set_list ha) fun v σ H Q ⟨H0, F0, env, F, d, env', rl, hd, ed, k⟩ => by
    obtain ⟨ds, h1, ed⟩ := Option.bind_eq_some_iff.mp ed
    obtain ⟨ix, h2, ed⟩ := Option.bind_eq_some_iff.mp ed
    obtain ⟨n, h3, ed⟩ := Option.bind_eq_some_iff.mp ed
    obtain ⟨j, h4, h5⟩ := Option.map_eq_some_iff.mp ed
    subst h5
    obtain rfl := isI_some h3
    have hg := isO_some h1
    obtain ⟨y, e1, a, vs, rfl, q1, q2, q3, q4⟩ := rl.slot i _ hg
    refine ⟨.ref a, e1, H0, F0, env, F, _, rl, h2, fun w F1 H1 g1 hw => ?_⟩
    cases hw
    refine ⟨a, vs, n, j, rfl, rfl, g1.hh _ _ q1, by rw [DvA.length q4]; exact h4, ?_⟩
    exact k F1 _ ((rl.grow g1).write hg e1 (DvA.set j (DvA.mono (g1.ff rl.sub) _ _ q4) (Dv.mono (g1.ff rl.sub) _ _ hd))) (g1.ff rl.sub)
def setIx (i : Nat) (di : Ev → Option D) : Tgt := fun d env => (isO (gt env i)).bind fun ds => (di env).bind fun ix => (isI ix).bind fun n => (ixN ds.length n).map fun j => st env i (some (.own (ds.set j d)))
theorem vs_setIx {i : Nat} (he : PVE X e da) (hg : PG X tg (rdSetIx X.K i db)) (hs : swapsWithSole [tg] e pos.line X.env = pure false := by rfl) (hw : swappedStores [tg] e X.env = pure none := by rfl)
    (h1 : (assignEach [tg] X.env).map (·.2) = [assign tg X.env] := by rfl) : PVS X (.Assign [tg] e pos) (sAsg (setIx i db) da) := PS.imp (ps_asg he hg hs hw h1) fun D σ H ⟨H0, F0, env, F, o, rl, ed, k⟩ => by
  obtain ⟨d, h1, ed⟩ := Option.bind_eq_some_iff.mp ed
  obtain ⟨e', h2, h3⟩ := Option.map_eq_some_iff.mp ed
  subst h3
  exact ⟨H0, F0, env, F, d, rl, h1, fun x F1 H1 g1 hd => ⟨H0, F0, env, F1, d, e', rl.grow g1, hd, h2, fun F2 H2 r' q => k σ F2 H2 r' ((g1.ff rl.sub).trans q)⟩⟩

/-! ### loops -/
def forL (tgt : Tgt) (body : Ev → Option Out) (is : List Nat) : List D → Ev → Option Out
  | [], env => some (.nx env)
  | d :: ds, env => (tgt d env).bind fun e1 => (body e1).bind fun o => match o with
    | .nx e => forL tgt body is ds (fgs e is)
    | .ct e => forL tgt body is ds (fgs e is)
    | .bk e => some (.nx (fgs e is))
    | .rt d => some (.rt d)
def sFor (is : List Nat) (src : Ev → Option (List D)) (tgt : Tgt) (body : Ev → Option Out) : Ev → Option Out := fun env => (src env).bind fun ds => forL tgt body is ds (fgs env is)
theorem vs_for (is : List Nat) {ks : List Nat} {iter : Expr} {tgt : Tgt} {body : List Stmt} (hp : PassesOwn (model X.prog X.w) X.A X.env X.xe) (hc : X.calm = true) (hi : PVI X tg iter dr) (hg : PVG X tg ks tgt) (hb : PVSs X body d1)
    (hs : ∀ x, foldedSetIterable iter X.env x = pure x := by intro _; rfl) : PVS X (.For tg iter body [] pos) (sFor is dr tgt d1) := PS.imp (ps_for hp hc hi hg hb hs) fun D σ H ⟨H0, F0, env, F, o, rl, ed, k⟩ => by
  obtain ⟨ds, h1, ed⟩ := Option.bind_eq_some_iff.mp ed
  refine ⟨H0, F0, env, F, ds, rl, h1, fun J F1 H1 g1 wk => ?_⟩
  have k1 := k.mono (g1.ff rl.sub)
  refine ⟨fun i m σ H => m = ds.length - i ∧ i ≤ ds.length ∧ ∃ env F, Rel X.K H0 F0 env σ F H ∧ Same F1 F ∧ forL tgt d1 is (ds.drop i) env = some o, ⟨ds.length, by omega, Nat.zero_le _, fgs env is, F1, (rl.grow g1).fgs is, Same.refl _, ed⟩, ?_⟩
  rintro i m σ H ⟨rfl, hi, env, F, r, sF, eo⟩
  by_cases hlt : i < ds.length
  · refine .inr ⟨wk.go i F H sF r.sub hlt, fun σ H => ∃ env F, Rel X.K H0 F0 env σ F H ∧ Same F1 F ∧ forL tgt d1 is (ds.drop (i + 1)) env = some o, fun σ' H' q => ⟨_, by omega, rfl, hlt, q⟩, fun x H' y => ?_⟩
    obtain ⟨F', d, g, e1, hd⟩ := wk.yld i F H x H' sF r.sub hlt y
    have ed2 : ds.drop i = d :: ds.drop (i + 1) := by
      rw [List.drop_eq_getElem_cons hlt]
      rw [List.getElem?_eq_getElem hlt] at e1
      cases e1; rfl
    rw [ed2] at eo
    obtain ⟨e', h2, eo⟩ := Option.bind_eq_some_iff.mp (show Option.bind _ _ = _ from eo)
    obtain ⟨o1, h3, eo⟩ := Option.bind_eq_some_iff.mp eo
    refine ⟨H0, F0, env, F', d, e', r.grow g, hd, h2, fun σ2 r2 _ _ => ⟨H0, F0, e', F', o1, r2, h3, ?_⟩⟩
    have sF' : Same F1 F' := sF.trans (g.ff r.sub)
    cases o1 with
    | nx e2 => exact fun σ3 F3 H3 r3 q3 => ⟨fgs e2 is, F3, r3.fgs is, sF'.trans q3, eo⟩
    | ct e2 => exact fun σ3 F3 H3 r3 q3 => ⟨fgs e2 is, F3, r3.fgs is, sF'.trans q3, eo⟩
    | bk e2 => cases eo; exact fun σ3 F3 H3 r3 q3 => k1 σ3 F3 H3 (r3.fgs is) (sF'.trans q3)
    | rt d2 => cases eo; exact k1
  · have e : i = ds.length := by omega
    subst e
    rw [List.drop_length] at eo
    cases eo
    exact .inl ⟨wk.stop F H sF r.sub, k1 σ F H r sF⟩
def whL (tc : Ev → Option Bool) (body : Ev → Option Out) (is : List Nat) : Nat → Ev → Option Out
  | 0, _ => none
  | n + 1, env => (tc env).bind fun c => if c = true then (body env).bind fun o => match o with
    | .nx e => whL tc body is n (fgs e is)
    | .ct e => whL tc body is n (fgs e is)
    | .bk e => some (.nx (fgs e is))
    | .rt d => some (.rt d)
    else some (.nx env)
def sWhile (n : Nat) (is : List Nat) (tc : Ev → Option Bool) (body : Ev → Option Out) : Ev → Option Out := fun env => whL tc body is n (fgs env is)
theorem vs_while (n : Nat) (is : List Nat) {tc : Ev → Option Bool} {body : List Stmt} (hp : PassesOwn (model X.prog X.w) X.A X.env X.xe) (hc : PVT X c tc) (hb : PVSs X body d1) : PVS X (.While c body [] pos) (sWhile n is tc d1) := PS.imp (ps_while hp hc hb) fun D σ H ⟨H0, F0, env, F, o, rl, ed, k⟩ => by
  refine ⟨fun m σ H => ∃ env F', Rel X.K H0 F0 env σ F' H ∧ Same F F' ∧ whL tc d1 is m env = some o, ⟨n, fgs env is, F, rl.fgs is, Same.refl _, ed⟩, ?_⟩
  rintro m σ H ⟨env, F', r, sF, eo⟩
  cases m with
  | zero => cases eo
  | succ m =>
    obtain ⟨b, h1, eo⟩ := Option.bind_eq_some_iff.mp (show Option.bind _ _ = _ from eo)
    refine ⟨H0, F0, env, F', b, r, h1, fun F1 H1 g1 => ?_⟩
    have sF1 := sF.trans (g1.ff r.sub)
    cases b with
    | false =>
      simp only [Bool.false_eq_true, if_false] at eo ⊢
      cases eo
      exact k σ F1 H1 (r.grow g1) sF1
    | true =>
      simp only [if_true] at eo ⊢
      obtain ⟨o1, h2, eo⟩ := Option.bind_eq_some_iff.mp eo
      refine ⟨fun σ H => ∃ env F', Rel X.K H0 F0 env σ F' H ∧ Same F F' ∧ whL tc d1 is m env = some o, fun σ' H' q => ⟨m, Nat.lt_succ_self m, q⟩, H0, F0, env, F1, o1, r.grow g1, h2, ?_⟩
      cases o1 with
      | nx e2 => exact fun σ3 F3 H3 r3 q3 => ⟨fgs e2 is, F3, r3.fgs is, sF1.trans q3, eo⟩
      | ct e2 => exact fun σ3 F3 H3 r3 q3 => ⟨fgs e2 is, F3, r3.fgs is, sF1.trans q3, eo⟩
      | bk e2 => cases eo; exact fun σ3 F3 H3 r3 q3 => k σ3 F3 H3 (r3.fgs is) (sF1.trans q3)
      | rt d2 => cases eo; exact k
end
end PV
end

section
set_option maxRecDepth 100000
set_option maxHeartbeats 4000000
namespace PV
open PySem PySem.Spec PyProof.Rows L2

/-! ### list comprehensions -/
/-- the list at D while it is made -/
structure LcI (K : PySem.W.Frag) (F1 H1 : Hp) (D : Addr) (F H : Hp) (acc : List PyData) : Prop where
  hD : ∃ vs, H D = some (.lst vs) ∧ DvA K F vs acc
  fD : F D = none
  gr : Grow F1 H1 F H
section
variable {K : PySem.W.Frag} {F1 H1 F H F' H' : Hp} {D : Addr} {acc : List PyData}
theorem LcI.grow (i : LcI K F1 H1 D F H acc) (g : Grow F H F' H') : LcI K F1 H1 D F' H' acc := by
  obtain ⟨vs, h1, h2⟩ := i.hD
  exact ⟨⟨vs, g.hh _ _ h1, DvA.mono (g.ff i.gr.sub) _ _ h2⟩, g.fr.none h1 (fun _ z => nomatch z) i.fD, i.gr.trans g⟩
theorem LcI.push (i : LcI K F1 H1 D F H acc) (hn : H1 D = none) {y : V} {d : PyData} (hd : Dv K F y d) : ∃ vs, H D = some (.lst vs) ∧ vs.length = acc.length ∧ LcI K F1 H1 D F (upd H D (.lst (vs ++ [y]))) (acc ++ [d]) := by
  obtain ⟨vs, h1, h2⟩ := i.hD
  refine ⟨vs, h1, DvA.length h2, ⟨_, upd_same, DvA.append h2 (.cons hd .nil)⟩, i.fD, fun b o e => ?_, i.gr.fr, fun b o e => ?_⟩
  · rw [upd_ne (ne_of_none e hn)]; exact i.gr.hh b o e
  · rw [upd_ne (ne_of_none e i.fD)]; exact i.gr.sub b o e
theorem LcI.start (s : Same F1 H1) (hn : H1 D = none) : LcI K F1 H1 D F1 (upd H1 D (.lst [])) [] := ⟨⟨[], upd_same, .nil⟩, fnone s hn, Grow.made s hn⟩
end
def lcL (tgt : Tgt) (cond : Ev → Option Bool) (elt : Ev → Option PyData) : List PyData → Ev → Option (List PyData)
  | [], _ => some []
  | d :: ds, env => (tgt d env).bind fun e1 => (cond e1).bind fun c => if c = true then (elt e1).bind fun y => (lcL tgt cond elt ds env).map (y :: ·) else lcL tgt cond elt ds env
def nLc (vs : List Nat) (src : Ev → Option (List PyData)) (tgt : Tgt) (cond : Ev → Option Bool) (elt : Ev → Option PyData) : Ev → Option (List PyData) := fun env =>
  (src env).bind fun ds => (lcL tgt cond elt ds (fgs env vs)).bind fun r => if r.length ≤ line then some r else none
def lc2L (tgt : Tgt) (cond : Ev → Option Bool) (src1 : Ev → Option (List PyData)) (vs1 : List Nat) (tgt1 : Tgt) (cond1 : Ev → Option Bool) (elt : Ev → Option PyData) : List PyData → Ev → Option (List PyData)
  | [], _ => some []
  | d :: ds, env => (tgt d env).bind fun e1 => (cond e1).bind fun c => if c = true then (src1 e1).bind fun es => (lcL tgt1 cond1 elt es (fgs e1 vs1)).bind fun a => (lc2L tgt cond src1 vs1 tgt1 cond1 elt ds env).map (a ++ ·)
    else lc2L tgt cond src1 vs1 tgt1 cond1 elt ds env
def nLc2 (vs : List Nat) (src : Ev → Option (List PyData)) (tgt : Tgt) (cond : Ev → Option Bool) (src1 : Ev → Option (List PyData)) (vs1 : List Nat) (tgt1 : Tgt) (cond1 : Ev → Option Bool) (elt : Ev → Option PyData) : Ev → Option (List PyData) := fun env =>
  (src env).bind fun ds => (lc2L tgt cond src1 vs1 tgt1 cond1 elt ds (fgs env vs)).bind fun r => if r.length ≤ line then some r else none
def tTrue : Ev → Option Bool := fun _ => some true
abbrev PVTs (X : Cx) (ifs : List Expr) (den : Ev → Option Bool) : Prop := PTs X ifs (rdT X.K den)
section
variable {X : Cx} {elt tg iter tg1 iter1 : Expr} {ifs ifs1 : List Expr} {scope : Scope} {own : List (Str × Nat)} {pos : Pos}
theorem PTs.imp {t t' : TT} (h : PTs X ifs t) (k : ∀ σ H Q, t' σ H Q → t σ H Q) : PTs X ifs t' := ⟨fun pins s σ H Q I q => h.run pins s σ H Q I (k _ _ _ q)⟩
theorem vts_nil : PVTs X [] tTrue := PTs.imp pts_nil fun σ H Q ⟨H0, F0, env, F, b, rl, ed, k⟩ => by cases ed; exact k F H (Grow.refl rl.sub)
theorem vts_one {c : Expr} {tc : Ev → Option Bool} (h : PVT X c tc) : PVTs X [c] tc := pts_one h
variable {src src1 : Ev → Option (List PyData)} {tgt tgt1 : Tgt} {cond cond1 : Ev → Option Bool} {de : Ev → Option PyData} {is is1 vs1 : List Nat}
theorem wipe_twice (σ : St) (vs : List Nat) : wipe (wipe σ vs) vs = wipe σ vs := by
  apply List.ext_getElem?
  intro j
  rw [wipe_at, wipe_at]
  by_cases h : j ∈ vs
  · simp only [h, if_true, Option.map_map]; rfl
  · simp [h]
theorem lc_rd {K : PySem.W.Frag} {vs : List Nat} (hs : ∀ i ∈ is, i ∈ vs) {σ : St} {H : Hp} {Q : VK} (q : rdN K (nLc vs src tgt cond de) σ H Q) : tLc (rdI K src) (rdG K is tgt) (rdT K cond) (rdE K de) vs σ H Q := by
  obtain ⟨H0, F0, env, F, zs, rl, ed, k⟩ := q
  obtain ⟨ds, h1, ed⟩ := Option.bind_eq_some_iff.mp ed
  obtain ⟨r, h2, ed⟩ := Option.bind_eq_some_iff.mp ed
  obtain ⟨hz, rfl⟩ := ite_some ed
  refine ⟨H0, F0, env, F, ds, rl, h1, fun J F1 H1 g1 wk D hn => ?_⟩
  refine ⟨fun i m H => m = ds.length - i ∧ i ≤ ds.length ∧ ∃ F acc rest, LcI K F1 H1 D F H acc ∧ lcL tgt cond de (ds.drop i) (fgs env vs) = some rest ∧ acc ++ rest = r, ⟨ds.length, by omega, Nat.zero_le _, F1, [], r, LcI.start g1.sub hn, h2, rfl⟩, ?_⟩
  rintro i m Hi ⟨rfl, hi, Fi, acc, rest, li, er, ea⟩
  have sF : Same F1 Fi := li.gr.ff g1.sub
  by_cases hlt : i < ds.length
  · refine .inr ⟨wk.go i Fi Hi sF li.gr.sub hlt, fun Hn => ∃ F acc rest, LcI K F1 H1 D F Hn acc ∧ lcL tgt cond de (ds.drop (i + 1)) (fgs env vs) = some rest ∧ acc ++ rest = r, fun H' q => ⟨_, by omega, rfl, hlt, q⟩, fun x H' y => ?_⟩
    obtain ⟨F', d, g, e1, hd⟩ := wk.yld i Fi Hi x H' sF li.gr.sub hlt y
    have ed2 : ds.drop i = d :: ds.drop (i + 1) := by
      rw [List.drop_eq_getElem_cons hlt]
      rw [List.getElem?_eq_getElem hlt] at e1
      cases e1; rfl
    rw [ed2] at er
    obtain ⟨e', h3, er⟩ := Option.bind_eq_some_iff.mp (show Option.bind _ _ = _ from er)
    obtain ⟨c, h4, er⟩ := Option.bind_eq_some_iff.mp er
    have l1 := li.grow g
    have r0 : Rel K H0 F0 (fgs env vs) (wipe σ vs) F' H' := ((rl.grow g1).grow l1.gr).wipe vs
    refine ⟨H0, F0, _, F', d, e', r0, hd, h3, fun σ2 r2 w2 o2 => ⟨by rw [w2 vs hs]; exact wipe_twice σ vs, H0, F0, e', F', c, r2, h4, fun F2 H2 g2 => ?_⟩⟩
    have l2 := l1.grow g2
    cases c with
    | false =>
      simp only [Bool.false_eq_true, if_false] at er ⊢
      exact ⟨F2, acc, rest, l2, er, ea⟩
    | true =>
      simp only [if_true] at er ⊢
      obtain ⟨y, h5, er⟩ := Option.bind_eq_some_iff.mp er
      obtain ⟨rest', h6, h7⟩ := Option.map_eq_some_iff.mp er
      subst h7
      refine ⟨H0, F0, e', F2, y, r2.grow g2, h5, fun v F3 H3 g3 hv => ?_⟩
      obtain ⟨us, e3, e4, l3⟩ := (l2.grow g3).push hn hv
      refine ⟨us, e3, ?_, F3, acc ++ [y], rest', l3, h6, by rw [← ea, List.append_assoc]; rfl⟩
      have hlen := congrArg List.length ea
      rw [List.length_append, List.length_cons] at hlen
      rw [e4, sizeLine_eq]
      have : r.length ≤ 16777216 := hz
      omega
  · have e : i = ds.length := by omega
    subst e
    rw [List.drop_length] at er
    cases er
    rw [List.append_nil] at ea
    subst ea
    obtain ⟨us, e3, e4⟩ := li.hD
    refine .inl ⟨wk.stop Fi Hi sF li.gr.sub, k D us Fi Hi (g1.trans li.gr) ?_ e3 li.fD e4⟩
    cases hh : H D with
    | none => rfl
    | some o => rw [g1.hh D o hh] at hn; cases hn
theorem vlc (own : List (Str × Nat)) (vs : List Nat) (hc : X.calm = true) (hN : X.N.Nodup) (hi : PVI X tg iter src) (ok : BlkOk X.N X.env.scope scope own)
    (hg : ∀ (s : Shared) (H : Hp) (C : Addr) (cl : List (Str × Addr)) (fp : List Addr), PG (X.blk s H scope (compEnvC scope cl C X.env) fp) tg (rdG X.K is tgt)) (ht : ∀ (s : Shared) (H : Hp) (C : Addr) (cl : List (Str × Addr)) (fp : List Addr), PTs (X.blk s H scope (compEnvC scope cl C X.env) fp) ifs (rdT X.K cond))
    (he : ∀ (s : Shared) (H : Hp) (C : Addr) (cl : List (Str × Addr)) (fp : List Addr), PE (X.blk s H scope (compEnvC scope cl C X.env) fp) elt (rdE X.K de)) (hvs : own.map (·.2) = vs := by rfl) (h1 : ∀ i ∈ is, i ∈ vs := by decide) (hs : ∀ x, foldedSetIterable iter X.env x = pure x := by intro _; rfl) :
    PVN X (.ListComp elt [⟨tg, iter, ifs, 0⟩] scope pos) (nLc vs src tgt cond de) :=
  PE.imp (pe_lc hc hN hi ok hg ht he hs) fun _ _ _ q => by rw [hvs]; exact lc_rd h1 q
/-- name = [..] on one line, the name a local -/
theorem rd_name {K : PySem.W.Frag} {i : Nat} {dn : Ev → Option (List PyData)} {own : Bool} {D : Ends} {σ : St} {H : Hp} (q : rdS K (sSet i (fun env => (dn env).map fun ds => if own then SV.own ds else .v (.list ds))) D σ H) : rdN K dn σ H (fun x H1 => D.nx (σ.set i (some x)) H1) := by
  obtain ⟨H0, F0, env, F, o, rl, ed, k⟩ := q
  obtain ⟨sv, h1, h2⟩ := Option.map_eq_some_iff.mp ed
  subst h2
  obtain ⟨ds, h3, h4⟩ := Option.map_eq_some_iff.mp h1
  refine ⟨H0, F0, env, F, ds, rl, h3, fun a vs F1 H1 g1 hn ha hf hv => ?_⟩
  cases own with
  | true =>
    simp only [if_true] at h4
    subst h4
    exact k _ F1 H1 ((rl.grow g1).setX (F := F) rl.base rl.old ⟨a, vs, rfl, hn, ha, hf, hv⟩) (g1.ff rl.sub)
  | false =>
    simp only [Bool.false_eq_true, if_false] at h4
    subst h4
    have g2 : Grow F H (upd F1 a (.lst vs)) H1 := ⟨g1.hh, g1.fr.upd hn, fun b o eb => by
      by_cases z : b = a
      · subst z; rw [upd_same] at eb; cases eb; exact ha
      · rw [upd_ne z] at eb; exact g1.sub b o eb⟩
    exact k _ _ H1 ((rl.grow g2).set (.lst upd_same (DvA.mono (same_upd hf) _ _ hv))) (g2.ff rl.sub)
def xN (own : Bool) (dn : Ev → Option (List PyData)) : Ev → Option SV := fun env => (dn env).map fun ds => if own then SV.own ds else .v (.list ds)
theorem vs_setLc (own : List (Str × Nat)) (vs : List Nat) (i : Nat) (ownB : Bool) {y : Str} {py spos : Pos} (hc : X.calm = true) (hN : X.N.Nodup) (hi : PVI X tg iter src) (ok : BlkOk X.N X.env.scope scope own)
    (hg : ∀ (s : Shared) (H : Hp) (C : Addr) (cl : List (Str × Addr)) (fp : List Addr), PG (X.blk s H scope (compEnvC scope cl C X.env) fp) tg (rdG X.K is tgt)) (ht : ∀ (s : Shared) (H : Hp) (C : Addr) (cl : List (Str × Addr)) (fp : List Addr), PTs (X.blk s H scope (compEnvC scope cl C X.env) fp) ifs (rdT X.K cond))
    (he : ∀ (s : Shared) (H : Hp) (C : Addr) (cl : List (Str × Addr)) (fp : List Addr), PE (X.blk s H scope (compEnvC scope cl C X.env) fp) elt (rdE X.K de)) (hvs : own.map (·.2) = vs := by rfl) (h1 : ∀ i ∈ is, i ∈ vs := by decide) (hs : ∀ x, foldedSetIterable iter X.env x = pure x := by intro _; rfl)
    (hy : X.N[i]? = some y := by rfl) (hyl : X.env.scope.names.lookup y = some .local := by rfl) (hsw : swapsWith (.ListComp elt [⟨tg, iter, ifs, 0⟩] scope pos) (some (.Name y py)) spos.line X.env = pure true := by exact sw_true rfl rfl rfl (by decide +kernel)) :
    PVS X (.Assign [.Name y py] (.ListComp elt [⟨tg, iter, ifs, 0⟩] scope pos) spos) (sSet i (xN ownB (nLc vs src tgt cond de))) :=
  PS.imp (ps_setLc hc hN hy hyl hsw hi ok hg ht he hs) fun D σ H q => by rw [hvs]; exact lc_rd h1 (rd_name q)
theorem rel_upd {K : PySem.W.Frag} {H0 F0 F H : Hp} {env : Ev} {σ : St} {D : Addr} {o : HO} (r : Rel K H0 F0 env σ F H) (hf : F D = none) (h0 : H0 D = none) (ho : ∀ j s, gt env j = some s → s.o = true → σ[j]? ≠ some (some (.ref D))) : Rel K H0 F0 env σ F (upd H D o) where
  base := fun b u e => by rw [upd_ne (ne_of_none e h0)]; exact r.base b u e
  sub := fun b u e => by rw [upd_ne (ne_of_none e hf)]; exact r.sub b u e
  frz := r.frz
  len := r.len
  slot := fun i s e => by
    obtain ⟨x, e1, q⟩ := r.slot i s e
    exact ⟨x, e1, q.upd fun so w => ho i s e so (by rw [← w]; exact e1)⟩
  apart := r.apart
theorem lc2_rd {K : PySem.W.Frag} {vs : List Nat} (hs : ∀ i ∈ is, i ∈ vs) (hs1 : ∀ i ∈ is1, i ∈ vs1) {σ : St} {H : Hp} {Q : VK} (q : rdN K (nLc2 vs src tgt cond src1 vs1 tgt1 cond1 de) σ H Q) :
    tLc2 (rdI K src) (rdG K is tgt) (rdT K cond) (rdI K src1) (rdG K is1 tgt1) (rdT K cond1) (rdE K de) vs vs1 σ H Q := by
  obtain ⟨H0, F0, env, F, zs, rl, ed, k⟩ := q
  obtain ⟨ds, h1, ed⟩ := Option.bind_eq_some_iff.mp ed
  obtain ⟨r, h2, ed⟩ := Option.bind_eq_some_iff.mp ed
  obtain ⟨hz, rfl⟩ := ite_some ed
  have hzl : r.length ≤ 16777216 := hz
  refine ⟨H0, F0, env, F, ds, rl, h1, fun J F1 H1 g1 wk D hn => ?_⟩
  have nD : ¬ H D ≠ none := fun h => by
    obtain ⟨u, eu⟩ := Option.ne_none_iff_exists'.mp h
    rw [g1.hh D u eu] at hn; cases hn
  have h0D : H0 D = none := by
    cases q : H0 D with
    | none => rfl
    | some o => exact absurd (by rw [rl.base D o q]; simp) nD
  refine ⟨fun i m H => m = ds.length - i ∧ i ≤ ds.length ∧ ∃ F acc rest, LcI K F1 H1 D F H acc ∧ lc2L tgt cond src1 vs1 tgt1 cond1 de (ds.drop i) (fgs env vs) = some rest ∧ acc ++ rest = r, ⟨ds.length, by omega, Nat.zero_le _, F1, [], r, LcI.start g1.sub hn, h2, rfl⟩, ?_⟩
  rintro i m Hi ⟨rfl, hi, Fi, acc, rest, li, er, ea⟩
  have sF : Same F1 Fi := li.gr.ff g1.sub
  by_cases hlt : i < ds.length
  · refine .inr ⟨wk.go i Fi Hi sF li.gr.sub hlt, fun Hn => ∃ F acc rest, LcI K F1 H1 D F Hn acc ∧ lc2L tgt cond src1 vs1 tgt1 cond1 de (ds.drop (i + 1)) (fgs env vs) = some rest ∧ acc ++ rest = r, fun H' q => ⟨_, by omega, rfl, hlt, q⟩, fun x H' y => ?_⟩
    obtain ⟨F', d, g, e1, hd⟩ := wk.yld i Fi Hi x H' sF li.gr.sub hlt y
    have ed2 : ds.drop i = d :: ds.drop (i + 1) := by
      rw [List.drop_eq_getElem_cons hlt]
      rw [List.getElem?_eq_getElem hlt] at e1
      cases e1; rfl
    rw [ed2] at er
    obtain ⟨e', h3, er⟩ := Option.bind_eq_some_iff.mp (show Option.bind _ _ = _ from er)
    obtain ⟨c, h4, er⟩ := Option.bind_eq_some_iff.mp er
    have l1 := li.grow g
    have r0 : Rel K H0 F0 (fgs env vs) (wipe σ vs) F' H' := ((rl.grow g1).grow l1.gr).wipe vs
    refine ⟨H0, F0, _, F', d, e', r0, hd, h3, fun σ2 r2 w2 o2 => ⟨by rw [w2 vs hs]; exact wipe_twice σ vs, H0, F0, e', F', c, r2, h4, fun F2 H2 g2 => ?_⟩⟩
    have l2 := l1.grow g2
    cases c with
    | false =>
      simp only [Bool.false_eq_true, if_false] at er ⊢
      exact ⟨F2, acc, rest, l2, er, ea⟩
    | true =>
      simp only [if_true] at er ⊢
      obtain ⟨es, h5, er⟩ := Option.bind_eq_some_iff.mp er
      obtain ⟨a1, h6, er⟩ := Option.bind_eq_some_iff.mp er
      obtain ⟨rest', h7, h8⟩ := Option.map_eq_some_iff.mp er
      subst h8
      refine ⟨H0, F0, e', F2, es, r2.grow g2, h5, fun J1 F3 H3 g3 wk1 => ?_⟩
      have l3 := l2.grow g3
      have rE : Rel K H0 F0 e' σ2 F3 H3 := (r2.grow g2).grow g3
      refine ⟨fun j m H => m = es.length - j ∧ j ≤ es.length ∧ ∃ F ac re, LcI K F1 H1 D F H (acc ++ ac) ∧ Rel K H0 F0 (fgs e' vs1) (wipe σ2 vs1) F H ∧ Same F3 F ∧ lcL tgt1 cond1 de (es.drop j) (fgs e' vs1) = some re ∧ ac ++ re = a1,
        ⟨es.length, by omega, Nat.zero_le _, F3, [], a1, by rw [List.append_nil]; exact l3, rE.wipe vs1, Same.refl _, h6, rfl⟩, ?_⟩
      rintro j m Hj ⟨rfl, hj, Fj, ac, re, lj, rj, sj, ej, eaj⟩
      by_cases hlj : j < es.length
      · refine .inr ⟨wk1.go j Fj Hj sj lj.gr.sub hlj, fun Hn => ∃ F ac re, LcI K F1 H1 D F Hn (acc ++ ac) ∧ Rel K H0 F0 (fgs e' vs1) (wipe σ2 vs1) F Hn ∧ Same F3 F ∧ lcL tgt1 cond1 de (es.drop (j + 1)) (fgs e' vs1) = some re ∧ ac ++ re = a1,
          fun H' q => ⟨_, by omega, rfl, hlj, q⟩, fun x H' y => ?_⟩
        obtain ⟨F5, d5, g5, e5, hd5⟩ := wk1.yld j Fj Hj x H' sj lj.gr.sub hlj y
        have ed5 : es.drop j = d5 :: es.drop (j + 1) := by
          rw [List.drop_eq_getElem_cons hlj]
          rw [List.getElem?_eq_getElem hlj] at e5
          cases e5; rfl
        rw [ed5] at ej
        obtain ⟨e6, k3, ej⟩ := Option.bind_eq_some_iff.mp (show Option.bind _ _ = _ from ej)
        obtain ⟨c6, k4, ej⟩ := Option.bind_eq_some_iff.mp ej
        have m1 := lj.grow g5
        have r5 := rj.grow g5
        refine ⟨H0, F0, _, F5, d5, e6, r5, hd5, k3, fun σ6 r6 w6 o6 => ⟨by rw [w6 vs1 hs1]; exact wipe_twice σ2 vs1, H0, F0, e6, F5, c6, r6, k4, fun F7 H7 g7 => ?_⟩⟩
        have m2 := m1.grow g7
        have s7 : Same F3 F7 := sj.trans ((g5.trans g7).ff lj.gr.sub)
        cases c6 with
        | false =>
          simp only [Bool.false_eq_true, if_false] at ej ⊢
          exact ⟨F7, ac, re, m2, r5.grow g7, s7, ej, eaj⟩
        | true =>
          simp only [if_true] at ej ⊢
          obtain ⟨y8, k5, ej⟩ := Option.bind_eq_some_iff.mp ej
          obtain ⟨re', k6, k7⟩ := Option.map_eq_some_iff.mp ej
          subst k7
          refine ⟨H0, F0, e6, F7, y8, r6.grow g7, k5, fun v F8 H8 g8 hv => ?_⟩
          have m3 := m2.grow g8
          obtain ⟨us, q3, q4, l8⟩ := m3.push hn hv
          refine ⟨us, q3, ?_, F8, ac ++ [y8], re', by rw [← List.append_assoc]; exact l8, ?_, s7.trans (g8.ff m2.gr.sub), k6, by rw [← eaj, List.append_assoc]; rfl⟩
          · have hlen := congrArg List.length ea
            have hlen2 := congrArg List.length eaj
            rw [List.length_append, List.length_append] at hlen
            rw [List.length_append, List.length_cons] at hlen2
            rw [q4, List.length_append, sizeLine_eq]
            omega
          · have r8 := (r5.grow g7).grow g8
            -- the list at D is in no slot
            refine rel_upd r8 m3.fD h0D fun t ts et so e9 => ?_
            obtain ⟨et1, nt1⟩ := gt_fgs et
            rw [wipe_get nt1] at e9
            obtain ⟨et2, e10⟩ := o2 t ts et1 so
            obtain ⟨et3, nt3⟩ := gt_fgs et2
            rw [e10, wipe_get nt3] at e9
            exact nD (rl.old t ts D et3 so e9)
      · have e : j = es.length := by omega
        subst e
        rw [List.drop_length] at ej
        cases ej
        rw [List.append_nil] at eaj
        subst eaj
        exact .inl ⟨wk1.stop Fj Hj sj lj.gr.sub, Fj, acc ++ ac, rest', lj, h7, by rw [← ea, List.append_assoc]⟩
  · have e : i = ds.length := by omega
    subst e
    rw [List.drop_length] at er
    cases er
    rw [List.append_nil] at ea
    subst ea
    obtain ⟨us, e3, e4⟩ := li.hD
    refine .inl ⟨wk.stop Fi Hi sF li.gr.sub, k D us Fi Hi (g1.trans li.gr) ?_ e3 li.fD e4⟩
    cases hh : H D with
    | none => rfl
    | some o => rw [g1.hh D o hh] at hn; cases hn
theorem vlc2 (own : List (Str × Nat)) (vs : List Nat) (vs1 : List Nat) (hc : X.calm = true) (hN : X.N.Nodup) (hi : PVI X tg iter src) (ok : BlkOk X.N X.env.scope scope own)
    (hg : ∀ (s : Shared) (H : Hp) (C : Addr) (cl : List (Str × Addr)) (fp : List Addr), PG (X.blk s H scope (compEnvC scope cl C X.env) fp) tg (rdG X.K is tgt)) (ht : ∀ (s : Shared) (H : Hp) (C : Addr) (cl : List (Str × Addr)) (fp : List Addr), PTs (X.blk s H scope (compEnvC scope cl C X.env) fp) ifs (rdT X.K cond))
    (hi1 : ∀ (s : Shared) (H : Hp) (C : Addr) (cl : List (Str × Addr)) (fp : List Addr), PI (X.blk s H scope (compEnvC scope cl C X.env) fp) tg1 iter1 (rdI X.K src1))
    (hg1 : ∀ (s : Shared) (H : Hp) (C : Addr) (cl : List (Str × Addr)) (fp : List Addr), PG (X.blk s H scope (compEnvC scope cl C X.env) fp) tg1 (rdG X.K is1 tgt1)) (ht1 : ∀ (s : Shared) (H : Hp) (C : Addr) (cl : List (Str × Addr)) (fp : List Addr), PTs (X.blk s H scope (compEnvC scope cl C X.env) fp) ifs1 (rdT X.K cond1))
    (he : ∀ (s : Shared) (H : Hp) (C : Addr) (cl : List (Str × Addr)) (fp : List Addr), PE (X.blk s H scope (compEnvC scope cl C X.env) fp) elt (rdE X.K de)) (hvs : own.map (·.2) = vs := by rfl) (h1 : ∀ i ∈ is, i ∈ vs := by decide) (h2 : ∀ i ∈ is1, i ∈ vs1 := by decide) (hv : ∀ i ∈ vs1, i ∈ vs := by decide)
    (hs : ∀ x, foldedSetIterable iter X.env x = pure x := by intro _; rfl) (hs1 : ∀ env x, foldedSetIterable iter1 env x = pure x := by intro _ _; rfl) :
    PVN X (.ListComp elt [⟨tg, iter, ifs, 0⟩, ⟨tg1, iter1, ifs1, 0⟩] scope pos) (nLc2 vs src tgt cond src1 vs1 tgt1 cond1 de) :=
  PE.imp (pe_lc2 hc hN hi ok (by rw [hvs]; exact hv) hg ht hi1 hg1 ht1 he hs hs1) fun _ _ _ q => by rw [hvs]; exact lc2_rd h1 h2 q
theorem vs_setLc2 (own : List (Str × Nat)) (vs : List Nat) (i : Nat) (ownB : Bool) (vs1 : List Nat) {y : Str} {py spos : Pos} (hc : X.calm = true) (hN : X.N.Nodup) (hi : PVI X tg iter src) (ok : BlkOk X.N X.env.scope scope own)
    (hg : ∀ (s : Shared) (H : Hp) (C : Addr) (cl : List (Str × Addr)) (fp : List Addr), PG (X.blk s H scope (compEnvC scope cl C X.env) fp) tg (rdG X.K is tgt)) (ht : ∀ (s : Shared) (H : Hp) (C : Addr) (cl : List (Str × Addr)) (fp : List Addr), PTs (X.blk s H scope (compEnvC scope cl C X.env) fp) ifs (rdT X.K cond))
    (hi1 : ∀ (s : Shared) (H : Hp) (C : Addr) (cl : List (Str × Addr)) (fp : List Addr), PI (X.blk s H scope (compEnvC scope cl C X.env) fp) tg1 iter1 (rdI X.K src1))
    (hg1 : ∀ (s : Shared) (H : Hp) (C : Addr) (cl : List (Str × Addr)) (fp : List Addr), PG (X.blk s H scope (compEnvC scope cl C X.env) fp) tg1 (rdG X.K is1 tgt1)) (ht1 : ∀ (s : Shared) (H : Hp) (C : Addr) (cl : List (Str × Addr)) (fp : List Addr), PTs (X.blk s H scope (compEnvC scope cl C X.env) fp) ifs1 (rdT X.K cond1))
    (he : ∀ (s : Shared) (H : Hp) (C : Addr) (cl : List (Str × Addr)) (fp : List Addr), PE (X.blk s H scope (compEnvC scope cl C X.env) fp) elt (rdE X.K de)) (hvs : own.map (·.2) = vs := by rfl) (h1 : ∀ i ∈ is, i ∈ vs := by decide) (h2 : ∀ i ∈ is1, i ∈ vs1 := by decide) (hv : ∀ i ∈ vs1, i ∈ vs := by decide)
    (hs : ∀ x, foldedSetIterable iter X.env x = pure x := by intro _; rfl) (hs1 : ∀ env x, foldedSetIterable iter1 env x = pure x := by intro _ _; rfl)
    (hy : X.N[i]? = some y := by rfl) (hyl : X.env.scope.names.lookup y = some .local := by rfl) (hsw : swapsWith (.ListComp elt [⟨tg, iter, ifs, 0⟩, ⟨tg1, iter1, ifs1, 0⟩] scope pos) (some (.Name y py)) spos.line X.env = pure true := by exact sw_true rfl rfl rfl (by decide +kernel)) :
    PVS X (.Assign [.Name y py] (.ListComp elt [⟨tg, iter, ifs, 0⟩, ⟨tg1, iter1, ifs1, 0⟩] scope pos) spos) (sSet i (xN ownB (nLc2 vs src tgt cond src1 vs1 tgt1 cond1 de))) :=
  PS.imp (ps_setLc2 hc hN hy hyl hsw hi ok (by rw [hvs]; exact hv) hg ht hi1 hg1 ht1 he hs hs1) fun D σ H q => by rw [hvs]; exact lc2_rd h1 h2 (rd_name q)
end
end PV
end

section
set_option maxRecDepth 100000
set_option maxHeartbeats 4000000
namespace PV
open PySem PySem.Spec PyProof.Rows L2

/-- a def's promise: it makes Fg of its arguments, all that stood stands -/
def spD (K : PySem.W.Frag) (n : Nat) (Fg : List D → Option D) : Sp := fun vs H Q _ => vs.length = n ∧ ∃ F ds d, Same F H ∧ DvA K F vs ds ∧ Fg ds = some d ∧ ∀ x F' H', Grow F H F' H' → Dv K F' x d → Q x H'
def startE (n : Nat) (ds : List D) : Ev := ds.map (fun d => some (.v d)) ++ List.replicate (n - ds.length) none
/-- n: the names, m: the parameters -/
def runD (n m : Nat) (den : Ev → Option Out) (ds : List D) : Option D := if ds.length = m then (den (startE n ds)).bind fun o => match o with
    | .rt d => some d
    | .nx _ => some .none
    | _ => none
  else none
theorem runD_len {n m : Nat} {den : Ev → Option Out} {ds : List D} {d : D} (h : runD n m den ds = some d) : ds.length = m := by
  unfold runD at h
  split at h
  · assumption
  · cases h
theorem gt_append_lt : ∀ {a b : Ev} {i : Nat}, i < a.length → gt (a ++ b) i = gt a i
  | [], _, _, h => by simp at h
  | _ :: _, _, 0, _ => rfl
  | _ :: r, b, i + 1, h => gt_append_lt (a := r) (b := b) (i := i) (by simpa using h)
theorem gt_append_ge : ∀ {a b : Ev} {i : Nat}, a.length ≤ i → gt (a ++ b) i = gt b (i - a.length)
  | [], _, _, _ => by simp
  | _ :: _, _, 0, h => by simp at h
  | _ :: r, b, i + 1, h => by
    have := gt_append_ge (a := r) (b := b) (i := i) (by simpa using h)
    simpa [gt] using this
theorem gt_replicate : ∀ {n i : Nat}, gt (List.replicate n none) i = none
  | 0, _ => rfl
  | _ + 1, 0 => rfl
  | n + 1, i + 1 => gt_replicate (n := n) (i := i)
theorem gt_map : ∀ {ds : List D} {i : Nat}, gt (ds.map fun d => some (.v d)) i = (ds[i]?).map SV.v
  | [], _ => rfl
  | _ :: _, 0 => rfl
  | _ :: r, i + 1 => by simpa [gt] using gt_map (ds := r) (i := i)
theorem rel_start {K : PySem.W.Frag} {F H : Hp} {N : List Str} {vs : List V} {ds : List D} (sb : Same F H) (h : DvA K F vs ds) : Rel K H F (startE N.length ds) (L2.start N vs) F H where
  base := Same.refl H
  sub := sb
  frz := Fz.refl H F
  len := by
    unfold startE L2.start
    rw [List.length_append, List.length_append, List.length_map, List.length_map, List.length_replicate, List.length_replicate, DvA.length h]
  slot := fun i s e => by
    unfold startE at e
    unfold L2.start
    by_cases hi : i < ds.length
    · rw [gt_append_lt (by simpa using hi), gt_map] at e
      obtain ⟨d, h1, h2⟩ := Option.map_eq_some_iff.mp e
      subst h2
      obtain ⟨v, h3, h4⟩ := DvA.get h h1
      refine ⟨v, ?_, h4⟩
      rw [List.getElem?_append_left (by rw [List.length_map, DvA.length h]; exact hi), List.getElem?_map, h3]; rfl
    · rw [gt_append_ge (by simp; omega), gt_replicate] at e; cases e
  apart := fun i j x es fs e _ so => by
    unfold startE at e
    by_cases hi : i < ds.length
    · rw [gt_append_lt (by simpa using hi), gt_map] at e
      obtain ⟨d, h1, h2⟩ := Option.map_eq_some_iff.mp e
      cases h2
      cases so
    · rw [gt_append_ge (by simp; omega), gt_replicate] at e; cases e

/-- a def of the top as it stands behind it -/
structure FnS (K : PySem.W.Frag) (mg : Str → Option Value) (x : Str) (s : Stmt) : Prop where
  ex : ∃ f fd, mg x = some (.ref f) ∧ FunD K x x (defArgs s) (defBody s) (defScope s) [] [] f fd
/-- .. and what it makes of its arguments -/
structure FnG (P : Program) (w : World) (K : PySem.W.Frag) (mg : Str → Option Value) (base : Heap) (k : Nat) (x : Str) (ps : List Str) (Fg : List D → Option D) : Prop where
  ex : ∃ f fd, mg x = some (.ref f) ∧ PySem.W.keepIn K (.ref f) = true ∧ Binds K fd ps [] ∧ FnOk P w K mg base CX0 k f fd ps (spD K ps.length Fg)
  len : ∀ ds d, Fg ds = some d → ds.length = ps.length
section
variable {P : Program} {w : World} {K : PySem.W.Frag} {mg : Str → Option Value} {base : Heap}
theorem fng_at {x : Str} {s : Stmt} {N ps : List Str} {k : Nat} {den : Ev → Option Out} {f : Addr} {fd : FuncData} (F : FunD K x x (defArgs s) (defBody s) (defScope s) [] [] f fd) (S : FnScope N ps (defScope s))
    (body : ∀ (cdv : Value) (A : Around) (outer : List Env) (s0 : Shared) (H : Hp) (E : XK), Room k (A.deeper (envOfC x (defScope s) s0.heap.objs.size f cdv)) →
      PVSs (cxOf CX0 P w K mg base N x (defScope s) f cdv A outer s0 H E).nox (defBody s) den) : FnOk P w K mg base CX0 (k + 1) f fd ps (spD K ps.length (runD N.length ps.length den)) := by
  refine F.ok S (fun vs H Q E h => h.1) fun cdv A outer s0 H vs Q E hr h => ⟨rdS K den, (body cdv A outer s0 H E hr).nox, ?_⟩
  obtain ⟨hl, F0, ds, d, sb, hv, ed, k⟩ := h
  unfold runD at ed
  split at ed
  · obtain ⟨o, h1, ed⟩ := Option.bind_eq_some_iff.mp ed
    refine ⟨H, F0, startE N.length ds, F0, o, rel_start sb hv, h1, ?_⟩
    cases o with
    | rt d' =>
      have e : d' = d := Option.some.inj ed
      subst e
      exact fun x F' H' a b c hd => k x F' H' ⟨a, b, c⟩ hd
    | nx e =>
      have e : PyData.none = d := Option.some.inj ed
      subst e
      exact fun σ' F' H' r q => k _ F' H' ⟨r.base, r.frz, r.sub⟩ .non
    | bk e => cases ed
    | ct e => cases ed
  · cases ed
theorem fng {x : Str} {s : Stmt} {N ps : List Str} {k m : Nat} {den : Ev → Option Out} (F0 : FnS K mg x s) (S : FnScope N ps (defScope s))
    (hb : ∀ f fd, FunD K x x (defArgs s) (defBody s) (defScope s) [] [] f fd → Binds K fd ps []) (hm : m = ps.length)
    (body : ∀ (f : Addr) (cdv : Value) (A : Around) (outer : List Env) (s0 : Shared) (H : Hp) (E : XK), Room k (A.deeper (envOfC x (defScope s) s0.heap.objs.size f cdv)) →
      PVSs (cxOf CX0 P w K mg base N x (defScope s) f cdv A outer s0 H E).nox (defBody s) den) : FnG P w K mg base (k + 1) x ps (runD N.length m den) := by
  subst hm
  obtain ⟨f, fd, hmg, F⟩ := F0.ex
  exact ⟨⟨f, fd, hmg, F.kp, hb f fd F, fng_at F S (body f)⟩, fun ds d h => runD_len h⟩
/-- a def that was not come to (for recursions) -/
theorem fng_none {x : Str} {s : Stmt} {ps : List Str} (F0 : FnS K mg x s) (hb : ∀ f fd, FunD K x x (defArgs s) (defBody s) (defScope s) [] [] f fd → Binds K fd ps []) (k : Nat) : FnG P w K mg base k x ps (fun _ => none) := by
  obtain ⟨f, fd, hmg, F⟩ := F0.ex
  refine ⟨⟨f, fd, hmg, F.kp, hb f fd F, ⟨fun vs H Q E h => h.1, fun A outer s H args us vs Q E hr e0 hbt r hsp => ?_⟩⟩, fun ds d h => by cases h⟩
  obtain ⟨_, _, _, _, _, _, h, _⟩ := hsp
  cases h
theorem FnG.mono {x : Str} {ps : List Str} {Fg : List D → Option D} {j k : Nat} (G : FnG P w K mg base j x ps Fg) (h : j ≤ k) : FnG P w K mg base k x ps Fg := by
  obtain ⟨f, fd, a, b, c, d⟩ := G.ex
  exact ⟨⟨f, fd, a, b, c, d.mono h⟩, G.len⟩
end
section
variable {X : Cx} {k j : Nat} {x : Str} {ps : List Str} {Fg : List D → Option D} {e : Expr} {es : List Expr} {dr : Ev → Option (List D)} {p pos : Pos}
theorem vcl (G : FnG X.prog X.w X.K X.mg X.base k x ps Fg) (hr : Room j X.A) (ha : PVA X (e :: es) dr) (hkj : k ≤ j := by decide) (hg : Gl X x := by rfl) (hdb : (x == ("__debug__" : Str)) = false := by decide)
    (he : starEach (e :: es) X.env = (false, eval e X.env) :: starEach es X.env := by rfl) (hpl : (backTo pos (starEach es X.env)).any (·.1) = false := by rfl) : PVE X (.Call (.Name x p) (e :: es) [] pos) (eA Fg dr) := by
  obtain ⟨f, fd, hmg, hk, hb, F⟩ := G.ex
  refine PE.imp (pe_call (E := E0) F (hr.mono hkj) hg hmg hk hb .nil pass0 ha hdb he hpl) fun σ H Q ⟨H0, F0, env, F, z, rl, ed, k⟩ => ?_
  obtain ⟨ds, h1, ed⟩ := Option.bind_eq_some_iff.mp ed
  refine ⟨H0, F0, env, F, ds, rl, h1, fun xs F1 H1 g1 hd => ?_⟩
  show spD _ _ _ (xs ++ []) _ _ _
  rw [List.append_nil]
  exact ⟨(DvA.length hd).trans (G.len ds z ed), F1, ds, z, g1.sub, hd, ed, fun y F' H' g' hv => k y F' H' (g1.trans g') hv⟩
theorem vcl0 (G : FnG X.prog X.w X.K X.mg X.base k x ps Fg) (hr : Room j X.A) (hkj : k ≤ j := by decide) (hg : Gl X x := by rfl) (hdb : (x == ("__debug__" : Str)) = false := by decide) : PVE X (.Call (.Name x p) [] [] pos) (eA Fg aNil) := by
  obtain ⟨f, fd, hmg, hk, hb, F⟩ := G.ex
  refine PE.imp (pe_call0 (E := E0) F (hr.mono hkj) hg hmg hk hb .nil pass0 hdb) fun σ H Q ⟨H0, F0, env, F, z, rl, ed, k⟩ => ?_
  obtain ⟨ds, h1, ed⟩ := Option.bind_eq_some_iff.mp ed
  cases h1
  exact ⟨(G.len [] z ed), F, [], z, rl.sub, .nil, ed, fun y F' H' g' hv => k y F' H' g' hv⟩
end
/-- the built-in names that the program leaves as they are -/
structure Std (mg : Str → Option Value) : Prop where
  «len» : mg "len" = none
  «range» : mg "range" = none
  «tuple» : mg "tuple" = none
  «list» : mg "list" = none
  «sum» : mg "sum" = none
  «int» : mg "int" = none
  «isinstance» : mg "isinstance" = none
  «all» : mg "all" = none
  «any» : mg "any" = none
  «abs» : mg "abs" = none
  «min» : mg "min" = none
  «max» : mg "max" = none
  «sorted» : mg "sorted" = none
  «set» : mg "set" = none
  «enumerate» : mg "enumerate" = none
  «zip» : mg "zip" = none
  «dict» : mg "dict" = none
  «reversed» : mg "reversed" = none
  «str» : mg "str" = none
  «bool» : mg "bool" = none
theorem bb_len : bootBuiltins "len" = some (.builtin "len") := by decide +kernel
theorem bb_range : bootBuiltins "range" = some (.type "range") := by decide +kernel
theorem bb_tuple : bootBuiltins "tuple" = some (.type "tuple") := by decide +kernel
theorem bb_list : bootBuiltins "list" = some (.type "list") := by decide +kernel
theorem bb_sum : bootBuiltins "sum" = some (.builtin "sum") := by decide +kernel
theorem bb_int : bootBuiltins "int" = some (.type "int") := by decide +kernel
theorem bb_isinstance : bootBuiltins "isinstance" = some (.builtin "isinstance") := by decide +kernel
theorem bb_all : bootBuiltins "all" = some (.builtin "all") := by decide +kernel
theorem bb_any : bootBuiltins "any" = some (.builtin "any") := by decide +kernel
theorem bb_abs : bootBuiltins "abs" = some (.builtin "abs") := by decide +kernel
theorem bb_min : bootBuiltins "min" = some (.builtin "min") := by decide +kernel
theorem bb_max : bootBuiltins "max" = some (.builtin "max") := by decide +kernel
theorem bb_sorted : bootBuiltins "sorted" = some (.builtin "sorted") := by decide +kernel
theorem bb_set : bootBuiltins "set" = some (.type "set") := by decide +kernel
theorem bb_enumerate : bootBuiltins "enumerate" = some (.type "enumerate") := by decide +kernel
theorem bb_zip : bootBuiltins "zip" = some (.type "zip") := by decide +kernel
theorem bb_dict : bootBuiltins "dict" = some (.type "dict") := by decide +kernel
theorem bb_reversed : bootBuiltins "reversed" = some (.type "reversed") := by decide +kernel
theorem bb_str : bootBuiltins "str" = some (.type "str") := by decide +kernel
theorem bb_bool : bootBuiltins "bool" = some (.type "bool") := by decide +kernel
/-- the law's end -/
theorem law_end {l : PySem.W.OpenLaw} {w : World} {K : PySem.W.Frag} {mg : Str → Option Value} {h : Heap} {fa : Addr} {n k : Nat} {N : List Str} {den : Ev → Option Out} {s : Stmt} (KX : K.In h) (hmg : mg ("law" : Str) = some (.ref fa))
    (F0 : FnS K mg ("law" : Str) s) (S : FnScope N ["script"] (defScope s))
    (body : ∀ base : Heap, K.In base → base.Ns mainGlobals mg → ∀ (f : Addr) (cdv : Value) (A : Around) (outer : List Env) (s0 : Shared) (H : Hp) (E : XK), Room k (A.deeper (envOfC ("law" : Str) (defScope s) s0.heap.objs.size f cdv)) →
      PVSs (cxOf CX0 l.prog w K mg base N ("law" : Str) (defScope s) f cdv A outer s0 H E).nox (defBody s) den)
    (hb : ∀ f fd, FunD K ("law" : Str) ("law" : Str) (defArgs s) (defBody s) (defScope s) [] [] f fd → ∀ (s0 : Shared) (u : Value), BindsTo s0 fd ⟨[u], []⟩ [("script", u)])
    (hl : ∀ ns : List Int, ns.length ≤ n → runD N.length 1 den [scrD ns] = some (.bool true)) :
    ∃ (K : PySem.W.Frag) (fd : FuncData) (sp : Sp), K.In h ∧ (∀ (s : Shared) (u : Value), BindsTo s fd ⟨[u], []⟩ [("script", u)]) ∧
        (∀ (H : Hp) (a : Addr) (ns : List Int), ns.length ≤ n → Only H → SqL K H a (ns.map V.int) → sp [.ref a] H (fun v _ => v = .bl true) fun _ _ _ => False) ∧
        ∀ base : Heap, K.In base → base.Ns mainGlobals mg → FnOk l.prog w K mg base CX0 (k + 1) fa fd ["script"] sp := by
  obtain ⟨f, fd, h1, F⟩ := F0.ex
  rw [hmg] at h1; cases h1
  refine ⟨K, fd, spD K 1 (runD N.length 1 den), KX, hb _ _ F, fun H a ns hn hO hS => ⟨rfl, H, [scrD ns], .bool true, Same.refl H, .cons (.scr rfl hS) .nil, hl ns hn, fun x F' H' g hd => ?_⟩, fun base k1 k2 => fng_at F S (body base k1 k2 _)⟩
  cases hd; rfl
end PV
end

section
set_option maxRecDepth 100000
set_option maxHeartbeats 4000000
namespace PV
open PySem PySem.Spec PyProof.Rows L2
theorem tuple_mul_same (l : Addr) (items : Array Value) (n : Nat) (dd : Option Addr) (sl : Array (Option Value)) (x : Int) (u : Tok) (c0 : (decide (x < -(2 ^ 63)) || decide (x ≥ 2 ^ 63)) = false) (c1 : (items.isEmpty || x == 1) = true) :
    Meets (Builtin.«tuple.__mul__» ⟨[.ref l, .int x u], []⟩) (fun _ R s => s.heap.get? l = some { cls := .type "tuple", dict := dd, data := .seq items n, slots := sl } ∧ R (.ok (.ret (Value.ref l))) s) :=
  .of_wp fun prog w A R s h => by
    obtain ⟨hp, g, d, tk, os⟩ := s
    obtain ⟨hl, h⟩ := h
    have f1 := AutoSeq1.idx_int
    wp_walk using wpAny_loadPart' hl
    repeat (first
      | (refine wpAny_ite_false (decide_eq_false (by rw [c0]; exact Bool.false_ne_true)) ?_; wp_walk using wpAny_loadPart' hl)
      | (refine wpAny_ite_true (decide_eq_true c1) ?_; wp_walk using wpAny_loadPart' hl))
    exact ⟨_, rfl, h⟩
theorem tuple_mul_none (l : Addr) (items : Array Value) (n : Nat) (dd : Option Addr) (sl : Array (Option Value)) (x : Int) (u : Tok) (c0 : (decide (x < -(2 ^ 63)) || decide (x ≥ 2 ^ 63)) = false) (c1 : (items.isEmpty || x == 1) = false) (c2 : (decide (x ≤ 0) || items.isEmpty) = true) :
    Meets (Builtin.«tuple.__mul__» ⟨[.ref l, .int x u], []⟩) (fun _ R s => s.heap.get? l = some { cls := .type "tuple", dict := dd, data := .seq items n, slots := sl } ∧
      R (.ok (.ret (Value.ref s.heap.objs.size))) { s with heap := s.heap.push { cls := Value.type "tuple", data := Data.seq #[] }, toks := s.toks }) :=
  .of_wp fun prog w A R s h => by
    obtain ⟨hp, g, d, tk, os⟩ := s
    obtain ⟨hl, h⟩ := h
    have f1 := AutoSeq1.idx_int
    wp_walk using wpAny_loadPart' hl
    repeat (first
      | (refine wpAny_ite_false (decide_eq_false (by rw [c0]; exact Bool.false_ne_true)) ?_; wp_walk using wpAny_loadPart' hl)
      | (refine wpAny_ite_false (decide_eq_false (by rw [c1]; exact Bool.false_ne_true)) ?_; wp_walk using wpAny_loadPart' hl)
      | (refine wpAny_ite_true (decide_eq_true c2) ?_; wp_walk using wpAny_loadPart' hl))
    exact ⟨_, rfl, h⟩
end PV
end

section
set_option maxRecDepth 100000
set_option maxHeartbeats 4000000
namespace PV
open PySem PySem.Spec PyProof.Rows L2
/-! ### products -/
def mulD : D → D → Option D
  | .int i, .int j => if mulOk i j then some (.int (i * j)) else none
  | .tuple ds, .int k => if -4611686018427387904 ≤ k ∧ k ≤ 1000 ∧ ds.length ≤ 1000 then some (.tuple (List.replicate k.toNat ds).flatten) else none
  | .list ds, .int k => if -4611686018427387904 ≤ k ∧ k ≤ 1000 ∧ ds.length ≤ 1000 then some (.list (List.replicate k.toNat ds).flatten) else none
  | _, _ => none
def repLD : D → D → Option (List D)
  | .list ds, .int k => if -4611686018427387904 ≤ k ∧ k ≤ 1000 ∧ ds.length ≤ 1000 then some (List.replicate k.toNat ds).flatten else none
  | _, _ => none
theorem rep_line {k : Int} {n : Nat} (h2 : k ≤ 1000) (h3 : n ≤ 1000) : n * k.toNat ≤ sizeLine := by
  rw [sizeLine_eq]
  have : n * k.toNat ≤ 1000 * 1000 := Nat.mul_le_mul h3 (by omega)
  omega
section
variable {X : Cx}
theorem tup_rep {pins : List (Addr × Obj)} {s : Shared} {σ : L2.St} {H F : Hp} {a : Addr} {vs : List V} {ds : List D} {k : Int} {t : Tok} {Q : VK} (I : Inv X pins σ H s) (sb : Same F H) (fa : F a = some (.tup vs)) (va : DvA X.K F vs ds)
    (h1 : -4611686018427387904 ≤ k) (h2 : k ≤ 1000) (h3 : ds.length ≤ 1000) (q : ∀ w F' H', Grow F H F' H' → Dv X.K F' w (.tuple (List.replicate k.toNat ds).flatten) → Q w H') :
    wpAny (model X.prog X.w) X.A (binaryOp .Mult (.ref a) (.int k t)) (EP X pins σ Q) X.xe s := by
  have hl := DvA.length va
  by_cases c1 : vs = [] ∨ k = 1
  · -- the tuple itself
    obtain ⟨its, r, ⟨⟨cls, dd, data, sl⟩, ho, hc, n, hd⟩, hs⟩ := I.tuple (SqT.of (sb _ _ fa))
    simp only at hc hd
    subst hc hd
    have e : (List.replicate k.toNat ds).flatten = ds := by
      rcases c1 with c1 | c1
      · have : ds = [] := (DvA.nil_iff va).mp c1
        subst this
        simp
      · subst c1; simp
    rw [e] at q
    have c0 : (decide (k < -(2 ^ 63)) || decide (k ≥ 2 ^ 63)) = false := by
      rw [decide_eq_false (by omega), decide_eq_false (by omega)] <;> rfl
    have c2 : (its.toArray.isEmpty || k == 1) = true := by
      rcases c1 with c1 | c1
      · subst c1; cases r; rfl
      · subst c1; simp
    refine wpAny_binaryOp_repeat_ref (T := "tuple") (U := "int") (by decide) ⟨_, ho, rfl⟩ (fun s' => typeIs_int s' k t) noFill_tuple_mul PySem.F.fills_int_mul PySem.F.slot_int_rmul repeat_tuple PySem.F.slot_int_index.lookup
      (call_meets PySem.F.slot_int_rmul (typeIs_int s k t) PySem.F.entry_int_rmul (PySem.F.args_int_rmul_2 _ _) (int_rmul_tuple k t a its.toArray n dd sl)
        ⟨ho, rfl, ⟨_, ho, rfl⟩, call_meets PySem.F.slot_tuple_mul ⟨_, ho, rfl⟩ PySem.F.entry_tuple_mul (PySem.F.args_tuple_mul_2 _ _) (tuple_mul_same a its.toArray n dd sl k t c0 c2) ⟨ho, ?_⟩⟩)
    exact ⟨.ref a, H, I, rfl, q _ F H (Grow.refl sb) (.tup fa va)⟩
  · simp only [not_or] at c1
    by_cases c3 : k ≤ 0
    · obtain ⟨its, r, ⟨⟨cls, dd, data, sl⟩, ho, hc, n, hd⟩, hs⟩ := I.tuple (SqT.of (sb _ _ fa))
      simp only at hc hd
      subst hc hd
      have e : (List.replicate k.toNat ds).flatten = [] := by rw [show k.toNat = 0 by omega]; rfl
      rw [e] at q
      have c0 : (decide (k < -(2 ^ 63)) || decide (k ≥ 2 ^ 63)) = false := by
        rw [decide_eq_false (by omega), decide_eq_false (by omega)] <;> rfl
      have hi : its.toArray.isEmpty = false := by
        cases its with
        | nil => cases r; exact absurd rfl c1.1
        | cons x y => rfl
      have c2 : (its.toArray.isEmpty || k == 1) = false := by
        rw [hi, Bool.false_or]; exact beq_eq_false_iff_ne.mpr c1.2
      have c4 : (decide (k ≤ 0) || its.toArray.isEmpty) = true := by rw [decide_eq_true c3]; rfl
      refine wpAny_binaryOp_repeat_ref (T := "tuple") (U := "int") (by decide) ⟨_, ho, rfl⟩ (fun s' => typeIs_int s' k t) noFill_tuple_mul PySem.F.fills_int_mul PySem.F.slot_int_rmul repeat_tuple PySem.F.slot_int_index.lookup
        (call_meets PySem.F.slot_int_rmul (typeIs_int s k t) PySem.F.entry_int_rmul (PySem.F.args_int_rmul_2 _ _) (int_rmul_tuple k t a its.toArray n dd sl)
          ⟨ho, rfl, ⟨_, ho, rfl⟩, call_meets PySem.F.slot_tuple_mul ⟨_, ho, rfl⟩ PySem.F.entry_tuple_mul (PySem.F.args_tuple_mul_2 _ _) (tuple_mul_none a its.toArray n dd sl k t c0 c2 c4) ⟨ho, ?_⟩⟩)
      have hf := I.fresh
      refine ⟨.ref s.heap.objs.size, _, I.laid (t' := s.toks) (o := .tup []) (fun b ob q => Heap.get?_push_of_some _ q) (Nat.le_refl _) ?_, rfl, q _ _ _ (Grow.new sb hf) (Dv.newTup (fnone sb hf) .nil)⟩
      exact ⟨Nat.zero_le _, [], .nil, IsTup.new _ _⟩
    · refine op_repT pins s σ H (.ref a) (.int k) _ _ Q I rfl ⟨t, rfl⟩ ⟨a, k, vs, rfl, rfl, SqT.of (sb _ _ fa), c1.1, by omega, h2, by omega, fun p hp => ?_⟩
      exact q _ _ _ (Grow.new sb hp) (Dv.newTup (fnone sb hp) (DvA.rep va k.toNat))
theorem o_mul : OpR X (binaryOp .Mult) (rOf X.K mulD) := by
  intro pins s σ H x y v u Q I rx ry ⟨F, d, e, z, sb, b1, b2, hq, k⟩
  unfold mulD at hq; split at hq
  · obtain ⟨hc, rfl⟩ := ite_some hq
    unfold mulOk at hc
    refine op_mul pins s σ H x y v u Q I rx ry ⟨_, _, b1.int, b2.int, ?_, k _ F H (Grow.refl sb) (.int _)⟩
    rcases Bool.or_eq_true_iff.mp hc with h | h
    · have := of_decide_eq_true h; exact .inl (by omega)
    · have := of_decide_eq_true h; exact .inr (by omega)
  · obtain ⟨⟨h1, h2, h3⟩, rfl⟩ := ite_some hq
    obtain ⟨a, vs, rfl, ha, fa, va⟩ := b1.tup sb
    cases rx
    obtain rfl := b2.int
    obtain ⟨t, rfl⟩ := ry
    exact tup_rep I sb fa va h1 h2 h3 k
  · obtain ⟨⟨h1, h2, h3⟩, rfl⟩ := ite_some hq
    obtain ⟨a, vs, rfl, ha, va⟩ := b1.lst sb
    refine op_rep pins s σ H _ y v u Q I rx ry ⟨a, _, vs, rfl, b2.int, ha, by omega, by omega, ?_, fun p hp => k _ _ _ (Grow.new sb hp) (Dv.newLst (fnone sb hp) (DvA.rep va _))⟩
    rw [DvA.length va]; exact rep_line h2 h3
  · cases hq
theorem on_rep : OpR X (binaryOp .Mult) (rnOf X.K repLD) := by
  intro pins s σ H x y v u Q I rx ry ⟨F, d, e, z, sb, b1, b2, hq, k⟩
  unfold repLD at hq; split at hq
  · obtain ⟨⟨h1, h2, h3⟩, rfl⟩ := ite_some hq
    obtain ⟨a, vs, rfl, ha, va⟩ := b1.lst sb
    refine op_rep pins s σ H _ y v u Q I rx ry ⟨a, _, vs, rfl, b2.int, ha, by omega, by omega, ?_, fun p hp => k _ _ _ _ (Grow.made sb hp) hp upd_same (fnone sb hp) (DvA.rep va _)⟩
    rw [DvA.length va]; exact rep_line h2 h3
  · cases hq
end
def iaddD : D → D → Option D
  | .int i, .int j => some (.int (i + j))
  | _, _ => none
theorem o_iadd' {X : Cx} : OpR X (inplaceOp .Add) (rOf X.K iaddD) := op_ints0 (r := fun _ _ _ _ => True) iop_add fun d e z h => by
  unfold iaddD at h; split at h <;> cases h
  exact ⟨_, _, rfl, rfl, .int _⟩

/-! ### enumerate of a tuple -/
theorem meets_enumerate_newT (l : Addr) (items : Array Value) (n : Nat) (dct : Option Addr) (sl : Array (Option Value)) :
    Meets (Builtin.«enumerate.__new__» ⟨[.type "enumerate", .ref l], []⟩) (fun _ R s => s.heap.get? l = some { cls := .type "tuple", dict := dct, data := .seq items n, slots := sl } ∧
      R (.ok (.ret (.ref (s.heap.push { cls := .type "tuple_iterator", data := .fields #[.ref l, .int 0 0] }).objs.size)))
        { s with heap := (s.heap.push { cls := .type "tuple_iterator", data := .fields #[.ref l, .int 0 0] }).push { cls := .type "enumerate", data := .fields #[.none, .bool false, .ref s.heap.objs.size, rawInt 0, .none, .none] } }) :=
  .of_wp fun prog w A R s h => by
    obtain ⟨hp, g, d, tk, os⟩ := s; obtain ⟨hl, h⟩ := h
    have hsub := sub_enumerate
    have hL : Heap.IsTuple (Shared.heap ⟨hp, g, d, tk, os⟩) l items := ⟨_, hl, rfl, n, rfl⟩
    wp_walk using AutoSeq1.wpAny_loadPart' hl
    refine wpAny_stack_any fun st => wpAny_pure ?_
    split
    · rename_i c _ _ _ _ _
      cases (c == Value.type "enumerate")
      · wp_walk using AutoSeq1.wpAny_loadPart' hl, wpAny_pyIter_tuple hL
        exact ⟨_, rfl, h⟩
      · wp_walk using AutoSeq1.wpAny_loadPart' hl, wpAny_pyIter_tuple hL
        exact ⟨_, rfl, h⟩
    · wp_walk using AutoSeq1.wpAny_loadPart' hl, wpAny_pyIter_tuple hL
      exact ⟨_, rfl, h⟩
theorem call_enumerate_tuple {prog : Program} {w : World} {A : Around} {E : Value → Shared → Prop} {s : Shared} {l : Addr} {items : Array Value} {Q : Value → Shared → Prop} (hL : s.heap.IsTuple l items)
    (h : ∀ h', IsEnum h' (s.heap.objs.size + 1) s.heap.objs.size 0 .none → h'.IsTupleIter s.heap.objs.size l 0 → h'.objs.size = s.heap.objs.size + 2 →
      (∀ b o, s.heap.get? b = some o → h'.get? b = some o) → Q (.ref (s.heap.objs.size + 1)) { s with heap := h' }) :
    wpAny (model prog w) A (call (.type "enumerate") [.ref l]) Q E s := by
  obtain ⟨⟨c, dct, dt, sl⟩, hl, hc, n, hd⟩ := hL
  replace hc : c = .type "tuple" := hc
  replace hd : dt = .seq items n := hd
  subst hc hd
  refine callType_new F.called_enumerate (by decide) (F.typeCall_enumerate_1 _) (F.newCall_enumerate_1 _) (fun obj => F.args_object_init_2 obj _) F.entry_enumerate_new
    (meets_enumerate_newT l items n dct sl) ⟨hl, ?_⟩
  have hz : (s.heap.push { cls := .type "tuple_iterator", data := .fields #[.ref l, .int 0 0] }).objs.size = s.heap.objs.size + 1 := Heap.size_push ..
  show _ ∧ _
  rw [hz]
  have he : IsEnum ((s.heap.push { cls := .type "tuple_iterator", data := .fields #[.ref l, .int 0 0] }).push
      { cls := .type "enumerate", data := .fields #[.none, .bool false, .ref s.heap.objs.size, rawInt 0, .none, .none] }) (s.heap.objs.size + 1) s.heap.objs.size 0 .none := by
    have := Heap.get?_push_size (s.heap.push { cls := .type "tuple_iterator", data := .fields #[.ref l, .int 0 0] })
      (o := { cls := .type "enumerate", data := .fields #[.none, .bool false, .ref s.heap.objs.size, rawInt 0, .none, .none] }) rfl
    rw [hz] at this; exact this
  refine ⟨⟨_, he, rfl⟩, h _ he ⟨_, Heap.get?_push_of_some _ (Heap.get?_push_size _ rfl), rfl, rfl⟩ (by rw [Heap.size_push, hz]) fun b o x => Heap.get?_push_of_some _ (Heap.get?_push_of_some _ x)⟩
theorem wpAny_pyNext_enum_endT {prog : Program} {w : World} {A : Around} {E : Value → Shared → Prop} {s : Shared} {e it l : Addr} {i : Nat} {items : Array Value} {old : Value} {Q : Option Value → Shared → Prop} (hh : A.handled = none)
    (he : IsEnum s.heap e it i old) (hit : s.heap.IsTupleIter it l i) (hl : s.heap.IsTuple l items) (hx : items[i]? = none)
    (hQ : ∀ h', Heap.ExtBut it s.heap h' → Q none { s with heap := h' }) : wpAny (model prog w) A (pyNext (.ref e)) Q E s := by
  have hT : s.TypeIs (.ref e) "enumerate" := ⟨_, he, rfl⟩
  unfold pyNext
  refine wpAny_bind (wpAny_attempt (wpAny_callSpecial?_slot (name := Str.ofString "__next__") hT PySem.F.slot_enumerate_next
    (wpAny_call_entry PySem.F.slot_enumerate_next hT PySem.F.entry_enumerate_next ?_ (PySem.F.args_enumerate_next_1 _))))
  show wpAny _ _ (field (.ref e) 2 >>= _) _ _ _
  refine wpAny_bind (wpAny_field he rfl (x := .ref it) rfl ?_)
  refine wpAny_bind (wpAny_nextOf_tuple_end hh hit hl hx fun h' x he' hx' => ?_)
  obtain ⟨o, ho, hc⟩ := hx'
  refine wpAny_bind (wpAny_isInstance (T := "StopIteration") (b := true) ⟨o, ho, hc⟩ isSubtype_stop ?_)
  exact wpAny_pure (hQ _ he')
/-- the tuple at a, each item in a new pair -/
def IteT (K : PySem.W.Frag) (a : Addr) : It :=
  ⟨fun i H => ∃ (xs : List V) (x : V), SqT K H a xs ∧ xs[i]? = some x, fun i H v H' => ∃ T x, v = .ref T ∧ H T = none ∧ H' = upd H T (.tup [.int (i : Nat), x]) ∧ ∀ xs, SqT K H a xs → xs[i]? = some x, fun i H => ∃ xs : List V, SqT K H a xs ∧ xs.length ≤ i⟩
theorem turn_enumT {P : Program} {w : World} {K : PySem.W.Frag} {elts : List Expr} {kk : Nat} {tpos : Pos} (a e it : Addr) :
    Turn P w K (.Tuple elts kk tpos) (IteT K a) [e, it] e (fun i h => (∃ old, IsEnum h e it ((i : Nat) : Int) old) ∧ h.IsTupleIter it a i ∧ e ≠ it ∧ a ≠ it ∧ a ≠ e) where
  mem := by simp
  obj := fun i h st b hb => by
    obtain ⟨⟨old, he⟩, ⟨o, ho, hc, hd⟩, _⟩ := st
    have e' : b = e ∨ b = it := by simpa using hb
    rcases e' with z | z
    · rw [z]; exact ⟨_, he, fun v q => nomatch q⟩
    · rw [z]; exact ⟨o, ho, fun v q => by rw [hd] at q; cases q⟩
  keep := fun i h h' st k => let ⟨⟨old, he⟩, hi, hne⟩ := st; ⟨⟨old, k e (by simp) _ he⟩, hi.at fun o q => k it (by simp) o q, hne⟩
  item := by
    intro X hP hw hK hc i pins s σ H E I hf st hg
    subst hP hw hK
    obtain ⟨⟨old, he⟩, hit, hne, hai, hae⟩ := st
    obtain ⟨xs, x, hq, hx⟩ := hg
    obtain ⟨its, rv, p, hz⟩ := I.tuple hq
    obtain ⟨u, hu, ru⟩ := rv.get hx
    have hel : e < s.heap.objs.size := Heap.lt_size he
    have hil : it < s.heap.objs.size := by obtain ⟨_, q, _⟩ := hit; exact Heap.lt_size q
    have hi : i < its.toArray.size := by simpa using (List.getElem?_eq_some_iff.mp hu).1
    refine wpAny_pyNext_enum_itemD (Draws.tuple (prog := X.prog) (w := X.w) (A := X.A.in1) (show X.A.in1.handled = none from I.ok.hd hc) it a hai its.toArray) he ⟨hit, p⟩ hi hne (by simp only [List.mem_cons, List.not_mem_nil, or_false, not_or]; exact ⟨hne, fun z => hae z.symm⟩) fun x' h' tk hx' ho hit' hT hsz hk => ?_
    have ex : x' = u := by
      rw [show its.toArray[i]? = its[i]? by simp] at hx'
      rw [hu] at hx'; exact (Option.some.inj hx').symm
    subst ex
    refine ⟨_, rfl, wpAny_letOwnedTupleGo_enum (s := { s with heap := h', toks := tk + 1 }) ho fun h'' he' sb => ?_⟩
    have hT2 : h''.get? s.heap.objs.size = some { cls := .type "tuple", data := .seq #[.int i tk, x'] } := (sb.2 _ (Nat.ne_of_gt hel)).trans hT
    have new : ObjOk X.prog X.w (upd H s.heap.objs.size (.tup [.int (i : Nat), x])) h'' s.heap.objs.size (.tup [.int (i : Nat), x]) :=
      ⟨by show 2 ≤ sizeLine; decide, [.int i tk, x'], .cons ⟨_, rfl⟩ (.cons ru .nil), ⟨_, hT2, rfl, _, rfl⟩⟩
    have I1 : Inv X pins σ (upd H s.heap.objs.size (.tup [.int (i : Nat), x])) { s with heap := h'', toks := tk + 1 } :=
      I.turnedNew (ch := [e, it]) (fun b ob hb q => (sb.2 b (fun z => hb (by simp [z]))).trans (hk b ob (fun z => hb (by simp [z])) (fun z => hb (by simp [z])) q)) hf (Nat.le_refl _) new
    refine ⟨.ref s.heap.objs.size, _, I1, rfl, ⟨_, x, rfl, I.hok.fresh (Nat.le_refl _), rfl, fun ys hy => by rw [I.tuple_inj hy hq]; exact hx⟩, ⟨⟨x', ?_⟩, hit'.1.at fun o q => (sb.2 it (Ne.symm hne)).trans q, hne, hai, hae⟩, fun b hb => ?_⟩
    · have e1 : ((i + 1 : Nat) : Int) = (i : Int) + 1 := by omega
      rw [e1]; exact he'
    · have hb' : b < s.heap.objs.size := by
        have e' : b = e ∨ b = it := by simpa using hb
        rcases e' with z | z
        · rw [z]; exact hel
        · rw [z]; exact hil
      rw [upd_ne (Nat.ne_of_lt hb')]
      exact (hf b hb).1
  done := by
    intro X hP hw hK hc i pins s σ H E I hf st hg
    subst hP hw hK
    obtain ⟨⟨old, he⟩, hit, hne, hai, hae⟩ := st
    obtain ⟨xs, hq, hx⟩ := hg
    obtain ⟨its, rv, p, hz⟩ := I.tuple hq
    obtain ⟨f0, f1, f2, f3, f4, f5⟩ := hf it (by simp)
    have hl := rv.length
    exact wpAny_pyNext_enum_endT (I.ok.hd hc) he hit p (by simp; omega) fun h' eb => ⟨rfl, I.turned (t' := s.toks) (fun b o hb q => eb b o hb q) f0 f1 f3 f4 f5⟩
  self := fun A i s Q E st h => let ⟨⟨_, he⟩, _⟩ := st; wpAny_pyIter_enum he h
def iEnumT (K : PySem.W.Frag) (ta : TA) : TI := fun σ H R => ta σ H fun vs H1 => ∃ a xs, vs = [.ref a] ∧ SqT K H1 a xs ∧ R (IteT K a) H1
theorem pi_enumT {X : Cx} {e : Expr} {ta : TA} {p pos tpos : Pos} {elts : List Expr} {kk : Nat} (hg : Gl X "enumerate") (hm : X.mg "enumerate" = none) (ha : PA X [e] ta) (hs : starEach [e] X.env = [(false, eval e X.env)] := by rfl) :
    PI X (.Tuple elts kk tpos) (.Call (.Name "enumerate" p) [e] [] pos) (iEnumT X.K ta) := by
  refine ⟨fun pins s σ H R I h => ?_⟩
  refine Call_ (ld_blt I hg hm PyProof.Rows.boot_enumerate (PyProof.Rows.callWith_type1 (thn (ha.run pos pins s σ H _ I h) fun us s1 ⟨vs, H1, I1, r1, q1⟩ => ?_) hs rfl))
  obtain ⟨a, xs, ex, hq, q⟩ := q1
  subst ex
  cases r1 with
  | cons r rr =>
    cases rr
    cases r
    obtain ⟨its, rv, p', hz⟩ := I1.tuple hq
    have hal : a < s1.heap.objs.size := by obtain ⟨o, ho, _⟩ := id p'; exact Heap.lt_size ho
    refine call_enumerate_tuple (show s1.heap.IsTuple a its.toArray from p') fun h' he hit hsz hk => wpAny_pyIter_enum he ?_
    have I2 : Inv X pins σ H1 { s1 with heap := h' } := I1.kept (t' := s1.toks) hk
    refine ⟨s1.heap.objs.size + 1, [s1.heap.objs.size + 1, s1.heap.objs.size], _, _, H1, rfl, I2, turn_enumT a (s1.heap.objs.size + 1) s1.heap.objs.size, ⟨⟨.none, he⟩, hit, Nat.succ_ne_self _, Nat.ne_of_lt hal, Nat.ne_of_lt (Nat.lt_succ_of_lt hal)⟩, fun b hb => ?_, q⟩
    have e' : b = s1.heap.objs.size + 1 ∨ b = s1.heap.objs.size := by simpa using hb
    have hle : s1.heap.objs.size ≤ b := by
      rcases e' with z | z
      · rw [z]; exact Nat.le_add_right _ _
      · rw [z]; exact Nat.le_refl _
    exact I1.fpOk hle (I1.hok.fresh hle)
theorem walk_enumT {K : PySem.W.Frag} {a : Addr} {xs : List V} : Walk (IteT K a) xs.length (fun H => SqT K H a xs) (YPair (fun i => some (.int (i : Nat))) (fun i => xs[i]?)) := by
  refine ⟨fun i _ hi q => ⟨xs, xs[i], q, by simp [hi]⟩, fun _ q => ⟨xs, q, Nat.le_refl _⟩, fun i H v H' _ q y => ?_⟩
  obtain ⟨T, x, h1, h2, h3, h4⟩ := y
  exact ⟨T, .int (i : Nat), x, h1, h2, h3, rfl, h4 xs q⟩
def enD : List D → Option (List D)
  | [.list ds] => some (enumD ds)
  | [.tuple ds] => some (enumD ds)
  | _ => none
section
variable {X : Cx} {a b : Expr} {p pos tpos : Pos} {elts : List Expr} {kk : Nat} {dr : Ev → Option (List D)}
theorem vi_enum (ha : PVA X [a] dr) (hm : X.mg "enumerate" = none) (hg : Gl X "enumerate" := by rfl) (hs : starEach [a] X.env = [(false, eval a X.env)] := by rfl) :
    PVI X (.Tuple elts kk tpos) (.Call (.Name "enumerate" p) [a] [] pos) (nA enD dr) :=
  PI.imp (PI.or (pi_enum hg hm ha hs) (pi_enumT hg hm ha hs)) fun σ H R ⟨H0, F0, env, F, ds, rl, ed, k⟩ => by
    obtain ⟨d, h1, ed⟩ := Option.bind_eq_some_iff.mp ed
    unfold enD at ed; split at ed <;> cases ed
    · refine .inl ⟨H0, F0, env, F, _, rl, h1, fun xs F1 H1 g1 hd => ?_⟩
      cases hd with
      | cons hd ht =>
        cases ht
        cases hd with
        | @lst a vs _ q1 q2 =>
          refine ⟨a, vs, rfl, SqL.of (g1.sub _ _ q1), k _ F1 H1 g1 (WalkD.of walk_enum ((DvA.length q2).trans (enumD_length _).symm) (fun F H s1 s2 => SqL.of (s2 _ _ (s1 _ _ q1))) fun i F H x H' s1 s2 hi y => ?_)⟩
          obtain ⟨T, v, u, e1, e2, e3, e4, e5⟩ := y
          cases e4
          have e5 : vs[i]? = some u := e5
          have hl := List.getElem?_eq_getElem (show i < _ by rw [← DvA.length q2]; exact hi)
          obtain ⟨u', e6, e7⟩ := DvA.get q2 hl
          rw [e6] at e5; cases e5
          obtain ⟨F', g, hv⟩ := pair_yld s2 e1 e2 e3 (.int _) (Dv.mono s1 _ _ e7)
          exact ⟨F', _, g, enumD_get hl, hv⟩
    · refine .inr ⟨H0, F0, env, F, _, rl, h1, fun xs F1 H1 g1 hd => ?_⟩
      cases hd with
      | cons hd ht =>
        cases ht
        cases hd with
        | @tup a vs _ q1 q2 =>
          refine ⟨a, vs, rfl, SqT.of (g1.sub _ _ q1), k _ F1 H1 g1 (WalkD.of walk_enumT ((DvA.length q2).trans (enumD_length _).symm) (fun F H s1 s2 => SqT.of (s2 _ _ (s1 _ _ q1))) fun i F H x H' s1 s2 hi y => ?_)⟩
          obtain ⟨T, v, u, e1, e2, e3, e4, e5⟩ := y
          cases e4
          have e5 : vs[i]? = some u := e5
          have hl := List.getElem?_eq_getElem (show i < _ by rw [← DvA.length q2]; exact hi)
          obtain ⟨u', e6, e7⟩ := DvA.get q2 hl
          rw [e6] at e5; cases e5
          obtain ⟨F', g, hv⟩ := pair_yld s2 e1 e2 e3 (.int _) (Dv.mono s1 _ _ e7)
          exact ⟨F', _, g, enumD_get hl, hv⟩
end
end PV
end

section
set_option maxRecDepth 100000
set_option maxHeartbeats 4000000
namespace PV
open PySem L2
/-! ### what the combinators make, one step each -/
section
variable {env : Ev} {i j : Nat} {d : D} {da db dc : Ev → Option D} {ta tb : Ev → Option Bool} {s1 s2 : Ev → Option Out} {g g' : D → D → Option D} {g1 : D → Option D} {dr : Ev → Option (List D)}
@[simp] theorem gt_z {a : Option SV} {r : Ev} : gt (a :: r) 0 = a := id rfl
@[simp] theorem gt_s {a : Option SV} {r : Ev} {n : Nat} : gt (a :: r) (n + 1) = gt r n := id rfl
@[simp] theorem st_z {a s : Option SV} {r : Ev} : st (a :: r) 0 s = s :: r := id rfl
@[simp] theorem st_s {a s : Option SV} {r : Ev} {n : Nat} : st (a :: r) (n + 1) s = a :: st r n s := id rfl
@[simp] theorem fgs_n : fgs env [] = env := id rfl
@[simp] theorem fgs_c {is : List Nat} : fgs env (i :: is) = st (fgs env is) i none := id rfl
theorem eVar_ap : eVar i env = match gt env i with | some (.v d) => some d | _ => none := rfl
@[simp] theorem eVar_of (h : gt env i = some (.v d)) : eVar i env = some d := by rw [eVar_ap, h]
@[simp] theorem eVar_z {r : Ev} : eVar 0 (some (.v d) :: r) = some d := id rfl
@[simp] theorem eVar_s {a : Option SV} {r : Ev} {n : Nat} : eVar (n + 1) (a :: r) = eVar n r := id rfl
@[simp] theorem bVar_zv {r : Ev} : bVar 0 (some (.v d) :: r) = some d := id rfl
@[simp] theorem bVar_zo {r : Ev} {ds : List D} : bVar 0 (some (.own ds) :: r) = some (.list ds) := id rfl
@[simp] theorem bVar_s {a : Option SV} {r : Ev} {n : Nat} : bVar (n + 1) (a :: r) = bVar n r := id rfl
theorem bVar_v (h : gt env i = some (.v d)) : bVar i env = some d := by unfold bVar; rw [h]
theorem bVar_o {ds : List D} (h : gt env i = some (.own ds)) : bVar i env = some (.list ds) := by unfold bVar; rw [h]
@[simp] theorem eC_ap : eC d env = some d := id rfl
@[simp] theorem e2_ap : e2 g da db env = (da env).bind fun x => (db env).bind fun y => g x y := id rfl
@[simp] theorem e1_ap : e1 g1 da env = (da env).bind g1 := id rfl
@[simp] theorem aNil_ap : aNil env = some [] := id rfl
@[simp] theorem aCons_ap : aCons da dr env = (da env).bind fun x => (dr env).bind fun xs => some (x :: xs) := id rfl
@[simp] theorem eTup_ap : eTup dr env = (dr env).bind tupD := id rfl
@[simp] theorem eA_ap {f : List D → Option D} : eA f dr env = (dr env).bind f := id rfl
@[simp] theorem nA_ap {f : List D → Option (List D)} : nA f dr env = (dr env).bind f := id rfl
@[simp] theorem eLst_ap {dn : Ev → Option (List D)} : eLst dn env = (dn env).map PyData.list := id rfl
@[simp] theorem nLst_ap : nLst dr env = (dr env).bind fun ds => if ds.length ≤ line then some ds else none := id rfl
@[simp] theorem n2_ap {f : D → D → Option (List D)} : n2 f da db env = (da env).bind fun x => (db env).bind fun y => f x y := id rfl
@[simp] theorem eSl_ap {f : D → Option Int → Option Int → Option D} {pl ph : Part} : eSl f da pl ph env = (da env).bind fun d => (pl env).bind fun l => (ph env).bind fun h => f d l h := id rfl
@[simp] theorem nSl_ap {f : D → Option Int → Option Int → Option (List D)} {pl ph : Part} : nSl f da pl ph env = (da env).bind fun d => (pl env).bind fun l => (ph env).bind fun h => f d l h := id rfl
@[simp] theorem pN_ap : pN env = some none := id rfl
@[simp] theorem pI_ap : pI da env = (da env).bind fun d => (isI d).map some := id rfl
@[simp] theorem isI_int {n : Int} : isI (.int n) = some n := id rfl
@[simp] theorem isB_bl {b : Bool} : isB (.bool b) = some b := id rfl
@[simp] theorem t1_ap {f : D → Option Bool} : t1 f da env = (da env).bind f := id rfl
@[simp] theorem tAn_ap : tAn ta tb env = (ta env).bind fun c => if c = true then tb env else some false := id rfl
@[simp] theorem tOr_ap : tOr' ta tb env = (ta env).bind fun c => if c = true then some true else tb env := id rfl
@[simp] theorem tNo_ap : tNo ta env = (ta env).map fun c => !c := id rfl
@[simp] theorem eAn_ap : eAn da db env = (da env).bind fun x => (truD x).bind fun c => if c = true then db env else some x := id rfl
@[simp] theorem eOr_ap : eOr da db env = (da env).bind fun x => (truD x).bind fun c => if c = true then some x else db env := id rfl
@[simp] theorem eIf_ap : eIf ta da db env = (ta env).bind fun c => if c = true then da env else db env := id rfl
@[simp] theorem eCh_ap : eCh g g' da db dc env = (da env).bind fun x => (db env).bind fun y => (g x y).bind fun z => (isB z).bind fun k => if k = true then (dc env).bind fun w => g' y w else some (.bool false) := id rfl
@[simp] theorem tTrue_ap : tTrue env = some true := id rfl
@[simp] theorem sNil_ap : sNil env = some (.nx env) := id rfl
theorem sSeq_nx {e : Ev} (h : s1 env = some (.nx e)) : sSeq s1 s2 env = s2 e := by unfold sSeq; rw [h]; rfl
theorem sSeq_rt (h : s1 env = some (.rt d)) : sSeq s1 s2 env = some (.rt d) := by unfold sSeq; rw [h]; rfl
theorem sSeq_bk {e : Ev} (h : s1 env = some (.bk e)) : sSeq s1 s2 env = some (.bk e) := by unfold sSeq; rw [h]; rfl
theorem sSeq_ct {e : Ev} (h : s1 env = some (.ct e)) : sSeq s1 s2 env = some (.ct e) := by unfold sSeq; rw [h]; rfl
@[simp] theorem sRet_ap : sRet da env = (da env).map .rt := id rfl
@[simp] theorem sIf_ap : sIf ta s1 s2 env = (ta env).bind fun c => if c = true then s1 env else s2 env := id rfl
theorem sIf_t (h : ta env = some true) : sIf ta s1 s2 env = s1 env := by rw [sIf_ap, h]; rfl
theorem sIf_f (h : ta env = some false) : sIf ta s1 s2 env = s2 env := by rw [sIf_ap, h]; rfl
@[simp] theorem sPre_ap {f : Ev → Ev} : sPre f s1 env = s1 (f env) := id rfl
@[simp] theorem xV_ap : xV da env = (da env).map .v := id rfl
@[simp] theorem xO_ap {dn : Ev → Option (List D)} : xO dn env = (dn env).map .own := id rfl
@[simp] theorem xN_t {dn : Ev → Option (List D)} : xN true dn env = (dn env).map .own := id rfl
@[simp] theorem xN_f {dn : Ev → Option (List D)} : xN false dn env = (dn env).map fun ds => .v (.list ds) := id rfl
@[simp] theorem sSet_ap {dx : Ev → Option SV} : sSet i dx env = (dx env).map fun s => .nx (st env i (some s)) := id rfl
@[simp] theorem sPar_ap {dx dy : Ev → Option SV} : sPar i j dx dy env = (dx env).bind fun s => (dy env).map fun t => .nx (st (st env i (some s)) j (some t)) := id rfl
@[simp] theorem sAsg_ap {tgt : Tgt} : sAsg tgt da env = (da env).bind fun d => (tgt d env).map .nx := id rfl
@[simp] theorem sAug_ap : sAug i g da env = (eVar i env).bind fun x => (da env).bind fun y => (g x y).map fun z => .nx (st env i (some (.v z))) := id rfl
@[simp] theorem sApp_ap : sApp i da env = (isO (gt env i)).bind fun ds => (da env).bind fun d => if ds.length < line then some (.nx (st env i (some (.own (ds ++ [d]))))) else none := id rfl
@[simp] theorem sExt_ap : sExt i da env = (isO (gt env i)).bind fun ds => (da env).bind fun d => (lstD d).bind fun es => if ds.length + es.length ≤ line then some (.nx (st env i (some (.own (ds ++ es))))) else none := id rfl
@[simp] theorem isO_o {ds : List D} : isO (some (.own ds)) = some ds := id rfl
@[simp] theorem lstD_l {ds : List D} : lstD (.list ds) = some ds := id rfl
@[simp] theorem gN_ap : gN i d env = some (st env i (some (.v d))) := id rfl
@[simp] theorem gsNil_ap : gsNil [] env = some env := id rfl
@[simp] theorem gsCons_ap {t : Tgt} {u : List D → Ev → Option Ev} {ds : List D} : gsCons t u (d :: ds) env = (t d env).bind fun e1 => u ds e1 := id rfl
@[simp] theorem gT_ap {u : List D → Ev → Option Ev} {ds : List D} : gT u (.tuple ds) env = u ds env := id rfl
@[simp] theorem gLen_ap {t : Tgt} {n : Nat} {ds : List D} : gLen n t (.tuple ds) env = if ds.length = n then t (.tuple ds) env else none := id rfl
@[simp] theorem setIx_ap {di : Ev → Option D} : setIx i di d env = (isO (gt env i)).bind fun ds => (di env).bind fun ix => (isI ix).bind fun n => (ixN ds.length n).map fun j => st env i (some (.own (ds.set j d))) := id rfl
@[simp] theorem frz_ap {ds : List D} (h : gt env i = some (.own ds)) : frz env i = st env i (some (.v (.list ds))) := by unfold frz; rw [h]
@[simp] theorem frz_z {r : Ev} {ds : List D} : frz (some (.own ds) :: r) 0 = some (.v (.list ds)) :: r := id rfl
@[simp] theorem frz_s {a : Option SV} {r : Ev} {n : Nat} : frz (a :: r) (n + 1) = a :: frz r n := by
  unfold frz; rw [gt_s]; cases gt r n with
  | none => rfl
  | some s => cases s <;> rfl
/-! values -/
variable {a b : Int} {p q : Bool} {xs ys : List D}
@[simp] theorem addD_i : addD (.int a) (.int b) = some (.int (a + b)) := id rfl
@[simp] theorem addD_t : addD (.tuple xs) (.tuple ys) = if xs.length + ys.length ≤ line then some (.tuple (xs ++ ys)) else none := id rfl
@[simp] theorem addD_l : addD (.list xs) (.list ys) = if xs.length + ys.length ≤ line then some (.list (xs ++ ys)) else none := id rfl
@[simp] theorem catLD_l : catLD (.list xs) (.list ys) = if xs.length + ys.length ≤ line then some (xs ++ ys) else none := id rfl
@[simp] theorem iaddD_i : iaddD (.int a) (.int b) = some (.int (a + b)) := id rfl
@[simp] theorem subD_i : subD (.int a) (.int b) = some (.int (a - b)) := id rfl
@[simp] theorem negD_i : negD (.int a) = some (.int (-a)) := id rfl
theorem mulD_i (h : mulOk a b = true) : mulD (.int a) (.int b) = some (.int (a * b)) := by show (if _ then _ else _) = _; rw [if_pos h]
theorem mulOk_l (h1 : -18446744073709551616 < a) (h2 : a < 18446744073709551616) : mulOk a b = true := by unfold mulOk; rw [decide_eq_true (p := a.natAbs < 18446744073709551616) (by omega)]; rfl
theorem mulOk_r (h1 : -18446744073709551616 < b) (h2 : b < 18446744073709551616) : mulOk a b = true := by unfold mulOk; rw [decide_eq_true (p := b.natAbs < 18446744073709551616) (by omega), Bool.or_true]
theorem mulD_l (h1 : -18446744073709551616 < a) (h2 : a < 18446744073709551616) : mulD (.int a) (.int b) = some (.int (a * b)) := mulD_i (mulOk_l h1 h2)
theorem mulD_r (h1 : -18446744073709551616 < b) (h2 : b < 18446744073709551616) : mulD (.int a) (.int b) = some (.int (a * b)) := mulD_i (mulOk_r h1 h2)
theorem mulD_t {k : Int} (h1 : -4611686018427387904 ≤ k) (h2 : k ≤ 1000) (h3 : xs.length ≤ 1000) : mulD (.tuple xs) (.int k) = some (.tuple (List.replicate k.toNat xs).flatten) := by
  show (if _ then _ else _) = _
  rw [if_pos ⟨h1, h2, h3⟩]
theorem mulD_li {k : Int} (h1 : -4611686018427387904 ≤ k) (h2 : k ≤ 1000) (h3 : xs.length ≤ 1000) : mulD (.list xs) (.int k) = some (.list (List.replicate k.toNat xs).flatten) := by
  show (if _ then _ else _) = _
  rw [if_pos ⟨h1, h2, h3⟩]
theorem repLD_li {k : Int} (h1 : -4611686018427387904 ≤ k) (h2 : k ≤ 1000) (h3 : xs.length ≤ 1000) : repLD (.list xs) (.int k) = some (List.replicate k.toNat xs).flatten := by
  show (if _ then _ else _) = _
  rw [if_pos ⟨h1, h2, h3⟩]
theorem fdivD_i (h1 : 0 < b) (h2 : b < 1073741824) : fdivD (.int a) (.int b) = some (.int (a / b)) := by show (if _ then _ else _) = _; rw [if_pos ⟨h1, by omega⟩]
theorem modD_i (h1 : 0 < b) : modD (.int a) (.int b) = some (.int (a % b)) := by show (if _ then _ else _) = _; rw [if_pos h1]
theorem powD_i (h : 0 ≤ b ∧ b ≤ 1000000 ∧ a.natAbs < 18446744073709551616) : powD (.int a) (.int b) = some (.int (a ^ b.toNat)) := by show (if _ then _ else _) = _; rw [if_pos ⟨h.1, by omega, h.2.2⟩]
theorem shlD_i (h : 0 ≤ b ∧ b ≤ 1000000 ∧ a.natAbs < 18446744073709551616) : shlD (.int a) (.int b) = some (.int (a * 2 ^ b.toNat)) := by show (if _ then _ else _) = _; rw [if_pos ⟨h.1, by omega, h.2.2⟩]
theorem shrD_i (h : 0 ≤ b) : shrD (.int a) (.int b) = some (.int (a / 2 ^ b.toNat)) := by show (if _ then _ else _) = _; rw [if_pos h]
@[simp] theorem ltD_i : ltD (.int a) (.int b) = some (.bool (decide (a < b))) := id rfl
@[simp] theorem leD_i : leD (.int a) (.int b) = some (.bool (decide (a ≤ b))) := id rfl
@[simp] theorem gtD_i : gtD (.int a) (.int b) = some (.bool (decide (b < a))) := id rfl
@[simp] theorem geD_i : geD (.int a) (.int b) = some (.bool (decide (b ≤ a))) := id rfl
@[simp] theorem truD_b : truD (.bool p) = some p := id rfl
@[simp] theorem truD_i : truD (.int a) = some (a != 0) := id rfl
@[simp] theorem truD_n : truD .none = some false := id rfl
@[simp] theorem truD_l : truD (.list xs) = some (!xs.isEmpty) := id rfl
@[simp] theorem truD_t : truD (.tuple xs) = some (!xs.isEmpty) := id rfl
@[simp] theorem notD_b : notD (.bool p) = some (.bool (!p)) := id rfl
@[simp] theorem isD_n : isD d .none = some (.bool (isNonD d)) := id rfl
@[simp] theorem isntD_n : isntD d .none = some (.bool (!isNonD d)) := id rfl
@[simp] theorem isD_b : isD (.bool p) (.bool q) = some (.bool (decide (p = q))) := id rfl
@[simp] theorem isntD_b : isntD (.bool p) (.bool q) = some (.bool (!decide (p = q))) := id rfl
@[simp] theorem isNonD_i : isNonD (.int a) = false := id rfl
@[simp] theorem isNonD_b : isNonD (.bool p) = false := id rfl
@[simp] theorem isNonD_n : isNonD .none = true := id rfl
@[simp] theorem isNonD_t : isNonD (.tuple xs) = false := id rfl
@[simp] theorem isNonD_l : isNonD (.list xs) = false := id rfl
@[simp] theorem intD_i : intD [.int a] = some (.int a) := id rfl
@[simp] theorem intD_b : intD [.bool p] = some (.int (if p then 1 else 0)) := id rfl
@[simp] theorem absD_i : absD [.int a] = some (.int (if a < 0 then -a else a)) := id rfl
@[simp] theorem lenD_l : lenD [.list xs] = some (.int xs.length) := id rfl
@[simp] theorem lenD_t : lenD [.tuple xs] = some (.int xs.length) := id rfl
theorem mkd_s (ns : List Int) : mkd (ns.map fun n => (PyData.int n, PyData.none)) = false := by cases ns <;> rfl
@[simp] theorem lenD_s {ns : List Int} : lenD [scrD ns] = some (.int ns.length) := by
  show (if mkd (ns.map fun n => (PyData.int n, PyData.none)) = true then none else some (PyData.int ((ns.map fun n => (PyData.int n, PyData.none)).length : Nat))) = _
  rw [mkd_s, if_neg (by decide), List.length_map]
@[simp] theorem tupOfD_l : tupOfD [.list xs] = some (.tuple xs) := id rfl
@[simp] theorem tupOfD_t : tupOfD [.tuple xs] = some (.tuple xs) := id rfl
@[simp] theorem lstOfD_l : lstOfD [.list xs] = some xs := id rfl
@[simp] theorem lstOfD_t : lstOfD [.tuple xs] = some xs := id rfl
@[simp] theorem sumD_l {ns : List Int} : sumD [.list (ns.map .int)] = some (.int ns.sum) := by show (ints? _).map _ = _; rw [ints_map]; rfl
@[simp] theorem sumD_t {ns : List Int} : sumD [.tuple (ns.map .int)] = some (.int ns.sum) := by show (ints? _).map _ = _; rw [ints_map]; rfl
@[simp] theorem allD_l {bs : List Bool} : allD [.list (bs.map .bool)] = some (.bool (bs.all id)) := by show (bls? _).map _ = _; rw [bls_map]; rfl
@[simp] theorem anyD_l {bs : List Bool} : anyD [.list (bs.map .bool)] = some (.bool (bs.any id)) := by show (bls? _).map _ = _; rw [bls_map]; rfl
@[simp] theorem sortD_l {ns : List Int} : sortD [.list (ns.map .int)] = some ((sortI ns).map .int) := by show (ints? _).map _ = _; rw [ints_map]; rfl
@[simp] theorem ixD_l : ixD (.list xs) (.int a) = atI xs a := id rfl
@[simp] theorem ixD_t : ixD (.tuple xs) (.int a) = atI xs a := id rfl
theorem ixD_s {ns : List Int} {k : Nat} {n : Int} (h : ns[k]? = some n) : ixD (scrD ns) (.int (k : Int)) = some (.int n) := by
  show (if mkd (ns.map fun n => (PyData.int n, PyData.none)) = true then none else (atI (ns.map fun n => (PyData.int n, PyData.none)) (k : Int)).map (·.1)) = _
  rw [mkd_s, if_neg (by decide)]
  rw [atI_nat (v := (PyData.int n, PyData.none)) (by rw [List.getElem?_map, h]; rfl)]; rfl
@[simp] theorem slD_l {l h : Option Int} : slD (.list xs) l h = some (.list (cutL xs l h)) := id rfl
@[simp] theorem slD_t {l h : Option Int} : slD (.tuple xs) l h = some (.tuple (cutL xs l h)) := id rfl
@[simp] theorem slLD_l {l h : Option Int} : slLD (.list xs) l h = some (cutL xs l h) := id rfl
@[simp] theorem iSeq_ap : iSeq da env = (da env).bind seqD := id rfl
@[simp] theorem seqD_l : seqD (.list xs) = some xs := id rfl
@[simp] theorem seqD_t : seqD (.tuple xs) = some xs := id rfl
@[simp] theorem enD_l : enD [.list xs] = some (enumD xs) := id rfl
@[simp] theorem enD_t : enD [.tuple xs] = some (enumD xs) := id rfl
theorem rg1_i (h1 : 0 ≤ a) (h2 : a ≤ 1000000000) : rg1 [.int a] = some (rngD 0 a.toNat) := by show (if _ then _ else _) = _; rw [if_pos (show rngOk a = true from decide_eq_true (by omega))]
theorem rg1_n {n : Nat} (h2 : n ≤ 1000000000) : rg1 [.int (n : Int)] = some (rngD 0 n) := by rw [rg1_i (by omega) (by omega)]; simp
theorem rg2_i (h1 : -1000000000 ≤ a) (h2 : a ≤ 1000000000) (h3 : -1000000000 ≤ b) (h4 : b ≤ 1000000000) : rg2 [.int a, .int b] = some (rngD a (b - a).toNat) := by
  show (if _ then _ else _) = _
  have e1 : rngOk a = true := decide_eq_true (by omega)
  have e2 : rngOk b = true := decide_eq_true (by omega)
  rw [e1, e2]; rfl
/-! items -/
theorem at_get {α : Type} {xs : List α} {k : Int} (h0 : 0 ≤ k) {v : α} (h : xs[k.toNat]? = some v) : atI xs k = some v := by
  have e : k = ((k.toNat : Nat) : Int) := by omega
  rw [e]; exact atI_nat h
theorem at_map {α : Type} {f : α → D} {xs : List α} {k : Int} (h0 : 0 ≤ k) {v : α} (h : xs[k.toNat]? = some v) : atI (xs.map f) k = some (f v) := at_get h0 (by rw [List.getElem?_map, h]; rfl)
theorem at_nat_map {α : Type} {f : α → D} {xs : List α} {k : Nat} {v : α} (h : xs[k]? = some v) : atI (xs.map f) (k : Int) = some (f v) := atI_nat (by rw [List.getElem?_map, h]; rfl)
theorem at_int {ns : List Int} {k : Int} (h0 : 0 ≤ k) (h1 : k < ns.length) : atI (ns.map PyData.int) k = some (.int (ns.getD k.toNat 0)) := by
  refine at_map h0 ?_
  rw [List.getD_eq_getElem?_getD, List.getElem?_eq_getElem (by omega)]; rfl
theorem at_intN {ns : List Int} {k : Nat} (h1 : k < ns.length) : atI (ns.map PyData.int) (k : Int) = some (.int (ns.getD k 0)) := by
  refine at_nat_map ?_
  rw [List.getD_eq_getElem?_getD, List.getElem?_eq_getElem (by omega)]; rfl

/-! ### comprehensions, loops -/
theorem lcL_map {α : Type} {tgt : Tgt} {cond : Ev → Option Bool} {elt : Ev → Option D} {f : α → D} {h : α → D} : ∀ {xs : List α}, (∀ x ∈ xs, ∃ e1, tgt (f x) env = some e1 ∧ cond e1 = some true ∧ elt e1 = some (h x)) → lcL tgt cond elt (xs.map f) env = some (xs.map h)
  | [], _ => rfl
  | x :: r, H => by
    obtain ⟨e1, h1, h2, h3⟩ := H x (by simp)
    have ih := lcL_map (tgt := tgt) (cond := cond) (elt := elt) (f := f) (h := h) (xs := r) fun y hy => H y (by simp [hy])
    show (tgt (f x) env).bind _ = _
    rw [h1]
    show (cond e1).bind _ = _
    rw [h2]
    show (elt e1).bind _ = _
    rw [h3]
    show (lcL tgt cond elt (r.map f) env).map _ = _
    rw [ih]; rfl
theorem lcL_filter {α : Type} {tgt : Tgt} {cond : Ev → Option Bool} {elt : Ev → Option D} {f : α → D} {h : α → D} {p : α → Bool} : ∀ {xs : List α}, (∀ x ∈ xs, ∃ e1, tgt (f x) env = some e1 ∧ cond e1 = some (p x) ∧ (p x = true → elt e1 = some (h x))) → lcL tgt cond elt (xs.map f) env = some ((xs.filter p).map h)
  | [], _ => rfl
  | x :: r, H => by
    obtain ⟨e1, h1, h2, h3⟩ := H x (by simp)
    have ih := lcL_filter (tgt := tgt) (cond := cond) (elt := elt) (f := f) (h := h) (p := p) (xs := r) fun y hy => H y (by simp [hy])
    show (tgt (f x) env).bind _ = _
    rw [h1]
    show (cond e1).bind _ = _
    rw [h2]
    show (if p x = true then _ else _) = _
    by_cases hp : p x = true
    · rw [if_pos hp, h3 hp]
      show (lcL tgt cond elt (r.map f) env).map _ = _
      rw [ih, List.filter_cons_of_pos hp]; rfl
    · rw [if_neg hp, ih, List.filter_cons_of_neg hp]
/-- [elt for x in source]: the source's data are f of xs -/
theorem nLc_map {α : Type} {vs : List Nat} {src : Ev → Option (List D)} {tgt : Tgt} {cond : Ev → Option Bool} {elt : Ev → Option D} {f : α → D} {h : α → D} {xs : List α} (hs : src env = some (xs.map f)) (hl : xs.length ≤ line)
    (H : ∀ x ∈ xs, ∃ e1, tgt (f x) (fgs env vs) = some e1 ∧ cond e1 = some true ∧ elt e1 = some (h x)) : nLc vs src tgt cond elt env = some (xs.map h) := by
  unfold nLc
  rw [hs]
  show (lcL tgt cond elt (xs.map f) (fgs env vs)).bind _ = _
  rw [lcL_map H]
  show (if _ then _ else _) = _
  rw [if_pos (by rw [List.length_map]; exact hl)]
theorem nLc_filter {α : Type} {vs : List Nat} {src : Ev → Option (List D)} {tgt : Tgt} {cond : Ev → Option Bool} {elt : Ev → Option D} {f : α → D} {h : α → D} {p : α → Bool} {xs : List α} (hs : src env = some (xs.map f)) (hl : xs.length ≤ line)
    (H : ∀ x ∈ xs, ∃ e1, tgt (f x) (fgs env vs) = some e1 ∧ cond e1 = some (p x) ∧ (p x = true → elt e1 = some (h x))) : nLc vs src tgt cond elt env = some ((xs.filter p).map h) := by
  unfold nLc
  rw [hs]
  show (lcL tgt cond elt (xs.map f) (fgs env vs)).bind _ = _
  rw [lcL_filter H]
  show (if _ then _ else _) = _
  rw [if_pos (by rw [List.length_map]; exact Nat.le_trans (List.length_filter_le _ _) hl)]
/-- .. over a range, the element told by the turn -/
theorem nLc_rng {vs : List Nat} {src : Ev → Option (List D)} {tgt : Tgt} {cond : Ev → Option Bool} {elt : Ev → Option D} {lo : Int} {n : Nat} {h : Nat → D} (hs : src env = some (rngD lo n)) (hl : n ≤ line)
    (H : ∀ k, k < n → ∃ e1, tgt (.int (lo + k)) (fgs env vs) = some e1 ∧ cond e1 = some true ∧ elt e1 = some (h k)) : nLc vs src tgt cond elt env = some ((List.range n).map h) :=
  nLc_map hs (by rw [List.length_range]; exact hl) fun k hk => H k (List.mem_range.mp hk)
/-- one turn -/
def turn (tgt : Tgt) (body : Ev → Option Out) (is : List Nat) (d : D) (env : Ev) : Option Out := (tgt d env).bind fun e1 => (body e1).map fun o => match o with
  | .nx e => .nx (fgs e is)
  | .ct e => .nx (fgs e is)
  | .bk e => .bk (fgs e is)
  | .rt d => .rt d
theorem forL_cons {tgt : Tgt} {body : Ev → Option Out} {is : List Nat} {ds : List D} : forL tgt body is (d :: ds) env = (turn tgt body is d env).bind fun o => match o with
  | .nx e => forL tgt body is ds e
  | .ct e => forL tgt body is ds e
  | .bk e => some (.nx e)
  | .rt d => some (.rt d) := by
  show (tgt d env).bind _ = _
  unfold turn
  cases tgt d env with
  | none => rfl
  | some e1 =>
    show (body e1).bind _ = ((body e1).map _).bind _
    cases body e1 with
    | none => rfl
    | some o => cases o <;> rfl
/-- a loop whose turns all go on: E, the slots behind each turn -/
theorem forL_run {tgt : Tgt} {body : Ev → Option Out} {is : List Nat} {ds : List D} (E : Nat → Ev) (H : ∀ i d, ds[i]? = some d → turn tgt body is d (E i) = some (.nx (E (i + 1)))) : forL tgt body is ds (E 0) = some (.nx (E ds.length)) := by
  induction ds generalizing E with
  | nil => rfl
  | cons d r ih =>
    rw [forL_cons, H 0 d rfl]
    exact ih (fun i => E (i + 1)) fun i d' h => H (i + 1) d' h
theorem forL_rng {tgt : Tgt} {body : Ev → Option Out} {is : List Nat} {lo : Int} {n : Nat} (E : Nat → Ev) (H : ∀ i, i < n → turn tgt body is (.int (lo + i)) (E i) = some (.nx (E (i + 1)))) : forL tgt body is (rngD lo n) (E 0) = some (.nx (E n)) := by
  have := forL_run (tgt := tgt) (body := body) (is := is) (ds := rngD lo n) E fun i d h => by
    have hi : i < n := by have := (List.getElem?_eq_some_iff.mp h).1; rw [rngD_length] at this; exact this
    rw [rngD_get lo hi] at h; cases h
    exact H i hi
  rw [rngD_length] at this; exact this
/-- .. that leaves at the turn k -/
theorem forL_ret {tgt : Tgt} {body : Ev → Option Out} {is : List Nat} {ds : List D} (k : Nat) (E : Nat → Ev) (hk : k < ds.length) (H : ∀ i d, i < k → ds[i]? = some d → turn tgt body is d (E i) = some (.nx (E (i + 1)))) {z : D} (hr : ∀ d, ds[k]? = some d → turn tgt body is d (E k) = some (.rt z)) : forL tgt body is ds (E 0) = some (.rt z) := by
  induction ds generalizing E k with
  | nil => simp at hk
  | cons d r ih =>
    rw [forL_cons]
    cases k with
    | zero => rw [hr d rfl]; rfl
    | succ k =>
      rw [H 0 d (by omega) rfl]
      exact ih k (fun i => E (i + 1)) (by simpa using hk) (fun i d' hi h => H (i + 1) d' (by omega) h) fun d' h => hr d' h
theorem forL_inv {tgt : Tgt} {body : Ev → Option Out} {is : List Nat} {ds : List D} (P : Nat → Ev → Prop) (h0 : P 0 env) (H : ∀ i d e, ds[i]? = some d → P i e → ∃ e', turn tgt body is d e = some (.nx e') ∧ P (i + 1) e') : ∃ e', forL tgt body is ds env = some (.nx e') ∧ P ds.length e' := by
  induction ds generalizing P env with
  | nil => exact ⟨env, rfl, h0⟩
  | cons d r ih =>
    obtain ⟨e1, h1, h2⟩ := H 0 d env rfl h0
    rw [forL_cons, h1]
    obtain ⟨e', h3, h4⟩ := ih (env := e1) (fun i => P (i + 1)) h2 fun i d' e h => H (i + 1) d' e h
    exact ⟨e', h3, h4⟩
theorem forL_invR {tgt : Tgt} {body : Ev → Option Out} {is : List Nat} {lo : Int} {n : Nat} (P : Nat → Ev → Prop) (h0 : P 0 env) (H : ∀ i e, i < n → P i e → ∃ e', turn tgt body is (.int (lo + i)) e = some (.nx e') ∧ P (i + 1) e') : ∃ e', forL tgt body is (rngD lo n) env = some (.nx e') ∧ P n e' := by
  have := forL_inv (tgt := tgt) (body := body) (is := is) (ds := rngD lo n) P h0 fun i d e h hp => by
    have hi : i < n := by have := (List.getElem?_eq_some_iff.mp h).1; rw [rngD_length] at this; exact this
    rw [rngD_get lo hi] at h; cases h
    exact H i e hi hp
  rw [rngD_length] at this; exact this
/-- .. that may leave with a value -/
theorem forL_invE {tgt : Tgt} {body : Ev → Option Out} {is : List Nat} {ds : List D} (P : Nat → Ev → Prop) (Q : D → Prop) (h0 : P 0 env) (H : ∀ i d e, ds[i]? = some d → P i e → (∃ e', turn tgt body is d e = some (.nx e') ∧ P (i + 1) e') ∨ ∃ z, turn tgt body is d e = some (.rt z) ∧ Q z) : (∃ e', forL tgt body is ds env = some (.nx e') ∧ P ds.length e') ∨ ∃ z, forL tgt body is ds env = some (.rt z) ∧ Q z := by
  induction ds generalizing P env with
  | nil => exact Or.inl ⟨env, rfl, h0⟩
  | cons d r ih =>
    rw [forL_cons]
    rcases H 0 d env rfl h0 with ⟨e1, h1, h2⟩ | ⟨z, h1, h2⟩
    · rw [h1]
      exact ih (env := e1) (fun i => P (i + 1)) h2 fun i d' e h => H (i + 1) d' e h
    · rw [h1]
      exact Or.inr ⟨z, rfl, h2⟩
theorem turn_nx {tgt : Tgt} {body : Ev → Option Out} {is : List Nat} {e1 e2 : Ev} (h1 : tgt d env = some e1) (h2 : body e1 = some (.nx e2)) : turn tgt body is d env = some (.nx (fgs e2 is)) := by
  unfold turn; rw [h1]; show Option.map _ (body e1) = _; rw [h2]; rfl
theorem turn_ct {tgt : Tgt} {body : Ev → Option Out} {is : List Nat} {e1 e2 : Ev} (h1 : tgt d env = some e1) (h2 : body e1 = some (.ct e2)) : turn tgt body is d env = some (.nx (fgs e2 is)) := by
  unfold turn; rw [h1]; show Option.map _ (body e1) = _; rw [h2]; rfl
theorem turn_rt {tgt : Tgt} {body : Ev → Option Out} {is : List Nat} {e1 : Ev} {z : D} (h1 : tgt d env = some e1) (h2 : body e1 = some (.rt z)) : turn tgt body is d env = some (.rt z) := by
  unfold turn; rw [h1]; show Option.map _ (body e1) = _; rw [h2]; rfl
theorem turn_bk {tgt : Tgt} {body : Ev → Option Out} {is : List Nat} {e1 e2 : Ev} (h1 : tgt d env = some e1) (h2 : body e1 = some (.bk e2)) : turn tgt body is d env = some (.bk (fgs e2 is)) := by
  unfold turn; rw [h1]; show Option.map _ (body e1) = _; rw [h2]; rfl
theorem whL_inv {tc : Ev → Option Bool} {body : Ev → Option Out} {is : List Nat} (P : Nat → Ev → Prop) : ∀ (n : Nat) (env : Ev) (m : Nat), n < m → P n env → (∀ k e, P k e → (tc e = some false) ∨ ∃ k', k' < k ∧ tc e = some true ∧ ∃ e', (body e).map (Out.fg is) = some (.nx e') ∧ P k' e') → ∃ k e, whL tc body is m env = some (.nx e) ∧ P k e ∧ tc e = some false := by
  intro n
  induction n using Nat.strongRecOn with
  | ind n ih =>
    intro env m hm hp H
    cases m with
    | zero => omega
    | succ m =>
      rcases H n env hp with hf | ⟨k', hk, ht, e', hb, hp'⟩
      · refine ⟨n, env, ?_, hp, hf⟩
        show (tc env).bind _ = _
        rw [hf]; rfl
      · obtain ⟨o, h3, h4⟩ := Option.map_eq_some_iff.mp hb
        have hE : ∃ e, o = .nx e ∧ fgs e is = e' ∨ o = .ct e ∧ fgs e is = e' := by
          cases o <;> simp only [Out.fg] at h4
          · rename_i e; exact ⟨e, Or.inl ⟨rfl, by injection h4⟩⟩
          all_goals first | cases h4 | (rename_i e; exact ⟨e, Or.inr ⟨rfl, by injection h4⟩⟩)
        obtain ⟨k2, e2, h5, h6⟩ := ih k' hk e' m (by omega) hp' H
        refine ⟨k2, e2, ?_, h6⟩
        show (tc env).bind _ = _
        rw [ht]
        show (body env).bind _ = _
        rw [h3]
        obtain ⟨e, ⟨rfl, he⟩ | ⟨rfl, he⟩⟩ := hE
        · show whL tc body is m (fgs e is) = _
          rw [he]; exact h5
        · show whL tc body is m (fgs e is) = _
          rw [he]; exact h5
/-- a while: E, the slots ahead of each test -/
theorem whL_run {tc : Ev → Option Bool} {body : Ev → Option Out} {is : List Nat} (n : Nat) (E : Nat → Ev) (m : Nat) (hm : n < m) (H : ∀ i, i < n → tc (E i) = some true ∧ (body (E i)).map (Out.fg is) = some (.nx (E (i + 1)))) (he : tc (E n) = some false) : whL tc body is m (E 0) = some (.nx (E n)) := by
  induction n generalizing E m with
  | zero =>
    cases m with
    | zero => omega
    | succ m =>
      show (tc (E 0)).bind _ = _
      rw [he]; rfl
  | succ n ih =>
    cases m with
    | zero => omega
    | succ m =>
      obtain ⟨h1, h2⟩ := H 0 (by omega)
      show (tc (E 0)).bind _ = _
      rw [h1]
      show (body (E 0)).bind _ = _
      obtain ⟨o, h3, h4⟩ := Option.map_eq_some_iff.mp h2
      rw [h3]
      have hE : ∃ e, o = .nx e ∧ fgs e is = E 1 := by
        cases o <;> simp only [Out.fg] at h4
        · rename_i e
          exact ⟨e, rfl, by injection h4⟩
        all_goals cases h4
      obtain ⟨e, rfl, he1⟩ := hE
      show whL tc body is m (fgs e is) = _
      rw [he1]
      exact ih (fun i => E (i + 1)) m (by omega) (fun i hi => H (i + 1) (by omega)) he
@[simp] theorem sFor_ap {is : List Nat} {src : Ev → Option (List D)} {tgt : Tgt} : sFor is src tgt s1 env = (src env).bind fun ds => forL tgt s1 is ds (fgs env is) := id rfl
theorem sFor_of {is : List Nat} {src : Ev → Option (List D)} {tgt : Tgt} {ds : List D} (h : src env = some ds) : sFor is src tgt s1 env = forL tgt s1 is ds (fgs env is) := by
  show (src env).bind _ = _
  rw [h]; rfl
theorem runD_rt {n m : Nat} {den : Ev → Option Out} {ds : List D} {z : D} (hl : ds.length = m) (h : den (startE n ds) = some (.rt z)) : runD n m den ds = some z := by
  unfold runD; rw [if_pos hl, h]; rfl
theorem runD_nx {n m : Nat} {den : Ev → Option Out} {ds : List D} {e : Ev} (hl : ds.length = m) (h : den (startE n ds) = some (.nx e)) : runD n m den ds = some .none := by
  unfold runD; rw [if_pos hl, h]; rfl
/-! what may be compared -/
theorem ok_mono {d : D} (h1 : d.canLay0 = true) (h2 : d.depth ≤ 64) : okD d = true := by
  unfold okD SeqAt.shaped
  rw [h1, decide_eq_true h2]; rfl
theorem depthAll_le {ds : List D} {n : Nat} (h : ∀ d ∈ ds, d.depth ≤ n) : PyData.depthAll ds ≤ n := by
  induction ds with
  | nil => simp [PyData.depthAll]
  | cons d r ih =>
    simp only [PyData.depthAll]
    have h1 := h d (by simp)
    have h2 := ih fun x hx => h x (by simp [hx])
    omega
theorem canAll {ds : List D} (h : ∀ d ∈ ds, d.canLay0 = true) : PyData.canLayAll0 ds = true := by
  induction ds with
  | nil => rfl
  | cons d r ih => simp only [PyData.canLayAll0]; rw [h d (by simp), ih fun x hx => h x (by simp [hx])]; rfl
/-- data of depth at most n, without dicts -/
def gd : Nat → D → Bool
  | _, .none => true
  | _, .bool _ => true
  | _, .int _ => true
  | _, .str x => PyData.strOk x
  | 0, _ => false
  | n + 1, .tuple xs => xs.all (gd n)
  | n + 1, .list xs => xs.all (gd n)
  | _, .dict _ => false
theorem gd_ok : ∀ (n : Nat) (d : D), gd n d = true → d.canLay0 = true ∧ d.depth ≤ n + 1
  | _, .none, _ => ⟨rfl, by simp [PyData.depth]⟩
  | _, .bool _, _ => ⟨rfl, by simp [PyData.depth]⟩
  | _, .int _, _ => ⟨rfl, by simp [PyData.depth]⟩
  | _, .str x, h => ⟨by simpa [gd, PyData.canLay0] using h, by simp [PyData.depth]⟩
  | 0, .tuple xs, h => by simp [gd] at h
  | 0, .list xs, h => by simp [gd] at h
  | n + 1, .tuple xs, h => by
    have h : ∀ x ∈ xs, gd n x = true := by simpa [gd] using h
    refine ⟨?_, ?_⟩
    · show PyData.canLayAll0 xs = true
      exact canAll fun x hx => (gd_ok n x (h x hx)).1
    · simp only [PyData.depth]
      have := depthAll_le fun x hx => (gd_ok n x (h x hx)).2
      omega
  | n + 1, .list xs, h => by
    have h : ∀ x ∈ xs, gd n x = true := by simpa [gd] using h
    refine ⟨?_, ?_⟩
    · show PyData.canLayAll0 xs = true
      exact canAll fun x hx => (gd_ok n x (h x hx)).1
    · simp only [PyData.depth]
      have := depthAll_le fun x hx => (gd_ok n x (h x hx)).2
      omega
  | 0, .dict _, h => by simp [gd] at h
  | _ + 1, .dict _, h => by simp [gd] at h
theorem gd_okD {n : Nat} {d : D} (h : gd n d = true) (hn : n ≤ 60 := by decide) : okD d = true := ok_mono (gd_ok n d h).1 (Nat.le_trans (gd_ok n d h).2 (by omega))
mutual
theorem eqv_refl : ∀ (d : D), d.canLay0 = true → PyData.eqv d d = true
  | .none, _ => rfl
  | .bool b, _ => by simp [PyData.eqv]
  | .int i, _ => by simp [PyData.eqv]
  | .str x, _ => by simp [PyData.eqv]
  | .list xs, h => by simp only [PyData.eqv]; exact eqvAll_refl xs (by simpa [PyData.canLay0] using h)
  | .tuple xs, h => by simp only [PyData.eqv]; exact eqvAll_refl xs (by simpa [PyData.canLay0] using h)
  | .dict _, h => by simp [PyData.canLay0] at h
theorem eqvAll_refl : ∀ (ds : List D), PyData.canLayAll0 ds = true → PyData.eqvAll ds ds = true
  | [], _ => rfl
  | d :: r, h => by
    have h' : d.canLay0 = true ∧ PyData.canLayAll0 r = true := by simpa [PyData.canLayAll0] using h
    simp only [PyData.eqvAll, eqv_refl d h'.1, eqvAll_refl r h'.2, Bool.and_self]
end
@[simp] theorem eqD_i : eqD (.int a) (.int b) = some (.bool (a == b)) := by
  show (if _ then _ else _) = _
  rw [if_pos (by rfl)]; simp only [PyData.eqv]
@[simp] theorem neD_i : neD (.int a) (.int b) = some (.bool (!(a == b))) := by
  show (if _ then _ else _) = _
  rw [if_pos (by rfl)]; simp only [PyData.eqv]
theorem eqD_of {n m : Nat} {d e : D} (h1 : gd n d = true) (h2 : gd m e = true) (hn : n ≤ 60 := by decide) (hm : m ≤ 60 := by decide) : eqD d e = some (.bool (PyData.eqv d e)) := by
  unfold eqD; rw [gd_okD h1 hn, gd_okD h2 hm]; rfl
theorem neD_of {n m : Nat} {d e : D} (h1 : gd n d = true) (h2 : gd m e = true) (hn : n ≤ 60 := by decide) (hm : m ≤ 60 := by decide) : neD d e = some (.bool (!PyData.eqv d e)) := by
  unfold neD; rw [gd_okD h1 hn, gd_okD h2 hm]; rfl
theorem eqD_self {n : Nat} {d : D} (h1 : gd n d = true) (hn : n ≤ 60 := by decide) : eqD d d = some (.bool true) := by
  rw [eqD_of h1 h1 hn hn, eqv_refl d (gd_ok n d h1).1]
end
@[simp] theorem eqvAll_ints : ∀ (xs ys : List Int), PyData.eqvAll (xs.map PyData.int) (ys.map PyData.int) = decide (xs = ys)
  | [], [] => rfl
  | [], _ :: _ => rfl
  | _ :: _, [] => rfl
  | x :: xs, y :: ys => by
    show (PyData.eqv (.int x) (.int y) && PyData.eqvAll (xs.map PyData.int) (ys.map PyData.int)) = _
    rw [eqvAll_ints xs ys]
    show ((x == y) && _) = _
    by_cases h : x = y
    · subst h; simp
    · simp [h]
@[simp] theorem gd_i {n : Nat} {a : Int} : gd n (.int a) = true := by cases n <;> rfl
@[simp] theorem gd_b {n : Nat} {a : Bool} : gd n (.bool a) = true := by cases n <;> rfl
@[simp] theorem gd_n {n : Nat} : gd n .none = true := by cases n <;> rfl
@[simp] theorem gd_t {n : Nat} {xs : List D} : gd (n + 1) (.tuple xs) = xs.all (gd n) := id rfl
@[simp] theorem gd_l {n : Nat} {xs : List D} : gd (n + 1) (.list xs) = xs.all (gd n) := id rfl
theorem gd_ints {n : Nat} {ns : List Int} : (ns.map PyData.int).all (gd n) = true := by
  rw [List.all_map]; exact List.all_eq_true.mpr fun x _ => by simp
theorem gd_tI {n : Nat} {ns : List Int} : gd (n + 1) (.tuple (ns.map .int)) = true := gd_ints
theorem gd_lI {n : Nat} {ns : List Int} : gd (n + 1) (.list (ns.map .int)) = true := gd_ints
end PV
end

section
set_option maxRecDepth 100000
set_option maxHeartbeats 4000000
namespace PVL
open PySem L2 PV
def den__law_mixed : Ev → Option Out :=
  sSeq (sSet 2 (xV (eC (.int 0)))) <|
  sSeq (sIf (t1 isB (e2 gtD (eA lenD (aCons (eVar 0) aNil)) (eC (.int 0)))) (sSet 2 (xV (e2 ixD (eVar 0) (e2 modD (eVar 1) (eA lenD (aCons (eVar 0) aNil)))))) sNil) <|
  sSeq (sSet 3 (xV (e2 modD (eA intD (aCons (e2 addD (e2 addD (e2 mulD (eVar 2) (eC (.int 48271))) (e2 mulD (eVar 1) (eC (.int 69621)))) (eC (.int 8191))) aNil)) (eC (.int 2147483647))))) <|
  sSeq (sSet 4 (xV (e2 modD (eA intD (aCons (e2 addD (e2 addD (e2 mulD (eVar 3) (eVar 3)) (e2 fdivD (eVar 3) (eC (.int 7)))) (e2 mulD (eVar 1) (eC (.int 16807)))) aNil)) (eC (.int 2147483629))))) <|
  sSeq (sSet 5 (xV (e2 modD (eA intD (aCons (e2 addD (e2 addD (e2 mulD (eVar 4) (eVar 4)) (e2 fdivD (eVar 4) (eC (.int 11)))) (eC (.int 40692))) aNil)) (eC (.int 2147483563))))) <|
  sRet (e2 modD (e2 fdivD (eVar 5) (eC (.int 5))) (eC (.int 1000003)))
def F__law_mixed : List D → Option D := runD 6 2 den__law_mixed
def den__law_row : Ev → Option Out :=
  sSeq (sSet 2 (xV (eC (.int 0)))) <|
  sSeq (sIf (tAn (t1 isB (e2 gtD (eA lenD (aCons (eVar 0) aNil)) (eC (.int 0)))) (t1 isB (e2 geD (e2 ixD (eVar 0) (eC (.int 0))) (e2 powD (eC (.int 10)) (eC (.int 18)))))) (sSet 2 (xV (e2 ixD (eVar 0) (eC (.int 0))))) sNil) <|
  sSeq (sSet 3 (xO (nLst aNil))) <|
  sSeq (sFor [4] (nA rg1 (aCons (eVar 1) aNil)) (gN 4) (
  sIf (t1 isB (e2 gtD (eVar 2) (eC (.int 0)))) (sSeq (sApp 3 (e2 modD (eA intD (aCons (eVar 2) aNil)) (eC (.int 1000)))) <|
  sSet 2 (xV (e2 fdivD (eVar 2) (eC (.int 1000))))) (sApp 3 (eA F__law_mixed (aCons (eVar 0) (aCons (eVar 4) aNil)))))) <|
  sPre (fun env => frz env 3) (sRet (eVar 3))
def F__law_row : List D → Option D := runD 5 2 den__law_row
def den__law_is_int : Ev → Option Out :=
  sRet (eAn (e1 (isiD' "int") (eVar 0)) (e1 notD (e1 (isiD' "bool") (eVar 0))))
def F__law_is_int : List D → Option D := runD 1 1 den__law_is_int
def den__law_like (self : List D → Option D) : Ev → Option Out :=
  sSeq (sIf (t1 isB (e2 isD (eVar 1) (eC .none))) (sRet (e2 isD (eVar 0) (eC .none))) sNil) <|
  sSeq (sIf (t1 truD (e1 (isiD' "bool") (eVar 1))) (sRet (eAn (e1 (isiD' "bool") (eVar 0)) (e2 eqD (eVar 0) (eVar 1)))) sNil) <|
  sSeq (sIf (t1 truD (e1 (isiD' "tuple") (eVar 1))) (sSeq (sIf (tOr' (tNo (t1 truD (e1 (isiD' "tuple") (eVar 0)))) (t1 isB (e2 neD (eA lenD (aCons (eVar 0) aNil)) (eA lenD (aCons (eVar 1) aNil))))) (sRet (eC (.bool false))) sNil) <|
  sRet (eA allD (aCons (eLst (nLc [2] (nA rg1 (aCons (eA lenD (aCons (eVar 1) aNil)) aNil)) (gN 2) tTrue (eA self (aCons (e2 ixD (eVar 0) (eVar 2)) (aCons (e2 ixD (eVar 1) (eVar 2)) aNil))))) aNil))) sNil) <|
  sSeq (sIf (t1 truD (e1 (isiD' "str") (eVar 1))) (sRet (eAn (e1 (isiD' "str") (eVar 0)) (e2 eqD (eVar 0) (eVar 1)))) sNil) <|
  sRet (eAn (eA F__law_is_int (aCons (eVar 0) aNil)) (e2 eqD (eVar 0) (eVar 1)))
def F__law_like : Nat → List D → Option D
  | 0 => fun _ => none
  | n + 1 => runD 3 2 (den__law_like (F__law_like n))

theorem mixed_tail (ns : List Int) (k : Int) (c : Int) : ∃ r, (sSeq (sSet 3 (xV (e2 modD (eA intD (aCons (e2 addD (e2 addD (e2 mulD (eVar 2) (eC (.int 48271))) (e2 mulD (eVar 1) (eC (.int 69621)))) (eC (.int 8191))) aNil)) (eC (.int 2147483647))))) <|
  sSeq (sSet 4 (xV (e2 modD (eA intD (aCons (e2 addD (e2 addD (e2 mulD (eVar 3) (eVar 3)) (e2 fdivD (eVar 3) (eC (.int 7)))) (e2 mulD (eVar 1) (eC (.int 16807)))) aNil)) (eC (.int 2147483629))))) <|
  sSeq (sSet 5 (xV (e2 modD (eA intD (aCons (e2 addD (e2 addD (e2 mulD (eVar 4) (eVar 4)) (e2 fdivD (eVar 4) (eC (.int 11)))) (eC (.int 40692))) aNil)) (eC (.int 2147483563))))) <|
  sRet (e2 modD (e2 fdivD (eVar 5) (eC (.int 5))) (eC (.int 1000003)))) [some (.v (scrD ns)), some (.v (.int k)), some (.v (.int c)), none, none, none] = some (.rt (.int r)) ∧ 0 ≤ r ∧ r < 1000003 := by
  obtain ⟨f, hf⟩ : ∃ f, f = (c * 48271 + k * 69621 + 8191) % 2147483647 := ⟨_, rfl⟩
  obtain ⟨g, hg⟩ : ∃ g, g = (f * f + f / 7 + k * 16807) % 2147483629 := ⟨_, rfl⟩
  obtain ⟨h, hh⟩ : ∃ h, h = (g * g + g / 11 + 40692) % 2147483563 := ⟨_, rfl⟩
  have hf0 : 0 ≤ f := by omega
  have hf1 : f < 2147483647 := by omega
  have hg0 : 0 ≤ g := by rw [hg]; exact Int.emod_nonneg _ (by decide)
  have hg1 : g < 2147483629 := by rw [hg]; exact Int.emod_lt_of_pos _ (by decide)
  refine ⟨h / 5 % 1000003, ?_, by omega, by omega⟩
  refine (sSeq_nx (e := [some (.v (scrD ns)), some (.v (.int k)), some (.v (.int c)), some (.v (.int f)), none, none]) (by simp (disch := omega) [mulD_r, modD_i]; exact hf.symm)).trans ?_
  refine (sSeq_nx (e := [some (.v (scrD ns)), some (.v (.int k)), some (.v (.int c)), some (.v (.int f)), some (.v (.int g)), none]) (by simp (disch := omega) [mulD_l, mulD_r, modD_i, fdivD_i]; exact hg.symm)).trans ?_
  refine (sSeq_nx (e := [some (.v (scrD ns)), some (.v (.int k)), some (.v (.int c)), some (.v (.int f)), some (.v (.int g)), some (.v (.int h))]) (by simp (disch := omega) [mulD_l, mulD_r, modD_i, fdivD_i]; exact hh.symm)).trans ?_
  simp (disch := omega) [modD_i, fdivD_i]
theorem lenD_scr (ns : List Int) : lenD [scrD ns] = some (.int ns.length) := by
  exact lenD_s
theorem ixD_scr (ns : List Int) {k : Int} (h0 : 0 ≤ k) (h1 : k < ns.length) : ixD (scrD ns) (.int k) = some (.int (ns.getD k.toNat 0)) := by
  show (if mkd (ns.map fun n => (PyData.int n, PyData.none)) = true then none else Option.map _ (atI (ns.map fun n => (PyData.int n, PyData.none)) k)) = _
  rw [mkd_s, if_neg (by decide)]
  rw [at_get h0 (v := (.int (ns.getD k.toNat 0), .none)) ?_]
  · rfl
  · rw [List.getElem?_map, List.getD_eq_getElem?_getD, List.getElem?_eq_getElem (by omega)]; rfl
theorem mixed_ok (ns : List Int) (k : Int) : ∃ r, F__law_mixed [scrD ns, .int k] = some (.int r) ∧ 0 ≤ r ∧ r < 1000003 := by
  by_cases hn : (ns.length : Int) > 0
  · obtain ⟨r, h, hr⟩ := mixed_tail ns k (ns.getD (k % ns.length).toNat 0)
    refine ⟨r, runD_rt rfl ?_, hr⟩
    unfold den__law_mixed
    refine (sSeq_nx (e := [some (.v (scrD ns)), some (.v (.int k)), some (.v (.int 0)), none, none, none]) rfl).trans ?_
    refine (sSeq_nx ?_).trans h
    have h0 := Int.emod_nonneg k (show (ns.length : Int) ≠ 0 by omega)
    have h1 := Int.emod_lt_of_pos k hn
    simp (disch := omega) [lenD_scr, modD_i, ixD_scr, hn]
    intro hc; subst hc; simp at hn
  · obtain ⟨r, h, hr⟩ := mixed_tail ns k 0
    refine ⟨r, runD_rt rfl ?_, hr⟩
    unfold den__law_mixed
    refine (sSeq_nx (e := [some (.v (scrD ns)), some (.v (.int k)), some (.v (.int 0)), none, none, none]) rfl).trans ?_
    refine (sSeq_nx ?_).trans h
    have hz : ns = [] := by cases ns with
      | nil => rfl
      | cons a r => simp at hn
    subst hz
    rfl
theorem row_head (ns : List Int) (m : Nat) : ∃ v : Int, 0 ≤ v ∧ sIf (tAn (t1 isB (e2 gtD (eA lenD (aCons (eVar 0) aNil)) (eC (.int 0)))) (t1 isB (e2 geD (e2 ixD (eVar 0) (eC (.int 0))) (e2 powD (eC (.int 10)) (eC (.int 18)))))) (sSet 2 (xV (e2 ixD (eVar 0) (eC (.int 0))))) sNil [some (.v (scrD ns)), some (.v (.int m)), some (.v (.int 0)), none, none] = some (.nx [some (.v (scrD ns)), some (.v (.int m)), some (.v (.int v)), none, none]) := by
    have hp : powD (.int 10) (.int 18) = some (.int 1000000000000000000) := by
      rw [powD_i ⟨by decide, by decide, by decide⟩]; simp
    cases ns with
    | nil => exact ⟨0, by decide, by simp [lenD_scr, hp]⟩
    | cons a r =>
      have hi : ixD (scrD (a :: r)) (.int 0) = some (.int a) := ixD_scr (a :: r) (by decide) (by simp)
      by_cases h : a ≥ 1000000000000000000
      · refine ⟨a, by omega, ?_⟩
        simp [lenD_scr, hp, hi, h]
      · refine ⟨0, by decide, ?_⟩
        simp [lenD_scr, hp, hi, h]
theorem row_loop (ns : List Int) (m : Nat) (hm : m ≤ 1000) (v : Int) (hv : 0 ≤ v) : ∀ n : Nat, n ≤ m → ∃ (row : List Int) (w : Int), 0 ≤ w ∧ row.length = n ∧ (∀ x ∈ row, 0 ≤ x ∧ x < 1000003) ∧ forL (gN 4) (
  sIf (t1 isB (e2 gtD (eVar 2) (eC (.int 0)))) (sSeq (sApp 3 (e2 modD (eA intD (aCons (eVar 2) aNil)) (eC (.int 1000)))) <|
  sSet 2 (xV (e2 fdivD (eVar 2) (eC (.int 1000))))) (sApp 3 (eA F__law_mixed (aCons (eVar 0) (aCons (eVar 4) aNil))))) [4] (rngD 0 n) [some (.v (scrD ns)), some (.v (.int m)), some (.v (.int v)), some (.own []), none] = some (.nx [some (.v (scrD ns)), some (.v (.int m)), some (.v (.int w)), some (.own (row.map .int)), none]) := by
  intro n hn
  have := forL_invR (env := [some (.v (scrD ns)), some (.v (.int m)), some (.v (.int v)), some (.own []), none]) (tgt := gN 4) (is := [4]) (lo := 0) (n := n) (body := sIf (t1 isB (e2 gtD (eVar 2) (eC (.int 0)))) (sSeq (sApp 3 (e2 modD (eA intD (aCons (eVar 2) aNil)) (eC (.int 1000)))) <|
  sSet 2 (xV (e2 fdivD (eVar 2) (eC (.int 1000))))) (sApp 3 (eA F__law_mixed (aCons (eVar 0) (aCons (eVar 4) aNil))))) (fun i e => ∃ (row : List Int) (w : Int), 0 ≤ w ∧ row.length = i ∧ (∀ x ∈ row, 0 ≤ x ∧ x < 1000003) ∧ e = [some (.v (scrD ns)), some (.v (.int m)), some (.v (.int w)), some (.own (row.map .int)), none]) ⟨[], v, hv, rfl, by simp, rfl⟩ ?_
  · obtain ⟨e', h1, row, w, hw, hl, hb, he⟩ := this
    exact ⟨row, w, hw, hl, hb, he ▸ h1⟩
  intro i e hi ⟨row, w, hw, hl, hb, he⟩
  subst he
  have hline : row.length < line := Nat.lt_of_le_of_lt (show row.length ≤ 1000 by omega) (by decide)
  by_cases h : w > 0
  · refine ⟨_, turn_nx rfl (e2 := [some (.v (scrD ns)), some (.v (.int m)), some (.v (.int (w / 1000))), some (.own ((row ++ [w % 1000]).map .int)), some (.v (.int (0 + i)))]) ?_, row ++ [w % 1000], w / 1000, by omega, by simp [hl], ?_, by simp⟩
    · simp (disch := omega) [h]
      refine (sSeq_nx (e := [some (.v (scrD ns)), some (.v (.int m)), some (.v (.int w)), some (.own ((row ++ [w % 1000]).map .int)), some (.v (.int (0 + i)))]) ?_).trans ?_
      · simp (disch := omega) [modD_i, hline]
      · simp (disch := omega) [fdivD_i]
    · intro x hx
      rcases List.mem_append.mp hx with hx | hx
      · exact hb x hx
      · simp at hx; omega
  · obtain ⟨r, hr, hr2⟩ := mixed_ok ns (0 + i)
    refine ⟨_, turn_nx rfl (e2 := [some (.v (scrD ns)), some (.v (.int m)), some (.v (.int w)), some (.own ((row ++ [r]).map .int)), some (.v (.int (0 + i)))]) ?_, row ++ [r], w, by omega, by simp [hl], ?_, by simp⟩
    · simp (disch := omega) [h, hline]
      have hr' : F__law_mixed [scrD ns, PyData.int ↑i] = some (PyData.int r) := by simpa using hr
      rw [hr']; rfl
    · intro x hx
      rcases List.mem_append.mp hx with hx | hx
      · exact hb x hx
      · simp at hx; subst hx; exact hr2
theorem row_ok (ns : List Int) (m : Nat) (hm : m ≤ 1000) : ∃ row : List Int, row.length = m ∧ (∀ x ∈ row, 0 ≤ x ∧ x < 1000003) ∧ F__law_row [scrD ns, .int m] = some (.list (row.map .int)) := by
  obtain ⟨v, hv, hE⟩ := row_head ns m
  suffices H : ∀ n : Nat, n ≤ m → ∃ (row : List Int) (w : Int), 0 ≤ w ∧ row.length = n ∧ (∀ x ∈ row, 0 ≤ x ∧ x < 1000003) ∧ forL (gN 4) (
  sIf (t1 isB (e2 gtD (eVar 2) (eC (.int 0)))) (sSeq (sApp 3 (e2 modD (eA intD (aCons (eVar 2) aNil)) (eC (.int 1000)))) <|
  sSet 2 (xV (e2 fdivD (eVar 2) (eC (.int 1000))))) (sApp 3 (eA F__law_mixed (aCons (eVar 0) (aCons (eVar 4) aNil))))) [4] (rngD 0 n) [some (.v (scrD ns)), some (.v (.int m)), some (.v (.int v)), some (.own []), none] = some (.nx [some (.v (scrD ns)), some (.v (.int m)), some (.v (.int w)), some (.own (row.map .int)), none]) by
    obtain ⟨row, w, hw, hl, hb, hF⟩ := H m (Nat.le_refl m)
    refine ⟨row, hl, hb, runD_rt rfl ?_⟩
    unfold den__law_row
    refine (sSeq_nx (e := [some (.v (scrD ns)), some (.v (.int m)), some (.v (.int 0)), none, none]) rfl).trans ?_
    refine (sSeq_nx hE).trans ?_
    refine (sSeq_nx (e := [some (.v (scrD ns)), some (.v (.int m)), some (.v (.int v)), some (.own []), none]) (by simp)).trans ?_
    refine (sSeq_nx (e := [some (.v (scrD ns)), some (.v (.int m)), some (.v (.int w)), some (.own (row.map .int)), none]) ?_).trans ?_
    · refine (sFor_of (ds := rngD 0 m) ?_).trans hF
      simp only [nA_ap, aCons_ap, aNil_ap, eVar_s, eVar_z, Option.bind_some]
      exact rg1_n (by omega)
    · rfl
  exact row_loop ns m hm v hv

/-- is an int: what isinstance says -/
@[simp] theorem isi_int_i {a : Int} : isiD' "int" (.int a) = some (.bool true) := id rfl
@[simp] theorem isi_bool_i {a : Int} : isiD' "bool" (.int a) = some (.bool false) := id rfl
@[simp] theorem isi_tup_i {a : Int} : isiD' "tuple" (.int a) = some (.bool false) := id rfl
@[simp] theorem isi_str_i {a : Int} : isiD' "str" (.int a) = some (.bool false) := id rfl
@[simp] theorem isi_bool_b {a : Bool} : isiD' "bool" (.bool a) = some (.bool true) := id rfl
@[simp] theorem isi_bool_t {xs : List D} : isiD' "bool" (.tuple xs) = some (.bool false) := id rfl
@[simp] theorem isi_tup_t {xs : List D} : isiD' "tuple" (.tuple xs) = some (.bool true) := id rfl
@[simp] theorem isi_bool_s {x : Str} : isiD' "bool" (.str x) = some (.bool false) := id rfl
@[simp] theorem isi_tup_s {x : Str} : isiD' "tuple" (.str x) = some (.bool false) := id rfl
@[simp] theorem isi_str_s {x : Str} : isiD' "str" (.str x) = some (.bool true) := id rfl
theorem is_int_i (a : Int) : F__law_is_int [.int a] = some (.bool true) := by
  refine runD_rt rfl (show den__law_is_int [some (.v (.int a))] = _ from ?_)
  simp [den__law_is_int]
/-- data that _law_like walks: no lists, no dicts, tuples not too long -/
def tl : Nat → D → Bool
  | _, .none => true
  | _, .bool _ => true
  | _, .int _ => true
  | _, .str x => PyData.strOk x
  | 0, _ => false
  | n + 1, .tuple xs => decide (xs.length ≤ 100000) && xs.all (tl n)
  | _, .list _ => false
  | _, .dict _ => false
@[simp] theorem tl_i {n : Nat} {a : Int} : tl n (.int a) = true := by cases n <;> rfl
@[simp] theorem tl_b {n : Nat} {a : Bool} : tl n (.bool a) = true := by cases n <;> rfl
@[simp] theorem tl_n {n : Nat} : tl n .none = true := by cases n <;> rfl
theorem tl_t {n : Nat} {xs : List D} (h : xs.length ≤ 100000) (h2 : ∀ x ∈ xs, tl n x = true) : tl (n + 1) (.tuple xs) = true := by
  show (decide _ && xs.all (tl n)) = true
  rw [decide_eq_true h, List.all_eq_true.mpr h2]; rfl
theorem tl_ints {n : Nat} {ns : List Int} (h : ns.length ≤ 100000) : tl (n + 1) (.tuple (ns.map .int)) = true := tl_t (by rw [List.length_map]; exact h) fun x hx => by
  obtain ⟨a, _, rfl⟩ := List.mem_map.mp hx; simp
theorem rng_eq (n : Nat) : rngD 0 n = (List.range n).map fun i : Nat => PyData.int (i : Int) := by
  apply List.ext_getElem?
  intro i
  by_cases h : i < n
  · rw [rngD_get 0 h, List.getElem?_map, List.getElem?_range h]; simp
  · rw [List.getElem?_eq_none (by rw [rngD_length]; omega), List.getElem?_eq_none (by simp; omega)]
theorem like_refl : ∀ (n f : Nat) (d : D), n < f → tl n d = true → F__law_like f [d, d] = some (.bool true)
  | _, 0, _, h, _ => by omega
  | n, f + 1, d, h, ht => by
    refine runD_rt rfl (show den__law_like (F__law_like f) [some (.v d), some (.v d), none] = _ from ?_)
    unfold den__law_like
    cases d with
    | none => exact sSeq_rt (by simp)
    | bool b =>
      refine (sSeq_nx (by simp; rfl)).trans ?_
      refine (sSeq_rt (d := .bool true) ?_)
      simp [eqD_self (gd_b (n := 0))]
    | int i =>
      refine (sSeq_nx (by simp; rfl)).trans ?_
      refine (sSeq_nx (by simp; rfl)).trans ?_
      refine (sSeq_nx (by simp; rfl)).trans ?_
      refine (sSeq_nx (by simp; rfl)).trans ?_
      simp [is_int_i]
    | str x =>
      have hx : PyData.strOk x = true := by cases n <;> simpa [tl] using ht
      refine (sSeq_nx (by simp [isNonD]; rfl)).trans ?_
      refine (sSeq_nx (by simp; rfl)).trans ?_
      refine (sSeq_nx (by simp; rfl)).trans ?_
      refine (sSeq_rt (d := .bool true) ?_)
      simp [eqD_self (n := 0) (d := .str x) hx]
    | tuple xs =>
      cases n with
      | zero => simp [tl] at ht
      | succ n =>
        have ht : xs.length ≤ 100000 ∧ ∀ x ∈ xs, tl n x = true := by simpa [tl] using ht
        refine (sSeq_nx (by simp; rfl)).trans ?_
        refine (sSeq_nx (by simp; rfl)).trans ?_
        refine (sSeq_rt (d := .bool true) ?_)
        refine (sIf_t (by simp)).trans ?_
        have hline : xs.length ≤ line := Nat.le_trans ht.1 (by decide)
        have hlc : nLc [2] (nA rg1 (aCons (eA lenD (aCons (eVar 1) aNil)) aNil)) (gN 2) tTrue (eA (F__law_like f) (aCons (e2 ixD (eVar 0) (eVar 2)) (aCons (e2 ixD (eVar 1) (eVar 2)) aNil))) [some (.v (.tuple xs)), some (.v (.tuple xs)), none] = some ((List.range xs.length).map fun _ => PyData.bool true) := by
          refine nLc_rng (lo := 0) ?_ hline ?_
          · simp only [nA_ap, aCons_ap, aNil_ap, eA_ap, eVar_s, eVar_z, Option.bind_some, lenD_t]
            exact rg1_n (by omega)
          · intro k hk
            refine ⟨_, rfl, rfl, ?_⟩
            have hx : ixD (.tuple xs) (.int (0 + (k : Int))) = some xs[k] := by
              rw [Int.zero_add, ixD_t]; exact atI_nat (List.getElem?_eq_getElem hk)
            simp only [eA_ap, aCons_ap, aNil_ap, e2_ap, eVar_s, eVar_z, st_s, st_z, fgs_c, fgs_n, Option.bind_some, hx]
            exact like_refl n f _ (by omega) (ht.2 _ (List.getElem_mem hk))
        refine (sSeq_nx (by simp; rfl)).trans ?_
        rw [sRet_ap, eA_ap, aCons_ap, eLst_ap, hlc]
        have he : (List.range xs.length).map (fun _ => PyData.bool true) = ((List.range xs.length).map fun _ => true).map PyData.bool := by rw [List.map_map]; rfl
        rw [he]
        simp only [Option.map_some, Option.bind_some, aNil_ap, allD_l]
        congr 3
        simp
    | list xs => cases n <;> simp [tl] at ht
    | dict kvs => cases n <;> simp [tl] at ht
end PVL
end

section
set_option maxRecDepth 100000
set_option maxHeartbeats 4000000
namespace PV
open PySem PySem.Spec PyProof.Rows L2
/-- the members of a list, each once -/
def dd : List Int → List Int
  | [] => []
  | x :: r => if x ∈ r then dd r else x :: dd r
theorem dd_mem {x : Int} : ∀ {l : List Int}, x ∈ dd l ↔ x ∈ l
  | [] => Iff.rfl
  | y :: r => by
    have ih := dd_mem (x := x) (l := r)
    show x ∈ (if y ∈ r then dd r else y :: dd r) ↔ _
    by_cases h : y ∈ r
    · rw [if_pos h, ih, List.mem_cons]
      exact ⟨Or.inr, fun o => o.elim (fun e => e ▸ h) id⟩
    · rw [if_neg h, List.mem_cons, List.mem_cons, ih]
theorem dd_nodup : ∀ l : List Int, (dd l).Nodup
  | [] => List.nodup_nil
  | y :: r => by
    show (if y ∈ r then dd r else y :: dd r).Nodup
    by_cases h : y ∈ r
    · rw [if_pos h]; exact dd_nodup r
    · rw [if_neg h, List.nodup_cons]; exact ⟨fun c => h (dd_mem.mp c), dd_nodup r⟩
theorem nodup_le : ∀ {l m : List Int}, l.Nodup → (∀ x ∈ l, x ∈ m) → l.length ≤ m.length
  | [], _, _, _ => Nat.zero_le _
  | x :: r, m, h, s => by
    rw [List.nodup_cons] at h
    have hx : x ∈ m := s x (by simp)
    have := nodup_le (l := r) (m := m.erase x) h.2 fun y hy => (List.mem_erase_of_ne (fun e : y = x => h.1 (by rw [← e]; exact hy))).mpr (s y (by simp [hy]))
    rw [List.length_erase_of_mem hx] at this
    have : 0 < m.length := List.length_pos_of_mem hx
    show r.length + 1 ≤ m.length
    omega
theorem nodup_len {l m : List Int} (h : l.Nodup) (h2 : m.Nodup) (e : ∀ x, x ∈ l ↔ x ∈ m) : l.length = m.length :=
  Nat.le_antisymm (nodup_le h fun x hx => (e x).mp hx) (nodup_le h2 fun x hx => (e x).mpr hx)
theorem fm_spec (f : Nat → Int) : ∀ i, (PyProof.Rows.firstMet f i).Nodup ∧ ∀ x, x ∈ PyProof.Rows.firstMet f i ↔ ∃ j, j < i ∧ f j = x
  | 0 => ⟨List.nodup_nil, fun x => ⟨fun h => (nomatch h), fun ⟨j, h, _⟩ => by omega⟩⟩
  | i + 1 => by
    obtain ⟨h1, h2⟩ := fm_spec f i
    rw [PyProof.Rows.firstMet_succ]
    show (if (PyProof.Rows.firstMet f i).any (· == f i) = true then PyProof.Rows.firstMet f i else PyProof.Rows.firstMet f i ++ [f i]).Nodup ∧ ∀ x, x ∈ (if (PyProof.Rows.firstMet f i).any (· == f i) = true then PyProof.Rows.firstMet f i else PyProof.Rows.firstMet f i ++ [f i]) ↔ _
    have ha : ((PyProof.Rows.firstMet f i).any (· == f i)) = true ↔ f i ∈ PyProof.Rows.firstMet f i := by
      rw [List.any_eq_true]
      exact ⟨fun ⟨y, hy, e⟩ => eq_of_beq e ▸ hy, fun h => ⟨_, h, beq_self_eq_true _⟩⟩
    by_cases h : f i ∈ PyProof.Rows.firstMet f i
    · rw [if_pos (ha.mpr h)]
      refine ⟨h1, fun x => (h2 x).trans ⟨fun ⟨j, hj, e⟩ => ⟨j, by omega, e⟩, fun ⟨j, hj, e⟩ => ?_⟩⟩
      by_cases hji : j = i
      · subst hji; subst e; exact (h2 _).mp h
      · exact ⟨j, by omega, e⟩
    · rw [if_neg fun c => h (ha.mp c)]
      refine ⟨?_, fun x => ?_⟩
      · rw [List.nodup_append]
        refine ⟨h1, by simp, fun a ha b hb => ?_⟩
        simp at hb; subst hb
        exact fun e => h (e ▸ ha)
      · rw [List.mem_append, h2 x]
        constructor
        · rintro (⟨j, hj, e⟩ | e)
          · exact ⟨j, by omega, e⟩
          · simp at e; exact ⟨i, by omega, e.symm⟩
        · rintro ⟨j, hj, e⟩
          by_cases hji : j = i
          · subst hji; exact Or.inr (by simp [e])
          · exact Or.inl ⟨j, by omega, e⟩
theorem fm_len (ns : List Int) : (PyProof.Rows.firstMet (fun i => ns.getD i 0) ns.length).length = (dd ns).length := by
  obtain ⟨h1, h2⟩ := fm_spec (fun i => ns.getD i 0) ns.length
  refine nodup_len h1 (dd_nodup ns) fun x => (h2 x).trans (Iff.trans ?_ dd_mem.symm)
  rw [List.mem_iff_getElem?]
  constructor
  · rintro ⟨j, hj, e⟩
    refine ⟨j, ?_⟩
    rw [List.getElem?_eq_getElem hj, ← e, List.getD_eq_getElem?_getD, List.getElem?_eq_getElem hj]; rfl
  · rintro ⟨j, e⟩
    have hj := (List.getElem?_eq_some_iff.mp e).1
    exact ⟨j, hj, by rw [List.getD_eq_getElem?_getD, e]; rfl⟩
def tLenSetG (K : PySem.W.Frag) (ta : TE) : TE := fun σ H Q => ta σ H fun x H1 => ∃ (l : Addr) (ns : List Int), x = .ref l ∧ (SqL K H1 l (ns.map V.int) ∨ SqT K H1 l (ns.map V.int)) ∧ ns.length ≤ 4000 ∧ Q (.int ((dd ns).length : Nat)) H1
theorem pe_lenSetG {X : Cx} {a : Expr} {ta : TE} {p p2 q pos : Pos} (hg : Gl X "len") (hm : X.mg "len" = none) (hg2 : Gl X "set") (hm2 : X.mg "set" = none) (ha : PE X a ta) (hc : X.calm = true := by rfl)
    (na : starEach [a] X.env = (false, eval a X.env) :: starEach [] X.env := by rfl) : PE X (.Call (.Name "len" p) [.Call (.Name "set" p2) [a] [] q] [] pos) (tLenSetG X.K ta) := by
  refine ⟨fun pins s σ H Q I h => ?_⟩
  refine Call_ (ld_blt I hg hm boot_len ?_)
  refine PyProof.Rows.callWith_builtin1 (PyProof.Rows.args_cons ?_ rfl) rfl rfl
  refine Call_ (ld_blt I hg2 hm2 boot_set ?_)
  refine PyProof.Rows.callWith_type1 (PyProof.Rows.args_cons (thn (ha.run pins s σ H _ I h) fun v s1 ⟨x, H1, I1, r1, q1⟩ => PyProof.Rows.args_nil ?_) na) na rfl
  obtain ⟨l, ns, rfl, hq, hl, q1⟩ := q1
  cases r1
  rcases hq with hq | hq
  · obtain ⟨its, r, pl, hz⟩ := I1.list hq
    have hlen : its.toArray.size = ns.length := by rw [List.size_toArray, ← r.length, List.length_map]
    refine call_set_list (I1.ok.hd hc) pl.isList (by simpa using RZ.intsAre_vals r) (by rw [hlen]; unfold scanBound; omega) fun h' tk hS hk => ?_
    refine PyProof.Rows.args_nil ?_
    rw [hlen] at hS
    obtain ⟨o, es, ep, t, ho, hex, hd, _, _, _, hf, hn⟩ := hS
    rw [fm_len] at hn
    have hle := nodup_le (dd_nodup ns) (m := ns) fun x hx => dd_mem.mp hx
    have I2 : Inv X pins σ H1 { s1 with heap := h', toks := tk } := I1.kept fun b o e => hk b o (Heap.lt_size e) e
    exact call_len_set ho hex hd hf (by rw [hn] <;> omega) ⟨.int (dd ns).length, H1, I2.tok _, ⟨_, by rw [hn]⟩, q1⟩
  · obtain ⟨its, rv, pt, hz⟩ := I1.tuple hq
    have hi : IntsAre its.toArray.toList ns := ints_of_vals rv
    refine call_set_tupI ns (I1.ok.hd hc) (show s1.heap.IsTuple l its.toArray from pt) hi (by unfold scanBound; omega) fun h' tk c R1 hcn k => ?_
    refine PyProof.Rows.args_nil ?_
    obtain ⟨o, es, ep, t, ho, hex, hd, g, nd, hm3, hb, hf, hn, hr, hl2⟩ := R1
    have hle := nodup_le (dd_nodup ns) (m := ns) fun x hx => dd_mem.mp hx
    have hn2 : es.size = (dd ns).length := by
      have := nodup_len nd (dd_nodup ns) fun x => (hm3 x).symm.trans (by rw [decide_eq_true_eq]; exact dd_mem.symm)
      rw [List.length_map, Array.length_toList] at this
      exact this
    have I2 : Inv X pins σ H1 { s1 with heap := h', toks := tk } := I1.kept k
    exact call_len_set ho hex hd hf (by rw [hn2] <;> omega) ⟨.int (dd ns).length, H1, I2.tok _, ⟨_, by rw [hn2]⟩, q1⟩
def lensetD : D → Option D
  | .list ds => (ints? ds).bind fun ns => if ns.length ≤ 4000 then some (.int ((dd ns).length : Nat)) else none
  | .tuple ds => (ints? ds).bind fun ns => if ns.length ≤ 4000 then some (.int ((dd ns).length : Nat)) else none
  | _ => none
theorem vlenset {X : Cx} {a : Expr} {da : Ev → Option D} {p p2 q pos : Pos} (ha : PVB X a da) (hm : X.mg "len" = none) (hm2 : X.mg "set" = none) (hg : Gl X "len" := by rfl) (hg2 : Gl X "set" := by rfl) (hc : X.calm = true := by rfl)
    (na : starEach [a] X.env = (false, eval a X.env) :: starEach [] X.env := by rfl) : PVE X (.Call (.Name "len" p) [.Call (.Name "set" p2) [a] [] q] [] pos) (e1 lensetD da) :=
  PE.imp (pe_lenSetG hg hm hg2 hm2 ha hc na) fun σ H Q ⟨H0, F0, env, F, z, rl, ed, k⟩ => by
    obtain ⟨d, h1, ed⟩ := Option.bind_eq_some_iff.mp ed
    refine ⟨H0, F0, env, F, d, rl, h1, fun y F1 H1 g1 b1 => ?_⟩
    unfold lensetD at ed; split at ed
    · obtain ⟨ns, h2, ed⟩ := Option.bind_eq_some_iff.mp ed
      obtain ⟨h3, rfl⟩ := ite_some ed
      obtain rfl := ints_some h2
      obtain ⟨a, vs, rfl, ha, va⟩ := b1.lst g1.sub
      obtain rfl := DvA.ints_inv va
      exact ⟨a, ns, rfl, .inl (SqL.of ha), h3, k _ F1 H1 g1 (.int _)⟩
    · obtain ⟨ns, h2, ed⟩ := Option.bind_eq_some_iff.mp ed
      obtain ⟨h3, rfl⟩ := ite_some ed
      obtain rfl := ints_some h2
      obtain ⟨a, vs, rfl, ha, fa, va⟩ := b1.tup g1.sub
      obtain rfl := DvA.ints_inv va
      exact ⟨a, ns, rfl, .inr (SqT.of ha), h3, k _ F1 H1 g1 (.int _)⟩
    · cases ed
@[simp] theorem lensetD_l {ns : List Int} (h : ns.length ≤ 4000) : lensetD (.list (ns.map .int)) = some (.int ((dd ns).length : Nat)) := by
  show (ints? _).bind _ = _
  rw [ints_map]; exact if_pos h
@[simp] theorem lensetD_t {ns : List Int} (h : ns.length ≤ 4000) : lensetD (.tuple (ns.map .int)) = some (.int ((dd ns).length : Nat)) := by
  show (ints? _).bind _ = _
  rw [ints_map]; exact if_pos h
end PV
end

section
set_option maxRecDepth 100000
set_option maxHeartbeats 4000000
namespace PV
open PySem PySem.Spec PyProof.Rows L2
/-! ### tuple[lo:hi:step], the step told as it stands -/
def pickL {α : Type} (xs : List α) (lo hi : Option Int) (st : Int) : List α :=
  (List.range (Builtin.Slice.slicePlaces (Builtin.Slice.sliceAdjust lo hi st (xs.length : Int)).1 (Builtin.Slice.sliceAdjust lo hi st (xs.length : Int)).2 st)).filterMap fun (k : Nat) => xs[((Builtin.Slice.sliceAdjust lo hi st (xs.length : Int)).1 + (k : Int) * st).toNat]?
section
variable {prog : Program} {w : World} {A : Around} {E : Value → Shared → Prop} {s : Shared}
theorem applied_step {sl : Addr} {vl vu vs : Value} {lo hi : Option Int} {st : Int} {n : Nat} {Q : Int × Int × Nat → Shared → Prop} (hs : s.heap.IsSliceOf sl vl vu vs) (pl : IsPart vl lo) (pu : IsPart vu hi) (ps : IsPart vs (some st)) (h0 : st ≠ 0)
    (h : Q ((Builtin.Slice.sliceAdjust lo hi st (n : Int)).1, st, Builtin.Slice.slicePlaces (Builtin.Slice.sliceAdjust lo hi st (n : Int)).1 (Builtin.Slice.sliceAdjust lo hi st (n : Int)).2 st) s) : wpAny (model prog w) A (Builtin.Slice.sliceApplied (.ref sl) (pure (n : Int))) Q E s := by
  obtain ⟨os, hos, hcs, hds⟩ := id hs
  unfold Builtin.Slice.sliceApplied Builtin.Slice.sliceFields
  refine wpAny_bind (wpAny_bind (wpAny_field hos hds (x := vl) rfl (wpAny_bind (wpAny_field hos hds (x := vu) rfl (wpAny_bind (wpAny_field hos hds (x := vs) rfl (wpAny_pure ?_)))))))
  refine wpAny_bind (HT.slicePart_ ps ?_)
  have hz : ¬ (((some st : Option Int).getD 1 == 0) = true) := by
    intro q; exact h0 (eq_of_beq q)
  rw [if_neg hz]
  refine wpAny_bind (HT.slicePart_ pl (wpAny_bind (HT.slicePart_ pu (wpAny_bind (wpAny_pure ?_)))))
  exact wpAny_pure h
theorem getItem_tuple_step {t sl : Addr} {items : Array Value} {vl vu vs : Value} {lo hi : Option Int} {st : Int} {Q : Value → Shared → Prop} (ht : PyProof.Rows.IsTup s.heap t items) (hs : s.heap.IsSliceOf sl vl vu vs) (pl : IsPart vl lo) (pu : IsPart vu hi) (ps : IsPart vs (some st)) (h0 : st ≠ 0) (h1 : st ≠ 1)
    (h : Q (.ref s.heap.objs.size) { s with heap := s.heap.push { cls := .type "tuple", data := .seq (pickL items.toList lo hi st).toArray } })
    (hsz : (pickL items.toList lo hi st).length ≤ sizeLine) : wpAny (model prog w) A (getItem (.ref t) (.ref sl)) Q E s := by
  have htake : sizeOk (.seq (pickL items.toList lo hi st).toArray) := by
    show (pickL items.toList lo hi st).toArray.size ≤ sizeLine
    rw [List.size_toArray]; exact hsz
  obtain ⟨os, hos, hcs, hds⟩ := id hs
  have hTs : s.TypeIs (.ref sl) "slice" := ⟨os, hos, hcs⟩
  unfold getItem
  try with_reducible refine wpAny_holding ?_
  first | refine wpAny_bind (wpAny_pure ?_) | skip
  refine wpAny_bind (wpAny_sequenceKey ht.typeIs (by decide) ?_)
  refine wpAny_bind (wpAny_callSpecial?_slot (name := Str.ofString "__getitem__") ht.typeIs PyProof.Rows.slot_tuple_getitem
    (wpAny_call_entry PyProof.Rows.slot_tuple_getitem ht.typeIs entry_tuple_getitem ?_ (args_tuple_getitem _ _)))
  show wpAny _ _ (Builtin.Tuple.tupleItemsOf (.ref t) >>= _) _ _ s
  refine wpAny_bind (tupleItemsOf_ ht ?_)
  refine wpAny_bind (wpAny_typeOf hTs ?_)
  rw [if_pos (by decide)]
  refine wpAny_bind (applied_step hs pl pu ps h0 ?_)
  generalize hl : Builtin.Slice.sliceAdjust lo hi st (items.size : Int) = p
  have hno : ¬ ((p.1 == 0 && st == 1 && Builtin.Slice.slicePlaces p.1 p.2 st == items.size) = true) := by
    intro q
    rw [Bool.and_eq_true, Bool.and_eq_true] at q
    exact h1 (eq_of_beq q.1.2)
  show wpAny _ _ (if (p.1 == 0 && st == 1 && Builtin.Slice.slicePlaces p.1 p.2 st == items.size) = true then _ else _) _ _ s
  rw [if_neg hno]
  have e : ((List.range (Builtin.Slice.slicePlaces p.1 p.2 st)).filterMap fun (k : Nat) => items[(p.1 + (k : Int) * st).toNat]?).toArray = (pickL items.toList lo hi st).toArray := by
    unfold pickL
    rw [Array.length_toList, hl]
    simp
  rw [e]
  first
    | exact wpAny_bind (m := Builtin.Tuple.tupleExact _) (wpAny_newObj_type (wpAny_pure ⟨_, rfl, wpAny_pure h⟩) htake)
    | exact wpAny_bind (m := Builtin.Tuple.tupleExact _) (wpAny_newObj_type (wpAny_bind (wpAny_pure (wpAny_pure ⟨_, rfl, wpAny_pure h⟩))) htake)
    | exact wpAny_bind (wpAny_bind (m := Builtin.Tuple.tupleExact _) (wpAny_newObj_type (wpAny_pure (wpAny_pure ⟨_, rfl, wpAny_pure h⟩)) htake))
    | exact wpAny_bind (wpAny_bind (m := Builtin.Tuple.tupleExact _) (wpAny_newObj_type (wpAny_pure ⟨_, rfl, wpAny_pure h⟩) htake))
end
theorem vals_at : ∀ {xs : List V} {us : List Value}, Vals xs us → ∀ j : Nat, (xs[j]? = none ∧ us[j]? = none) ∨ ∃ x u, xs[j]? = some x ∧ us[j]? = some u ∧ RelV x u
  | _, _, .nil, j => .inl ⟨rfl, rfl⟩
  | _, _, .cons r t, 0 => .inr ⟨_, _, rfl, rfl, r⟩
  | _, _, .cons r t, j + 1 => vals_at t j
theorem vals_pick {xs : List V} {us : List Value} (h : Vals xs us) (f : Nat → Nat) : ∀ js : List Nat, Vals (js.filterMap fun k => xs[f k]?) (js.filterMap fun k => us[f k]?)
  | [] => .nil
  | j :: r => by
    rcases vals_at h (f j) with ⟨h1, h2⟩ | ⟨x, u, h1, h2, h3⟩
    · simp only [List.filterMap_cons, h1, h2]; exact vals_pick h f r
    · simp only [List.filterMap_cons, h1, h2]; exact .cons h3 (vals_pick h f r)
theorem vals_pickL {xs : List V} {us : List Value} (h : Vals xs us) (lo hi : Option Int) (st : Int) : Vals (pickL xs lo hi st) (pickL us lo hi st) := by
  unfold pickL
  rw [h.length]
  exact vals_pick h _ _
theorem dva_pick {K : PySem.W.Frag} {F : Hp} {vs : List V} {ds : List D} (h : DvA K F vs ds) (f : Nat → Nat) : ∀ js : List Nat, DvA K F (js.filterMap fun k => vs[f k]?) (js.filterMap fun k => ds[f k]?)
  | [] => .nil
  | j :: r => by
    cases e : ds[f j]? with
    | none =>
      have e2 : vs[f j]? = none := by
        rw [List.getElem?_eq_none_iff] at e ⊢
        rw [DvA.length h]; exact e
      simp only [List.filterMap_cons, e, e2]; exact dva_pick h f r
    | some d =>
      obtain ⟨v, e2, e3⟩ := DvA.get h e
      simp only [List.filterMap_cons, e, e2]; exact .cons e3 (dva_pick h f r)
theorem dva_pickL {K : PySem.W.Frag} {F : Hp} {vs : List V} {ds : List D} (h : DvA K F vs ds) (lo hi : Option Int) (st : Int) : DvA K F (pickL vs lo hi st) (pickL ds lo hi st) := by
  unfold pickL
  rw [DvA.length h]
  exact dva_pick h _ _
def stepD (st : Int) : D → Option Int → Option Int → Option D
  | .tuple ds, lo, hi => if (pickL ds lo hi st).length ≤ line then some (.tuple (pickL ds lo hi st)) else none
  | _, _, _ => none
def tStep (K : PySem.W.Frag) (k : Int) (te : TE) (tl th : TO) : TE := fun σ H Q => te σ H fun x H1 => tl σ H1 fun l H2 => th σ H2 fun u H3 => ∃ a xs, x = .ref a ∧ SqT K H3 a xs ∧ (pickL xs l u k).length ≤ sizeLine ∧ ∀ p, H3 p = none → Q (.ref p) (upd H3 p (.tup (pickL xs l u k)))
theorem pe_step {X : Cx} {e se : Expr} {lo hi : Option Expr} {te ts : TE} {tl th : TO} {k : Int} {p2 pos : Pos} (h0 : k ≠ 0) (h1 : k ≠ 1) (he : PE X e te) (hl : PO X lo tl) (hu : PO X hi th) (hst : PE X se ts) (hk : ∀ σ H Q, Q (V.int k) H → ts σ H Q)
    (tl2 : ∀ (a sl : Addr) , subscripted (.Slice lo hi (some se) p2) false (.ref a) (.ref sl) = operate [.ref a, .ref sl] (getItem (.ref a) (.ref sl)) := by intros; with_unfolding_all rfl) :
    PE X (.Subscript e (.Slice lo hi (some se) p2) pos) (tStep X.K k te tl th) := by
  refine ⟨fun pins s σ H Q I h => ?_⟩
  refine Subscript_ (thn (he.run pins s σ H _ I h) fun v s1 ⟨x, H1, I1, r1, q1⟩ => ?_)
  refine wpAny_Slice (thn (hl.run pins s1 σ H1 _ I1 q1) fun vl s2 ⟨l, H2, I2, pl, q2⟩ => thn (hu.run pins s2 σ H2 _ I2 q2) fun vu s3 ⟨u, H3, I3, pu, q3⟩ => ?_)
  refine thn ((po_some hst).run pins s3 σ H3 (fun o H4 => o = some k ∧ H4 = H3) I3 (hk σ H3 _ ⟨k, rfl, rfl, rfl⟩)) fun vs s4 ⟨o, H4, I4, ps, eo, e4⟩ => ?_
  subst eo e4
  obtain ⟨a, xs, rfl, hx, hz, q⟩ := q3
  have I5 : Inv X pins σ H4 { s4 with heap := s4.heap.push { cls := .type "slice", data := .fields #[vl, vu, vs] } } := I4.kept (t' := s4.toks) fun b ob q => Heap.get?_push_of_some _ q
  cases r1
  obtain ⟨its, r, ht, hz2⟩ := I5.tuple hx
  show wpAny (model X.prog X.w) X.A (subscriptTail e (.Slice lo hi (some se) p2) (.ref a) (.ref s4.heap.objs.size)) (EP X pins σ Q) X.xe { s4 with heap := s4.heap.push { cls := .type "slice", data := .fields #[vl, vu, vs] } }
  refine tail_any (ops := [.ref a, .ref s4.heap.objs.size]) ht.typeIs PyProof.Rows.slot_tuple_getitem.lookup ?_ (tl2 _ _)
  have rp := vals_pickL r l u k
  refine getItem_tuple_step ht (Heap.IsSliceOf.new _ vl vu vs) pl pu ps h0 h1 ?_ (by rw [← show _ = _ from rp.length]; exact hz)
  refine ⟨.ref _, _, I5.laid (t' := s4.toks) (o := .tup (pickL xs l u k)) (fun b ob q => Heap.get?_push_of_some _ q) (Nat.le_refl _) ?_, rfl, q _ (I5.hok.fresh (Nat.le_refl _))⟩
  exact ⟨hz, _, rp, IsTup.new _ _⟩
theorem vstep {X : Cx} {a se : Expr} {lo hi : Option Expr} {da : Ev → Option D} {pl ph : Part} {ts : TE} {p2 pos : Pos} (k : Int) (ha : PVB X a da) (hl : PO X lo (rdP X.K pl)) (hu : PO X hi (rdP X.K ph)) (hst : PE X se ts) (hk : ∀ σ H Q, Q (V.int k) H → ts σ H Q) (h0 : k ≠ 0 := by decide) (h1 : k ≠ 1 := by decide)
    (tl2 : ∀ (a sl : Addr) , subscripted (.Slice lo hi (some se) p2) false (.ref a) (.ref sl) = operate [.ref a, .ref sl] (getItem (.ref a) (.ref sl)) := by intros; with_unfolding_all rfl) : PVE X (.Subscript a (.Slice lo hi (some se) p2) pos) (eSl (stepD k) da pl ph) :=
  PE.imp (pe_step h0 h1 ha hl hu hst hk tl2) fun σ H Q ⟨H0, F0, env, F, z, rl, ed, kk⟩ => by
    obtain ⟨d, h1, ed⟩ := Option.bind_eq_some_iff.mp ed
    obtain ⟨l, h2, ed⟩ := Option.bind_eq_some_iff.mp ed
    obtain ⟨h, h3, ed⟩ := Option.bind_eq_some_iff.mp ed
    refine ⟨H0, F0, env, F, d, rl, h1, fun x F1 H1 g1 b1 => ⟨H0, F0, env, F1, l, rl.grow g1, h2, fun F2 H2 g2 => ⟨H0, F0, env, F2, h, rl.grow (g1.trans g2), h3, fun F3 H3 g3 => ?_⟩⟩⟩
    unfold stepD at ed; split at ed
    · obtain ⟨hz, rfl⟩ := ite_some ed
      have b3 := b1.grow (g2.trans g3) g1.sub
      obtain ⟨a, vs, rfl, ha, fa, va⟩ := b3.tup g3.sub
      have vp := dva_pickL va l h k
      exact ⟨a, vs, rfl, SqT.of ha, by rw [DvA.length vp]; exact hz, fun p hp => kk _ _ _ (g1.trans (g2.trans (g3.trans (Grow.new g3.sub hp)))) (Dv.newTup (fnone g3.sub hp) vp)⟩
    · cases ed
theorem vstepP {X : Cx} {a : Expr} {lo hi : Option Expr} {da : Ev → Option D} {pl ph : Part} {k : Int} {p1 p2 pos : Pos} (ha : PVB X a da) (hl : PO X lo (rdP X.K pl)) (hu : PO X hi (rdP X.K ph)) (h0 : k ≠ 0 := by decide) (h1 : k ≠ 1 := by decide)
    (tl2 : ∀ (a sl : Addr) , subscripted (.Slice lo hi (some (.Constant (.int k) 0 p1)) p2) false (.ref a) (.ref sl) = operate [.ref a, .ref sl] (getItem (.ref a) (.ref sl)) := by intros; with_unfolding_all rfl) : PVE X (.Subscript a (.Slice lo hi (some (.Constant (.int k) 0 p1)) p2) pos) (eSl (stepD k) da pl ph) :=
  vstep k ha hl hu pe_int (fun σ H Q q => q) h0 h1 tl2

theorem vstepM {X : Cx} {a : Expr} {lo hi : Option Expr} {da : Ev → Option D} {pl ph : Part} {k : Int} {p1 p2 p3 pos : Pos} (ha : PVB X a da) (hl : PO X lo (rdP X.K pl)) (hu : PO X hi (rdP X.K ph)) (h0 : -k ≠ 0 := by decide) (h1 : -k ≠ 1 := by decide)
    (tl2 : ∀ (a sl : Addr) , subscripted (.Slice lo hi (some (.UnaryOp .USub (.Constant (.int k) 0 p1) p3)) p2) false (.ref a) (.ref sl) = operate [.ref a, .ref sl] (getItem (.ref a) (.ref sl)) := by intros; with_unfolding_all rfl) : PVE X (.Subscript a (.Slice lo hi (some (.UnaryOp .USub (.Constant (.int k) 0 p1) p3)) p2) pos) (eSl (stepD (-k)) da pl ph) :=
  vstep (-k) ha hl hu (pe_un un_neg pe_int) (fun σ H Q q => ⟨k, rfl, q⟩) h0 h1 tl2
/-! ### zip -/
theorem walk_zipT {K : PySem.W.Frag} {a b : Addr} {xs ys : List V} {n : Nat} (hn : n = min xs.length ys.length) : Walk (RZ.ItzT K a b) n (fun H => SqT K H a xs ∧ SqT K H b ys) (YPair (fun i => xs[i]?) (fun i => ys[i]?)) := by
  refine ⟨fun i _ hi q => ⟨xs, ys, xs[i]'(by omega), ys[i]'(by omega), q.1, q.2, by simp, by simp⟩, fun _ q => ⟨xs, ys, q.1, q.2, by omega⟩, fun i H v H' _ q y => ?_⟩
  obtain ⟨T, x, z, h1, h2, h3, h4, h5⟩ := y
  exact ⟨T, x, z, h1, h2, h3, h4 xs q.1, h5 ys q.2⟩
def zipL (xs ys : List D) : List D := (xs.zip ys).map fun p => .tuple [p.1, p.2]
theorem zipL_length (xs ys : List D) : (zipL xs ys).length = min xs.length ys.length := by simp [zipL]
theorem zipL_get {xs ys : List D} {i : Nat} {x y : D} (h1 : xs[i]? = some x) (h2 : ys[i]? = some y) : (zipL xs ys)[i]? = some (.tuple [x, y]) := by
  have h : (xs.zip ys)[i]? = some (x, y) := List.getElem?_zip_eq_some.mpr ⟨h1, h2⟩
  unfold zipL
  rw [List.getElem?_map, h]; rfl
def zipD : List D → Option (List D)
  | [.list xs, .list ys] => some (zipL xs ys)
  | [.tuple xs, .tuple ys] => some (zipL xs ys)
  | _ => none
section
variable {X : Cx} {a b : Expr} {p pos tpos : Pos} {elts : List Expr} {kk : Nat} {dr : Ev → Option (List D)}
theorem vi_zip (ha : PVA X [a, b] dr) (hm : X.mg "zip" = none) (hg : Gl X "zip" := by rfl) (hs : starEach [a, b] X.env = (false, eval a X.env) :: starEach [b] X.env := by rfl) (hpl : (backTo pos (starEach [b] X.env)).any (·.1) = false := by rfl) :
    PVI X (.Tuple elts kk tpos) (.Call (.Name "zip" p) [a, b] [] pos) (nA zipD dr) :=
  PI.imp (RZ.pi_zipA hg hm ha hs hpl) fun σ H R ⟨H0, F0, env, F, ds, rl, ed, k⟩ => by
    obtain ⟨d, h1, ed⟩ := Option.bind_eq_some_iff.mp ed
    unfold zipD at ed; split at ed <;> cases ed
    · refine ⟨H0, F0, env, F, _, rl, h1, fun xs F1 H1 g1 hd => ?_⟩
      cases hd with
      | cons hd ht =>
        cases ht with
        | cons hd2 ht =>
          cases ht
          cases hd with
          | @lst a vs _ q1 q2 =>
            cases hd2 with
            | @lst b us _ q3 q4 =>
              refine ⟨a, b, vs, us, rfl, .inl ⟨SqL.of (g1.sub _ _ q1), SqL.of (g1.sub _ _ q3), k _ F1 H1 g1 (WalkD.of (walk_zip rfl) (by rw [zipL_length, DvA.length q2, DvA.length q4]) (fun F H s1 s2 => ⟨SqL.of (s2 _ _ (s1 _ _ q1)), SqL.of (s2 _ _ (s1 _ _ q3))⟩) fun i F H x H' s1 s2 hi y => ?_)⟩⟩
              obtain ⟨T, v, u, e1, e2, e3, e4, e5⟩ := y
              have e4 : vs[i]? = some v := e4
              have e5 : us[i]? = some u := e5
              have hl := List.getElem?_eq_getElem (show i < _ by rw [← DvA.length q2]; omega)
              have hl2 := List.getElem?_eq_getElem (show i < _ by rw [← DvA.length q4]; omega)
              obtain ⟨v', e6, e7⟩ := DvA.get q2 hl
              obtain ⟨u', e8, e9⟩ := DvA.get q4 hl2
              rw [e6] at e4; cases e4
              rw [e8] at e5; cases e5
              obtain ⟨F', g, hv⟩ := pair_yld s2 e1 e2 e3 (Dv.mono s1 _ _ e7) (Dv.mono s1 _ _ e9)
              exact ⟨F', _, g, zipL_get hl hl2, hv⟩
    · refine ⟨H0, F0, env, F, _, rl, h1, fun xs F1 H1 g1 hd => ?_⟩
      cases hd with
      | cons hd ht =>
        cases ht with
        | cons hd2 ht =>
          cases ht
          cases hd with
          | @tup a vs _ q1 q2 =>
            cases hd2 with
            | @tup b us _ q3 q4 =>
              refine ⟨a, b, vs, us, rfl, .inr ⟨SqT.of (g1.sub _ _ q1), SqT.of (g1.sub _ _ q3), k _ F1 H1 g1 (WalkD.of (walk_zipT rfl) (by rw [zipL_length, DvA.length q2, DvA.length q4]) (fun F H s1 s2 => ⟨SqT.of (s2 _ _ (s1 _ _ q1)), SqT.of (s2 _ _ (s1 _ _ q3))⟩) fun i F H x H' s1 s2 hi y => ?_)⟩⟩
              obtain ⟨T, v, u, e1, e2, e3, e4, e5⟩ := y
              have e4 : vs[i]? = some v := e4
              have e5 : us[i]? = some u := e5
              have hl := List.getElem?_eq_getElem (show i < _ by rw [← DvA.length q2]; omega)
              have hl2 := List.getElem?_eq_getElem (show i < _ by rw [← DvA.length q4]; omega)
              obtain ⟨v', e6, e7⟩ := DvA.get q2 hl
              obtain ⟨u', e8, e9⟩ := DvA.get q4 hl2
              rw [e6] at e4; cases e4
              rw [e8] at e5; cases e5
              obtain ⟨F', g, hv⟩ := pair_yld s2 e1 e2 e3 (Dv.mono s1 _ _ e7) (Dv.mono s1 _ _ e9)
              exact ⟨F', _, g, zipL_get hl hl2, hv⟩
end
/-! ### x, y, z = a, b, c -/
def sPar3 (i j l : Nat) (dx dy dz : Ev → Option SV) : Ev → Option Out := fun env => (dx env).bind fun s => (dy env).bind fun t => (dz env).map fun u => .nx (st (st (st env i (some s)) j (some t)) l (some u))
section
variable {X : Cx} {a b c : Expr} {dx dy dz : Ev → Option SV} {pos : Pos}
def rdX3 (K : PySem.W.Frag) (dx dy dz : Ev → Option SV) : TA := fun σ H Q => ∃ H0 F0 env F s t u, Rel K H0 F0 env σ F H ∧ dx env = some s ∧ dy env = some t ∧ dz env = some u ∧
  ∀ x y z F1 H1 F2 H2 F3 H3, Grow F H F1 H1 → Grow F1 H1 F2 H2 → Grow F2 H2 F3 H3 → NRel K H F1 H1 x s → NRel K H1 F2 H2 y t → NRel K H2 F3 H3 z u → Q [x, y, z] H3
theorem va_x3 (ha : PVX X a dx) (hb : PVX X b dy) (hcc : PVX X c dz) (hs : starEach [a, b, c] X.env = (false, eval a X.env) :: starEach [b, c] X.env := by rfl) (hs2 : starEach [b, c] X.env = (false, eval b X.env) :: starEach [c] X.env := by rfl) (hs3 : starEach [c] X.env = (false, eval c X.env) :: starEach [] X.env := by rfl) : PA X [a, b, c] (rdX3 X.K dx dy dz) :=
  PA.imp (pa_cons ha (pa_cons hb (pa_cons hcc pa_nil hs3) hs2) hs) fun σ H Q ⟨H0, F0, env, F, s, t, u, rl, e1, e2, e3, k⟩ =>
    ⟨H0, F0, env, F, s, rl, e1, fun x F1 H1 g1 n1 => ⟨H0, F0, env, F1, t, rl.grow g1, e2, fun y F2 H2 g2 n2 => ⟨H0, F0, env, F2, u, rl.grow (g1.trans g2), e3, fun z F3 H3 g3 n3 => k x y z F1 H1 F2 H2 F3 H3 g1 g2 g3 n1 n2 n3⟩⟩⟩
theorem vs_par3 (i j l : Nat) {x y z : Str} {px py pz pt : Pos} {kt k2 pt2} (hc : X.calm = true) (hN : X.N.Nodup) (ha : PVX X a dx) (hb : PVX X b dy) (hcc : PVX X c dz) (hij : i ≠ j := by decide) (hil : i ≠ l := by decide) (hjl : j ≠ l := by decide) (hi : X.N[i]? = some x := by rfl) (hj : X.N[j]? = some y := by rfl) (hl : X.N[l]? = some z := by rfl)
    (hx : X.env.scope.names.lookup x = some .local := by rfl) (hy : X.env.scope.names.lookup y = some .local := by rfl) (hz : X.env.scope.names.lookup z = some .local := by rfl)
    (hsa : starEach [a, b, c] X.env = (false, eval a X.env) :: starEach [b, c] X.env := by rfl) (hsb : starEach [b, c] X.env = (false, eval b X.env) :: starEach [c] X.env := by rfl) (hsc : starEach [c] X.env = (false, eval c X.env) :: starEach [] X.env := by rfl)
    (hw : swappedStores [.Tuple [.Name x px, .Name y py, .Name z pz] kt pt] (.Tuple [a, b, c] k2 pt2) X.env = pure (some [x, y, z]) := by rfl)
    (hs : swapsWithSole [.Tuple [.Name x px, .Name y py, .Name z pz] kt pt] (.Tuple [a, b, c] k2 pt2) pos.line X.env = pure false := by rfl) :
    PVS X (.Assign [.Tuple [.Name x px, .Name y py, .Name z pz] kt pt] (.Tuple [a, b, c] k2 pt2) pos) (sPar3 i j l dx dy dz) := PS.imp (ps_par3 hc hN hi hj hl hij hil hjl hx hy hz (va_x3 ha hb hcc hsa hsb hsc) hw hs) fun D σ H ⟨H0, F0, env, F, o, rl, ed, k⟩ => by
  obtain ⟨s1, h1, ed⟩ := Option.bind_eq_some_iff.mp ed
  obtain ⟨s2, h2, ed⟩ := Option.bind_eq_some_iff.mp ed
  obtain ⟨s3, h3, h4⟩ := Option.map_eq_some_iff.mp ed
  subst h4
  refine ⟨H0, F0, env, F, s1, s2, s3, rl, h1, h2, h3, fun x y z F1 H1 F2 H2 F3 H3 g1 g2 g3 n1 n2 n3 => ⟨x, y, z, rfl, k _ F3 H3 ?_ (((g1.trans g2).trans g3).ff rl.sub)⟩⟩
  have r1 := (rl.grow g1).setX (F := F) rl.base rl.old n1 (i := i)
  have r2 : Rel X.K H0 F0 (st env i (some s1)) (σ.set i (some x)) F2 H2 := r1.grow g2
  have r3 : Rel X.K H0 F0 (st (st env i (some s1)) j (some s2)) ((σ.set i (some x)).set j (some y)) F3 H3 := (r2.setX (F := F1) r1.base r1.old n2).grow g3
  have r2' := r2.setX (F := F1) r1.base r1.old n2 (i := j)
  exact r3.setX (F := F2) r2'.base r2'.old n3
end
/-! ### range(a, b, c) -/
def rngC (lo c : Int) (n : Nat) : List D := (List.range n).map fun (k : Nat) => PyData.int (lo + (k : Int) * c)
theorem rngC_length (lo c : Int) (n : Nat) : (rngC lo c n).length = n := by unfold rngC; rw [List.length_map, List.length_range]
theorem rngC_get (lo c : Int) {n i : Nat} (h : i < n) : (rngC lo c n)[i]? = some (.int (lo + i * c)) := by
  unfold rngC; rw [List.getElem?_map, List.getElem?_range h]; rfl
theorem walk_rngC {K : PySem.W.Frag} {Fs : Hp} {lo c : Int} {n : Nat} : WalkD K Fs (Itc lo c n) (rngC lo c n) where
  go := fun i F H _ _ hi => by rw [rngC_length] at hi; exact hi
  stop := fun F H _ _ => by rw [rngC_length]; exact Nat.le_refl _
  yld := fun i F H x H' s1 s2 hi y => by
    rw [rngC_length] at hi
    obtain ⟨rfl, rfl⟩ := y
    exact ⟨F, _, Grow.refl s2, rngC_get lo c hi, .int _⟩
def rg3 : List D → Option (List D)
  | [.int i, .int j, .int c] => if c ≠ 0 ∧ c.natAbs < 1073741824 ∧ Builtin.Range.small i j c = true ∧ 0 ≤ Builtin.Range.rangeSize i j c then some (rngC i c (Builtin.Range.rangeSize i j c).toNat) else none
  | _ => none
theorem vi_rg3 {X : Cx} {a b c tg : Expr} {p pos : Pos} {dr : Ev → Option (List D)} (ha : PVAB X [a, b, c] dr) (hm : X.mg "range" = none) (hg : Gl X "range" := by rfl) (hs : starEach [a, b, c] X.env = (false, eval a X.env) :: starEach [b, c] X.env := by rfl) (hpl : (backTo pos (starEach [b, c] X.env)).any (·.1) = false := by rfl) : PVI X tg (.Call (.Name "range" p) [a, b, c] [] pos) (nA rg3 dr) :=
  PI.imp (pi_range3 hg hm ha hs hpl) fun σ H R ⟨H0, F0, env, F, ds, rl, ed, k⟩ => by
    obtain ⟨d, h1, ed⟩ := Option.bind_eq_some_iff.mp ed
    unfold rg3 at ed; split at ed
    · obtain ⟨⟨h2, h3, h4, h5⟩, rfl⟩ := ite_some ed
      refine ⟨H0, F0, env, F, _, rl, h1, fun xs F1 H1 g1 hd => ?_⟩
      cases hd with
      | cons hv ht =>
        obtain ⟨u, w, rfl, hu, hw⟩ := ht.two
        obtain rfl := hv.int
        obtain rfl := hu.int
        obtain rfl := hw.int
        exact ⟨_, _, _, _, rfl, ⟨h2, h3, h4, (Int.toNat_of_nonneg h5).symm⟩, k _ F1 H1 g1 walk_rngC⟩
    · cases ed
theorem rg3_if {i j c : Int} : rg3 [.int i, .int j, .int c] = if c ≠ 0 ∧ c.natAbs < 1073741824 ∧ Builtin.Range.small i j c = true ∧ 0 ≤ Builtin.Range.rangeSize i j c then some (rngC i c (Builtin.Range.rangeSize i j c).toNat) else none := rfl
theorem rg3_two {n : Nat} (h : n < 128) : rg3 [.int 0, .int (n : Int), .int 2] = some (rngC 0 2 ((n + 1) / 2)) := by
  have h1 : ∀ n, n < 128 → ((2 : Int) ≠ 0 ∧ (2 : Int).natAbs < 1073741824 ∧ Builtin.Range.small 0 (n : Nat) 2 = true ∧ 0 ≤ Builtin.Range.rangeSize 0 (n : Nat) 2) ∧ (Builtin.Range.rangeSize 0 (n : Nat) 2).toNat = (n + 1) / 2 := by decide +kernel
  obtain ⟨h2, h3⟩ := h1 n h
  rw [rg3_if, if_pos h2, h3]
end PV
end

section
set_option maxRecDepth 100000
set_option maxHeartbeats 4000000
namespace PV
open PySem PySem.Spec PyProof.Rows L2
/-! ### a dict at the module's top, ints to ints -/
def entOk (e : DictEntry) (kv : Int × Int) : Bool := (match e.key, e.val with
  | .int k _, .int v _ => decide (k = kv.1) && (decide (v = kv.2) && decide (e.hash = hashInt kv.1))
  | _, _ => false)
def entsOk : List DictEntry → List (Int × Int) → Bool
  | [], [] => true
  | e :: es, kv :: kvs => entOk e kv && entsOk es kvs
  | _, _ => false
theorem entOk_spec {e : DictEntry} {kv : Int × Int} (h : entOk e kv = true) : ∃ t t', e.key = .int kv.1 t ∧ e.val = .int kv.2 t' ∧ e.hash = hashInt kv.1 := by
  unfold entOk at h
  split at h
  · rename_i k t v t' h1 h2
    simp only [Bool.and_eq_true, decide_eq_true_eq] at h
    exact ⟨t, t', by rw [h1, h.1], by rw [h2, h.2.1], h.2.2⟩
  · cases h
theorem ents_keys {prog : Program} {w : World} : ∀ {es : List DictEntry} {kvs : List (Int × Int)}, entsOk es kvs = true → ∀ e ∈ es, ∃ k, (intKind prog w).is k e.key = true ∧ e.hash = (intKind prog w).hash k
  | [], _, _ => fun e he => nomatch he
  | e :: es, [], h => by cases h
  | e :: es, kv :: kvs, h => by
    have h' : entOk e kv = true ∧ entsOk es kvs = true := by simpa [entsOk] using h
    intro e' he
    rcases List.mem_cons.mp he with rfl | he
    · obtain ⟨t, t', h1, _, h3⟩ := entOk_spec h'.1
      exact ⟨kv.1, by rw [h1]; exact intKind_is _ _ _ _, h3⟩
    · exact ents_keys h'.2 e' he
theorem ents_find : ∀ {es : List DictEntry} {kvs : List (Int × Int)} {k v : Int}, entsOk es kvs = true → kvs.lookup k = some v → ∃ t, (es.find? fun d => Value.isInt k d.key).map (·.val) = some (.int v t)
  | [], [], _, _, _, h => by cases h
  | [], _ :: _, _, _, h, _ => by cases h
  | _ :: _, [], _, _, h, _ => by cases h
  | e :: es, kv :: kvs, k, v, h, hl => by
    have h' : entOk e kv = true ∧ entsOk es kvs = true := by simpa [entsOk] using h
    obtain ⟨t, t', h1, h2, h3⟩ := entOk_spec h'.1
    obtain ⟨a, b⟩ := kv
    by_cases hk : k = a
    · subst hk
      have hb : b = v := by simpa using hl
      subst hb
      refine ⟨t', ?_⟩
      rw [List.find?_cons_of_pos (by rw [h1]; exact beq_self_eq_true k)]
      simp only [Option.map_some, h2]
    · have hl2 : kvs.lookup k = some v := by
        rw [List.lookup_cons] at hl
        rwa [beq_eq_false_iff_ne.mpr hk] at hl
      obtain ⟨u, hu⟩ := ents_find h'.2 hl2
      refine ⟨u, ?_⟩
      rw [List.find?_cons_of_neg (by rw [h1]; intro q; exact hk (eq_of_beq q).symm)]
      exact hu
def KInt (K : PySem.W.Frag) (a : Addr) (kvs : List (Int × Int)) : Prop := ∃ es n, K.lookup a = some ⟨.type "dict", none, .dict es n, #[]⟩ ∧ entsOk es.toList kvs = true
theorem ix_kint {X : Cx} {kvs : List (Int × Int)} : IxR X (fun x y H Q => ∃ p k v, x = .ref p ∧ y = .int k ∧ KInt X.K p kvs ∧ kvs.lookup k = some v ∧ Q (.int v) H) := by
  intro value slice pins s σ H x y v u Q I rx ry h hs
  obtain ⟨p, k, r, rfl, rfl, ⟨es, n, hl, hk⟩, e, q⟩ := h
  obtain rfl : v = Value.ref p := rx
  obtain ⟨t, rfl⟩ := ry
  have hm : s.heap.MapOf (intKind X.prog X.w) p (fun k => findBy (intKind X.prog X.w).is es k) := ⟨_, es, n, I.kIn _ _ hl, ⟨rfl, rfl, rfl⟩, rfl, fun e he => ents_keys hk e (Array.mem_toList_iff.mpr he), fun _ => rfl⟩
  obtain ⟨t', hf⟩ := ents_find hk e
  have hf2 : findBy (intKind X.prog X.w).is es k = some (.int r t') := by
    obtain ⟨l⟩ := es
    unfold findBy
    rw [List.find?_toArray]
    exact hf
  exact tail_any hm.typeIs slot_dict_getitem.lookup (wpAny_getItem_of (intKind_is X.prog X.w k t) hm hf2 ⟨.int r, H, I.tok _, ⟨_, rfl⟩, q⟩) hs
/-- the constants of the module -/
def ConstOk (K : PySem.W.Frag) (mg : Str → Option Value) (x : Str) (kvs : List (Int × Int)) : Prop := ∃ p, mg x = some (.ref p) ∧ KInt K p kvs
def kD (kvs : List (Int × Int)) : D → Option D
  | .int k => (kvs.lookup k).map PyData.int
  | _ => none
theorem vk {X : Cx} {x : Str} {e : Expr} {de : Ev → Option D} {p pos : Pos} {kvs : List (Int × Int)} (C : ConstOk X.K X.mg x kvs) (he : PVB X e de) (hg : Gl X x := by rfl) (hs : PlainIx e := by exact fun _ _ => rfl) (hd : (x == ("__debug__" : Str)) = false := by decide) (hn : x ≠ "__name__" := by decide) : PVE X (.Subscript (.Name x p) e pos) (e1 (kD kvs) de) := by
  obtain ⟨a, hm, hK⟩ := C
  exact PE.imp (pe_ix (ix_kint (kvs := kvs)) (pe_glob (v := V.ref a) hg hm rfl (hd := hd)) he hs) fun σ H Q ⟨H0, F0, env, F, z, rl, ed, k⟩ => by
    obtain ⟨d, h1, ed⟩ := Option.bind_eq_some_iff.mp ed
    refine ⟨H0, F0, env, F, d, rl, h1, fun y F1 H1 g1 b1 => ?_⟩
    unfold kD at ed; split at ed
    · obtain ⟨v, h2, rfl⟩ := Option.map_eq_some_iff.mp ed
      obtain rfl := b1.int
      exact ⟨a, _, v, rfl, rfl, hK, h2, k _ F1 H1 g1 (.int _)⟩
    · cases ed
theorem kD_i {kvs : List (Int × Int)} {k v : Int} (h : kvs.lookup k = some v) : kD kvs (.int k) = some (.int v) := by
  show (kvs.lookup k).map _ = _
  rw [h]; rfl
/-! ### the hook with the constants -/
def cOk (K : PySem.W.Frag) (c : Str × List (Int × Int)) : Bool := (match PySem.W.nsIn K mainGlobals c.1 with
  | some (some (.ref a)) => (match K.lookup a with
    | some o => decide (o.cls = .type "dict") && (o.dict.isNone && (o.slots.isEmpty && (match o.data with
      | .dict es _ => entsOk es.toList c.2
      | _ => false)))
    | none => false)
  | _ => false)
def csOk (cs : List (Str × List (Int × Int))) (K : PySem.W.Frag) : Bool := cs.all (cOk K)
theorem cOk_spec {K : PySem.W.Frag} {h : Heap} {mg : Str → Option Value} (X : K.In h) (G : h.Ns mainGlobals mg) {x : Str} {kvs : List (Int × Int)} (c : cOk K (x, kvs) = true) : ConstOk K mg x kvs := by
  unfold cOk at c
  split at c
  · rename_i a hn
    split at c
    · rename_i o ho
      simp only [Bool.and_eq_true, decide_eq_true_eq] at c
      obtain ⟨c1, c2, c3, c4⟩ := c
      obtain ⟨oc, od, dt, osl⟩ := o
      simp only at c1 c2 c3 c4
      cases dt with
      | dict es n =>
        have e2 : od = none := by cases od with
          | none => rfl
          | some _ => cases c2
        have e3 : osl = #[] := by
          have : osl.isEmpty = true := c3
          rwa [Array.isEmpty_iff] at this
        subst c1 e2 e3
        exact ⟨a, PySem.W.mg_of X G hn, es, n, ho, c4⟩
      | _ => cases c4
    · cases c
  · cases c
def hookC (n : Nat) (fa : List He.Fa) (fn : List He.DefD) (cs : List (Str × List (Int × Int))) : PySem.W.Hook where
  α := He.AlD × Bool
  obs := fun s => (He.obsDG n fa fn s.heap.get?, csOk cs (He.frG s.heap.get? (He.asD s.heap.get? n)))
  val := fun _ => (He.valD fn, true)
  says := fun _ h => ∃ K : PySem.W.Frag, K.In h ∧ He.SaysD fa fn K ∧ csOk cs K = true
  of := fun _ _ e => ⟨_, He.frG_in, congrArg Prod.fst e, congrArg Prod.snd e⟩
  keeps := fun _ _ _ ⟨K, hK, c⟩ k => ⟨K, PySem.W.Frag.In.keeps hK k, c⟩
def obsC (n : Nat) (fa : List He.Fa) (fn : List He.DefD) (cs : List (Str × List (Int × Int))) (g : Addr → Option Obj) : He.AlD × Bool := (He.obsDG n fa fn g, csOk cs (He.frG g (He.asD g n)))
theorem obsC_eq {n : Nat} {fa : List He.Fa} {fn : List He.DefD} {cs : List (Str × List (Int × Int))} {g : Addr → Option Obj} {s : Shared} (h : ∀ a, g a = s.heap.get? a) : obsC n fa fn cs g = (hookC n fa fn cs).obs s := by
  have e : g = s.heap.get? := funext h
  rw [e] <;> rfl
end PV
end

section
namespace PVL
open PySem L2 PV
def sm : Nat → (Nat → Int) → Int
  | 0, _ => 0
  | n + 1, f => sm n f + f n
section
variable {n m : Nat} {f g : Nat → Int} {q : Int}
theorem sm_congr : ∀ {n : Nat}, (∀ j, j < n → f j = g j) → sm n f = sm n g
  | 0, _ => rfl
  | n + 1, h => by
    show sm n f + f n = sm n g + g n
    rw [sm_congr fun j hj => h j (by omega), h n (by omega)]
theorem sm_add : ∀ (n : Nat) (f g : Nat → Int), sm n (fun j => f j + g j) = sm n f + sm n g
  | 0, _, _ => rfl
  | n + 1, f, g => by simp only [sm]; rw [sm_add n f g]; omega
theorem sm_mul (c : Int) : ∀ (n : Nat) (f : Nat → Int), sm n (fun j => c * f j) = c * sm n f
  | 0, _ => by simp [sm]
  | n + 1, f => by simp only [sm]; rw [sm_mul c n f, Int.mul_add]
theorem sm_mulr (c : Int) (n : Nat) (f : Nat → Int) : sm n (fun j => f j * c) = sm n f * c := by
  rw [Int.mul_comm _ c, ← sm_mul]; exact sm_congr fun j _ => Int.mul_comm _ _
theorem sm_zero : ∀ n, sm n (fun _ => 0) = 0
  | 0 => rfl
  | n + 1 => by simp only [sm]; rw [sm_zero n]; rfl
theorem sm_comm (m : Nat) (f : Nat → Nat → Int) : ∀ n, sm n (fun i => sm m (fun j => f i j)) = sm m (fun j => sm n (fun i => f i j))
  | 0 => (sm_zero m).symm
  | n + 1 => by simp only [sm]; rw [sm_comm m f n, sm_add]
theorem sm_none : ∀ {n : Nat}, (∀ j, j < n → f j = 0) → sm n f = 0 := fun h => (sm_congr h).trans (sm_zero _)
theorem sm_single : ∀ {n k : Nat}, k < n → (∀ j, j < n → j ≠ k → f j = 0) → sm n f = f k
  | 0, _, h, _ => by omega
  | n + 1, k, hk, h => by
    show sm n f + f n = f k
    by_cases e : k = n
    · subst e
      rw [sm_none fun j hj => h j (by omega) (by omega)]; omega
    · rw [sm_single (k := k) (by omega) fun j hj hne => h j (by omega) hne, h n (by omega) (by omega)]; omega
theorem sm_first : ∀ (n : Nat) (f : Nat → Int), sm (n + 1) f = f 0 + sm n (fun j => f (j + 1))
  | 0, f => by simp [sm]
  | n + 1, f => by
    show sm (n + 1) f + f (n + 1) = _
    rw [sm_first n f]; simp only [sm]; omega
theorem sm_rot1 (n : Nat) (f : Nat → Int) : sm n (fun j => f ((j + 1) % n)) = sm n f := by
  cases n with
  | zero => rfl
  | succ m =>
    rw [sm_first m f]
    show sm m _ + f ((m + 1) % (m + 1)) = _
    rw [Nat.mod_self, sm_congr (g := fun j => f (j + 1)) fun j hj => by rw [Nat.mod_eq_of_lt (by omega)]]; omega
theorem sm_rot (n : Nat) (f : Nat → Int) : ∀ c, sm n (fun j => f ((j + c) % n)) = sm n f
  | 0 => sm_congr fun j hj => by rw [Nat.add_zero, Nat.mod_eq_of_lt hj]
  | c + 1 => by
    rw [← sm_rot n f c, ← sm_rot1 n fun j => f ((j + c) % n)]
    refine sm_congr fun j hj => ?_
    rw [Nat.mod_add_mod]; congr 2; omega
theorem sm_back : ∀ (n : Nat) (f : Nat → Int), sm n (fun j => f (n - 1 - j)) = sm n f
  | 0, _ => rfl
  | n + 1, f => by
    rw [sm_first]
    show f n + _ = sm n f + f n
    rw [← sm_back n f]
    have : sm n (fun j => f (n + 1 - 1 - (j + 1))) = sm n (fun j => f (n - 1 - j)) := sm_congr fun j hj => by congr 1; omega
    rw [this]; omega
theorem sum_map : ∀ (n : Nat) (f : Nat → Int), ((List.range n).map f).sum = sm n f
  | 0, _ => rfl
  | n + 1, f => by
    rw [List.range_succ, List.map_append, List.sum_append, sum_map n f]
    simp [sm]
/-- the same remainder -/
def cg (q a b : Int) : Prop := a % q = b % q
variable {a b c d : Int}
theorem cg.rfl : cg q a a := Eq.refl _
theorem cg.symm (h : cg q a b) : cg q b a := Eq.symm h
theorem cg.trans (h : cg q a b) (h2 : cg q b c) : cg q a c := Eq.trans h h2
theorem cg.of (h : a = b) : cg q a b := by rw [h]; exact cg.rfl
theorem cg.mod : cg q (a % q) a := Int.emod_emod_of_dvd _ (Int.dvd_refl q)
theorem cg.add (h : cg q a b) (h2 : cg q c d) : cg q (a + c) (b + d) := by
  unfold cg at *; rw [Int.add_emod, h, h2, ← Int.add_emod]
theorem cg.mul (h : cg q a b) (h2 : cg q c d) : cg q (a * c) (b * d) := by
  unfold cg at *; rw [Int.mul_emod, h, h2, ← Int.mul_emod]
theorem cg.pow (h : cg q a b) : ∀ k : Nat, cg q (a ^ k) (b ^ k)
  | 0 => by rw [Int.pow_zero, Int.pow_zero]; exact cg.rfl
  | k + 1 => by rw [Int.pow_succ, Int.pow_succ]; exact (cg.pow h k).mul h
theorem sm_cg : ∀ {n : Nat}, (∀ j, j < n → cg q (f j) (g j)) → cg q (sm n f) (sm n g)
  | 0, _ => cg.rfl
  | n + 1, h => (sm_cg fun j hj => h j (by omega)).add (h n (by omega))
theorem pow_cg {x : Int} (h : cg q (x ^ n) 1) (e : Nat) : cg q (x ^ e) (x ^ (e % n)) := by
  have e1 : x ^ e = (x ^ n) ^ (e / n) * x ^ (e % n) := by
    rw [← Int.pow_mul, ← Int.pow_add, Nat.div_add_mod]
  rw [e1]
  refine ((h.pow (e / n)).mul cg.rfl).trans ?_
  rw [Int.one_pow, Int.one_mul]; exact cg.rfl
theorem pow_cg2 {x : Int} (h : cg q (x ^ n) 1) {e e' : Nat} (he : e % n = e' % n) : cg q (x ^ e) (x ^ e') := by
  have h1 := pow_cg h e
  rw [he] at h1
  exact h1.trans (pow_cg h e').symm
theorem cg_eq (h : cg q a b) (h0 : 0 ≤ b) (h1 : b < q) : a % q = b := by
  unfold cg at h; rw [h]; exact Int.emod_eq_of_lt h0 h1
end
/-- the tuple of the numbers f 0, .., f (n - 1) -/
def tu (n : Nat) (f : Nat → Int) : D := .tuple ((List.range n).map fun i => .int (f i))
theorem tu_congr {n : Nat} {f g : Nat → Int} (h : ∀ j, j < n → f j = g j) : tu n f = tu n g := by
  unfold tu; congr 1
  exact List.map_congr_left fun j hj => by rw [h j (List.mem_range.mp hj)]
theorem tu_len {n : Nat} {f : Nat → Int} : lenD [tu n f] = some (.int n) := by simp [tu, lenD]
theorem tu_ix {n : Nat} {f : Nat → Int} {k : Nat} (h : k < n) : ixD (tu n f) (.int (k : Int)) = some (.int (f k)) := by
  show atI _ _ = _
  exact atI_nat (by rw [List.getElem?_map, List.getElem?_range h]; rfl)
theorem tu_ixI {n : Nat} {f : Nat → Int} {k : Int} (h0 : 0 ≤ k) (h : k < n) : ixD (tu n f) (.int k) = some (.int (f k.toNat)) := by
  have := tu_ix (f := f) (n := n) (k := k.toNat) (by omega)
  rwa [Int.toNat_of_nonneg h0] at this
theorem tu_tl {n : Nat} {f : Nat → Int} (m : Nat) (h : n ≤ 100000) : tl (m + 1) (tu n f) = true := tl_t (by simpa using h) fun x hx => by
  obtain ⟨a, _, rfl⟩ := List.mem_map.mp hx; simp
end PVL
end

section
set_option maxRecDepth 100000
set_option maxHeartbeats 4000000
namespace PVL
open PySem L2 PV
theorem rg1_at {n : Nat} {env : Ev} {i : Nat} (h : eVar i env = some (.int n)) (hn : n ≤ 1000000) : nA rg1 (aCons (eVar i) aNil) env = some (rngD 0 n) := by
  simp only [nA_ap, aCons_ap, aNil_ap, h, Option.bind_some]
  exact rg1_n (by omega)
theorem nA_of {f : List D → Option (List D)} {dr : Ev → Option (List D)} {env : Ev} {ds es : List D} (h : dr env = some ds) (h2 : f ds = some es) : nA f dr env = some es := by
  rw [nA_ap, h]; exact h2
theorem rg1_of {n : Nat} {env : Ev} {da : Ev → Option D} (h : da env = some (.int n)) (hn : n ≤ 1000000) : nA rg1 (aCons da aNil) env = some (rngD 0 n) := by
  simp only [nA_ap, aCons_ap, aNil_ap, h, Option.bind_some]
  exact rg1_n (by omega)
theorem le_line {n : Nat} (h : n ≤ 1000000) : n ≤ line := Nat.le_trans h (by decide)
theorem lt_line {n : Nat} (h : n ≤ 1000000) : n < line := Nat.lt_of_le_of_lt h (by decide)
theorem gate {da : Ev → Option D} {s : Ev → Option Out} {env : Ev} (h : da env = some (.bool true)) : sIf (tNo (t1 truD da)) s sNil env = some (.nx env) := by
  rw [sIf_f, sNil_ap]
  rw [tNo_ap, t1_ap, h]; rfl
theorem tNo_of {da : Ev → Option D} {env : Ev} (h : da env = some (.bool true)) : tNo (t1 truD da) env = some false := by
  rw [tNo_ap, t1_ap, h]; rfl
theorem tOr_ff {ta tb : Ev → Option Bool} {env : Ev} (h1 : ta env = some false) (h2 : tb env = some false) : tOr' ta tb env = some false := by
  rw [tOr_ap, h1]; exact h2
theorem tAn_f {ta tb : Ev → Option Bool} {env : Ev} (h1 : ta env = some false) : tAn ta tb env = some false := by
  rw [tAn_ap, h1]; rfl
theorem tAn_tf {ta tb : Ev → Option Bool} {env : Ev} {b : Bool} (h1 : ta env = some true) (h2 : tb env = some b) : tAn ta tb env = some b := by
  rw [tAn_ap, h1]; exact h2
theorem pass {ta : Ev → Option Bool} {s : Ev → Option Out} {env : Ev} (h : ta env = some false) : sIf ta s sNil env = some (.nx env) := by
  rw [sIf_f h, sNil_ap]
theorem like_ap {A B : Ev → Option D} {env : Ev} {d : D} (hA : A env = some d) (hB : B env = some d) (ht : tl 10 d = true) : eA (F__law_like 12) (aCons A (aCons B aNil)) env = some (.bool true) := by
  rw [eA_ap, aCons_ap, aCons_ap, hA, hB]
  exact like_refl 10 12 d (by decide) ht
theorem call1 {F : List D → Option D} {a : Ev → Option D} {env : Ev} {u z : D} (h1 : a env = some u) (h : F [u] = some z) : eA F (aCons a aNil) env = some z := by
  simp only [eA_ap, aCons_ap, aNil_ap, h1, Option.bind_some, h]
theorem call2 {F : List D → Option D} {a b : Ev → Option D} {env : Ev} {u v z : D} (h1 : a env = some u) (h2 : b env = some v) (h : F [u, v] = some z) : eA F (aCons a (aCons b aNil)) env = some z := by
  simp only [eA_ap, aCons_ap, aNil_ap, h1, h2, Option.bind_some, h]
theorem call3 {F : List D → Option D} {a b c : Ev → Option D} {env : Ev} {u v w z : D} (h1 : a env = some u) (h2 : b env = some v) (h3 : c env = some w) (h : F [u, v, w] = some z) : eA F (aCons a (aCons b (aCons c aNil))) env = some z := by
  simp only [eA_ap, aCons_ap, aNil_ap, h1, h2, h3, Option.bind_some, h]
theorem pair_ap {a b : Ev → Option D} {env : Ev} {u v : D} (h1 : a env = some u) (h2 : b env = some v) : eTup (aCons a (aCons b aNil)) env = some (.tuple [u, v]) := by
  simp only [eTup_ap, aCons_ap, aNil_ap, h1, h2, Option.bind_some]; rfl
theorem set_ap {i : Nat} {da : Ev → Option D} {env : Ev} {d : D} (h : da env = some d) : sSet i (xV da) env = some (.nx (st env i (some (.v d)))) := by
  rw [sSet_ap, xV_ap, h]; rfl
theorem ret_ap {da : Ev → Option D} {env : Ev} {d : D} (h : da env = some d) : sRet da env = some (.rt d) := by rw [sRet_ap, h]; rfl
/-- a comprehension over a range -/
theorem comp_r {elt : Ev → Option D} {da : Ev → Option D} {env : Ev} {v n : Nat} {f : Nat → D} (h1 : da env = some (.int n)) (hn : n ≤ 1000) (H : ∀ i : Nat, i < n → elt (st (st env v none) v (some (.v (.int (0 + i))))) = some (f i)) :
    nLc [v] (nA rg1 (aCons da aNil)) (gN v) tTrue elt env = some ((List.range n).map f) :=
  nLc_rng (lo := 0) (rg1_of h1 (by omega)) (le_line (by omega)) fun i hi => ⟨_, rfl, rfl, H i hi⟩
theorem ixN_last {n : Nat} (h : 0 < n) : ixN n (-1) = some (n - 1) := by
  unfold ixN
  rw [if_neg (by decide), if_pos (by omega)]
  congr 1; omega
theorem at_last {α : Type} {xs : List α} {a : α} : atI (xs ++ [a]) (-1) = some a := by
  unfold atI
  rw [ixN_last (by simp)]
  simp
theorem ixN_nat {n k : Nat} (h : k < n) : ixN n (k : Int) = some k := by
  unfold ixN
  rw [if_pos (by omega), if_pos (by omega)]; simp
theorem at_none {α : Type} {xs : List α} {k : Nat} {a : α} (h : xs[k]? = some a) : atI xs (k : Int) = some a := atI_nat h
/-- two fors in a comprehension -/
theorem lc2L_map {α β : Type} {tgt tgt1 : Tgt} {cond cond1 : Ev → Option Bool} {src1 : Ev → Option (List D)} {vs1 : List Nat} {elt : Ev → Option D} {f : α → D} {g : α → β → D} {zs : α → List β} {h : α → β → D} {env : Ev} :
    ∀ {xs : List α}, (∀ x ∈ xs, ∃ e1, tgt (f x) env = some e1 ∧ cond e1 = some true ∧ src1 e1 = some ((zs x).map (g x)) ∧ ∀ z ∈ zs x, ∃ e2, tgt1 (g x z) (fgs e1 vs1) = some e2 ∧ cond1 e2 = some true ∧ elt e2 = some (h x z)) →
      lc2L tgt cond src1 vs1 tgt1 cond1 elt (xs.map f) env = some (xs.flatMap fun x => (zs x).map (h x))
  | [], _ => rfl
  | x :: r, H => by
    obtain ⟨e1, h1, h2, h3, h4⟩ := H x (by simp)
    have ih := lc2L_map (tgt := tgt) (tgt1 := tgt1) (cond := cond) (cond1 := cond1) (src1 := src1) (vs1 := vs1) (elt := elt) (f := f) (g := g) (zs := zs) (h := h) (env := env) (xs := r) fun y hy => H y (by simp [hy])
    show (tgt (f x) env).bind _ = _
    rw [h1]
    show (cond e1).bind _ = _
    rw [h2]
    show (src1 e1).bind _ = _
    rw [h3]
    show (lcL tgt1 cond1 elt ((zs x).map (g x)) (fgs e1 vs1)).bind _ = _
    rw [lcL_map h4]
    show (lc2L tgt cond src1 vs1 tgt1 cond1 elt (r.map f) env).map _ = _
    rw [ih]; rfl
theorem nLc2_map {α β : Type} {vs : List Nat} {src : Ev → Option (List D)} {tgt tgt1 : Tgt} {cond cond1 : Ev → Option Bool} {src1 : Ev → Option (List D)} {vs1 : List Nat} {elt : Ev → Option D} {f : α → D} {g : α → β → D} {zs : α → List β} {h : α → β → D} {env : Ev} {xs : List α}
    (hs : src env = some (xs.map f)) (hl : (xs.flatMap fun x => (zs x).map (h x)).length ≤ line)
    (H : ∀ x ∈ xs, ∃ e1, tgt (f x) (fgs env vs) = some e1 ∧ cond e1 = some true ∧ src1 e1 = some ((zs x).map (g x)) ∧ ∀ z ∈ zs x, ∃ e2, tgt1 (g x z) (fgs e1 vs1) = some e2 ∧ cond1 e2 = some true ∧ elt e2 = some (h x z)) :
      nLc2 vs src tgt cond src1 vs1 tgt1 cond1 elt env = some (xs.flatMap fun x => (zs x).map (h x)) := by
  unfold nLc2
  rw [hs]
  show (lc2L tgt cond src1 vs1 tgt1 cond1 elt (xs.map f) (fgs env vs)).bind _ = _
  rw [lc2L_map H]
  exact if_pos hl
/-- a step of a loop over a list -/
theorem mem_get {α : Type} {xs : List α} {i : Nat} {x : α} (h : xs[i]? = some x) : x ∈ xs := List.mem_of_getElem? h
theorem take_snoc {α : Type} {xs : List α} {i : Nat} {x : α} (h : xs[i]? = some x) : xs.take (i + 1) = xs.take i ++ [x] := by
  rw [List.take_add_one, h]; rfl
/-! ### slices -/
theorem cut_to {α : Type} {xs : List α} {k : Nat} : cutL xs none (some (k : Int)) = xs.take k := by
  unfold cutL
  rw [HT.sIx_none, HT.sIx_nat, List.drop_zero, Nat.sub_zero]
  by_cases h : k ≤ xs.length
  · rw [Nat.min_eq_left h]
  · rw [Nat.min_eq_right (by omega), List.take_length, List.take_of_length_le (by omega)]
theorem cut_toI {α : Type} {xs : List α} {k : Int} (h : 0 ≤ k) : cutL xs none (some k) = xs.take k.toNat := by
  rw [← cut_to, Int.toNat_of_nonneg h]
theorem cut_from {α : Type} {xs : List α} {k : Nat} : cutL xs (some (k : Int)) none = xs.drop k := by
  unfold cutL
  rw [HT.sIx_none, HT.sIx_nat]
  by_cases h : k ≤ xs.length
  · rw [Nat.min_eq_left h, List.take_of_length_le (by rw [List.length_drop]; omega)]
  · rw [Nat.min_eq_right (by omega), Nat.sub_self, List.take_zero, List.drop_of_length_le (by omega)]
theorem cut_m1 {α : Type} {xs : List α} : cutL xs none (some (-1)) = xs.take (xs.length - 1) := by
  unfold cutL
  rw [HT.sIx_none]
  have : HT.sIx xs.length xs.length (some (-1)) = xs.length - 1 := by
    unfold HT.sIx
    simp only
    rw [if_pos (by decide)]; omega
  rw [this, List.drop_zero, Nat.sub_zero]
theorem cut_map {α β : Type} {f : α → β} {xs : List α} {lo hi : Option Int} : cutL (xs.map f) lo hi = (cutL xs lo hi).map f := by
  unfold cutL; simp [List.map_take, List.map_drop]
theorem pick_map {α β : Type} {f : α → β} {xs : List α} {lo hi : Option Int} {st : Int} : pickL (xs.map f) lo hi st = (pickL xs lo hi st).map f := by
  unfold pickL
  rw [List.length_map, List.map_filterMap]
  congr 1; funext k; rw [List.getElem?_map]
theorem fm_range {α : Type} : ∀ {m : Nat} {f : Nat → Option α} {ys : List α}, ys.length = m → (∀ k, k < m → f k = ys[k]?) → (List.range m).filterMap f = ys
  | 0, f, ys, hl, _ => by
    have : ys = [] := List.length_eq_zero_iff.mp hl
    subst this; rfl
  | m + 1, f, ys, hl, h => by
    rcases List.eq_nil_or_concat ys with e | ⟨g, a, e⟩
    · subst e; simp at hl
    · have e : ys = g ++ [a] := by simpa using e
      subst e
      have hg : g.length = m := by simpa using hl
      rw [List.range_succ, List.filterMap_append, fm_range (ys := g) hg fun k hk => by rw [h k (by omega), List.getElem?_append_left (by omega)]]
      have : f m = some a := by rw [h m (by omega), ← hg]; simp
      simp [this]
theorem pick_two {α : Type} {xs ys : List α} {lo : Option Int} {a : Nat} (ha : a ≤ 1) (hlo : lo = some (a : Int) ∨ lo = none ∧ a = 0) (hx : a ≤ xs.length) (hl : ys.length = (xs.length - a + 1) / 2) (h : ∀ k, k < ys.length → xs[a + 2 * k]? = ys[k]?) : pickL xs lo none 2 = ys := by
  have h1 : (Builtin.Slice.sliceAdjust lo none 2 (xs.length : Int)) = ((a : Int), (xs.length : Int)) := by
    unfold Builtin.Slice.sliceAdjust
    have hn : ¬ ((2 : Int) < 0) := by decide
    simp only [hn, if_false]
    refine Prod.ext ?_ rfl
    rcases hlo with rfl | ⟨rfl, rfl⟩
    · simp only
      rw [if_neg (by omega)]; omega
    · rfl
  unfold pickL
  rw [h1]
  have h2 : Builtin.Slice.slicePlaces (a : Int) (xs.length : Int) 2 = ys.length := by
    unfold Builtin.Slice.slicePlaces
    rw [if_pos (by decide)]
    split <;> omega
  show (List.range (Builtin.Slice.slicePlaces (a : Int) (xs.length : Int) 2)).filterMap _ = _
  rw [h2]
  refine fm_range rfl fun k hk => ?_
  rw [← h k hk]
  congr 1
  show ((a : Int) + (k : Int) * 2).toNat = _
  omega
/-! ### in, == of ints -/
theorem memD_ints {a : Int} {ns : List Int} : memD (.int a) (ns.map .int) = decide (a ∈ ns) := by
  unfold memD
  induction ns with
  | nil => simp
  | cons x r ih =>
    rw [List.map_cons, List.any_cons, ih]
    show ((x == a) || _) = _
    by_cases h : x = a
    · subst h; simp
    · have : ¬ a = x := fun e => h e.symm
      simp [h, this]
theorem inD_t {a : Int} {ns : List Int} : inD (.int a) (.tuple (ns.map .int)) = some (.bool (decide (a ∈ ns))) := by
  show (if _ then _ else _) = _
  rw [gd_okD (gd_i (n := 0) (a := a)), gd_okD (gd_lI (n := 0) (ns := ns)), memD_ints]; rfl
theorem inD_l {a : Int} {ns : List Int} : inD (.int a) (.list (ns.map .int)) = some (.bool (decide (a ∈ ns))) := by
  show (if _ then _ else _) = _
  rw [gd_okD (gd_i (n := 0) (a := a)), gd_okD (gd_lI (n := 0) (ns := ns)), memD_ints]; rfl
theorem eqD_tt {xs ys : List Int} : eqD (.tuple (xs.map .int)) (.tuple (ys.map .int)) = some (.bool (decide (xs = ys))) := by
  rw [eqD_of (gd_tI (n := 0)) (gd_tI (n := 0))]
  simp only [PyData.eqv, eqvAll_ints]
theorem neD_tt {xs ys : List Int} : neD (.tuple (xs.map .int)) (.tuple (ys.map .int)) = some (.bool (!decide (xs = ys))) := by
  rw [neD_of (gd_tI (n := 0)) (gd_tI (n := 0))]
  simp only [PyData.eqv, eqvAll_ints]
end PVL
end

section
set_option maxRecDepth 100000
set_option maxHeartbeats 4000000
namespace PV
open PySem PySem.Spec PyProof.Rows L2
/-! ### data in order: min, max, sorted; index, count -/
theorem DvA.getV {K : PySem.W.Frag} {F : Hp} : ∀ {vs : List V} {ds : List D} {i : Nat} {v : V}, DvA K F vs ds → vs[i]? = some v → ∃ d, ds[i]? = some d ∧ Dv K F v d
  | _, _, _, _, .nil, h => by simp at h
  | _, _, 0, v, .cons h1 _, h => by simp at h; subst h; exact ⟨_, rfl, h1⟩
  | _, _, i + 1, v, .cons _ t, h => by
    obtain ⟨d, e, q⟩ := DvA.getV (i := i) (v := v) t (by simpa using h)
    exact ⟨d, by simpa using e, q⟩
theorem ok_list {ds : List D} (h : okD (.list ds) = true) : PyData.canLayAll0 ds = true ∧ PyData.depthAll ds ≤ 63 := by
  have h1 := SeqAt.canLay_of_shaped h
  have h2 := SeqAt.depth_of_shaped h
  simp only [PyData.canLay0] at h1
  simp only [PyData.depth] at h2
  exact ⟨h1, by omega⟩
theorem canAll_mem : ∀ {ds : List D}, PyData.canLayAll0 ds = true → ∀ d ∈ ds, d.canLay0 = true
  | [], _, _, h => by cases h
  | e :: r, h, d, hd => by
    have h' : e.canLay0 = true ∧ PyData.canLayAll0 r = true := by simpa [PyData.canLayAll0] using h
    rcases List.mem_cons.mp hd with rfl | hd
    · exact h'.1
    · exact canAll_mem h'.2 d hd
theorem depth_mem : ∀ {ds : List D} {d : D}, d ∈ ds → d.depth ≤ PyData.depthAll ds
  | [], _, h => by cases h
  | e :: r, d, hd => by
    simp only [PyData.depthAll]
    rcases List.mem_cons.mp hd with rfl | hd
    · omega
    · have := depth_mem hd; omega
def alikeL (ds : List D) : Bool := ds.all fun x => ds.all fun y => PySem.W.alike x y
theorem alikeL_spec {ds : List D} (h : alikeL ds = true) : ∀ x ∈ ds, ∀ y ∈ ds, PySem.W.alike x y = true := fun x hx y hy => List.all_eq_true.mp (List.all_eq_true.mp h x hx) y hy
/-- the item that a value of the list stands for -/
theorem item_of {X : Cx} {pins : List (Addr × Obj)} {σ : L2.St} {H F : Hp} {s : Shared} (I : Inv X pins σ H s) (sb : Same F H) {vs : List V} {ds : List D} {its : List Value} (va : DvA X.K F vs ds) (rv : Vals vs its) (hal : ∀ x ∈ ds, ∀ y ∈ ds, PySem.W.alike x y = true)
    (hcl : PyData.canLayAll0 ds = true) {i : Nat} {v : Value} {z : D} {bs : List Addr} (hi : its[i]? = some v) (hz : z ∈ ds) (hr : Reads s.heap v z bs) : ∃ x, RelV x v ∧ Dv X.K F x z := by
  rcases vals_at rv i with ⟨_, h2⟩ | ⟨x, u, h1, h2, h3⟩
  · rw [hi] at h2; cases h2
  · rw [hi] at h2; cases h2
    obtain ⟨d, e, q⟩ := va.getV h1
    have hd := List.mem_of_getElem? e
    obtain ⟨as, r⟩ := Dp.reads I d x v (Dv.dp d x (canAll_mem hcl d hd) (Dv.mono sb _ _ q)) h3
    obtain rfl := PySem.W.alike_unique d z v as bs (hal d hd z hz) r hr
    exact ⟨x, h3, q⟩
def mmOk (ds : List D) : Bool := okD (.list ds) && alikeL ds && ds.all fun x => !isNonD x
theorem mmOk_spec {ds : List D} (h : mmOk ds = true) : PyData.canLayAll0 ds = true ∧ PyData.depthAll ds ≤ 63 ∧ PySem.W.AlikeAll ds := by
  simp only [mmOk, Bool.and_eq_true] at h
  obtain ⟨h1, h2⟩ := ok_list h.1.1
  refine ⟨h1, h2, alikeL_spec h.1.2, fun x hx e => ?_⟩
  have := List.all_eq_true.mp h.2 x hx
  subst e; simp [isNonD] at this
def leastD (x : D) (xs : List D) : D := xs.foldl (fun a y => if PySem.W.dataLt y a then y else a) x
def mostD (x : D) (xs : List D) : D := xs.foldl (fun a y => if PySem.W.dataLt a y then y else a) x
theorem pick_mem {p : D → D → Bool} : ∀ (xs : List D) (x : D), xs.foldl (fun a y => if p a y then y else a) x ∈ x :: xs
  | [], x => by simp
  | y :: r, x => by
    have := pick_mem (p := p) r (if p x y then y else x)
    rw [List.foldl_cons]
    split
    · rename_i h
      rw [if_pos h] at this
      exact List.mem_cons_of_mem _ this
    · rename_i h
      rw [if_neg h] at this
      rcases List.mem_cons.mp this with e | e
      · rw [e]; exact List.mem_cons_self
      · exact List.mem_cons_of_mem _ (List.mem_cons_of_mem _ e)
def minD : List D → Option D
  | [.int i, .int j] => some (.int (if j < i then j else i))
  | [.list (x :: xs)] => if mmOk (x :: xs) = true then some (leastD x xs) else none
  | [.tuple (x :: xs)] => if mmOk (x :: xs) = true then some (leastD x xs) else none
  | _ => none
def maxD : List D → Option D
  | [.int i, .int j] => some (.int (if j > i then j else i))
  | [.list (x :: xs)] => if mmOk (x :: xs) = true then some (mostD x xs) else none
  | [.tuple (x :: xs)] => if mmOk (x :: xs) = true then some (mostD x xs) else none
  | _ => none
theorem ite_some2 {α : Type} {c : Prop} [Decidable c] {a b : α} (h : (if c then some a else none) = some b) : c ∧ a = b := by
  split at h
  · cases h; exact ⟨by assumption, rfl⟩
  · cases h
section
variable {X : Cx} {k : Nat}
theorem c_min (hc : X.calm = true) (hr : Room k X.A) : CallR X (.builtin "min") (rcOf X.K minD) := by
  intro pins s σ H xs us Q I r ⟨F, ds, z, sb, b, hq, kk⟩
  have hun := hr.un
  unfold minD at hq; split at hq
  · cases hq
    obtain ⟨v, u, rfl, hv, hu⟩ := b.two
    exact call_min2 hc pins s σ H _ us Q I r ⟨_, _, by rw [hv.int, hu.int], kk _ F H (Grow.refl sb) (.int _)⟩
  · obtain ⟨hok, hz⟩ := ite_some2 hq
    obtain ⟨h1, h2, h3⟩ := mmOk_spec hok
    obtain ⟨v, rfl, c⟩ := b.one
    obtain ⟨a, vs, rfl, ha, va⟩ := c.lst sb
    rw [Vals.ref1 r]
    obtain ⟨its, rv, pl, _⟩ := I.list (SqL.of ha)
    obtain ⟨as, rd⟩ := Dp.readsAll I _ vs its (DvA.dp _ vs h1 (DvA.mono sb _ _ va)) rv
    refine PySem.W.min_list_data (I.ok.hd hc) pl.isList (by simpa using rd) h3 (by omega) fun i v h' tk bs hi hrd hk => ?_
    have I2 : Inv X pins σ H { s with heap := h', toks := tk } := I.kept hk
    obtain ⟨x, rx, hx⟩ := item_of I2 sb va rv h3.1 h1 (by simpa using hi) (pick_mem _ _) hrd
    exact ⟨x, H, I2, rx, kk x F H (Grow.refl sb) (by rw [← hz]; exact hx)⟩
  · obtain ⟨hok, hz⟩ := ite_some2 hq
    obtain ⟨h1, h2, h3⟩ := mmOk_spec hok
    obtain ⟨v, rfl, c⟩ := b.one
    obtain ⟨a, vs, rfl, ha, _, va⟩ := c.tup sb
    rw [Vals.ref1 r]
    obtain ⟨its, rv, pl, _⟩ := I.tuple (SqT.of ha)
    obtain ⟨as, rd⟩ := Dp.readsAll I _ vs its (DvA.dp _ vs h1 (DvA.mono sb _ _ va)) rv
    refine PySem.W.min_tuple_data (I.ok.hd hc) (show s.heap.IsTuple a its.toArray from pl) (by simpa using rd) h3 (by omega) fun i v h' tk bs hi hrd hk => ?_
    have I2 : Inv X pins σ H { s with heap := h', toks := tk } := I.kept hk
    obtain ⟨x, rx, hx⟩ := item_of I2 sb va rv h3.1 h1 (by simpa using hi) (pick_mem _ _) hrd
    exact ⟨x, H, I2, rx, kk x F H (Grow.refl sb) (by rw [← hz]; exact hx)⟩
  · cases hq
theorem c_max (hc : X.calm = true) (hr : Room k X.A) : CallR X (.builtin "max") (rcOf X.K maxD) := by
  intro pins s σ H xs us Q I r ⟨F, ds, z, sb, b, hq, kk⟩
  have hun := hr.un
  unfold maxD at hq; split at hq
  · cases hq
    obtain ⟨v, u, rfl, hv, hu⟩ := b.two
    exact call_max2 hc pins s σ H _ us Q I r ⟨_, _, by rw [hv.int, hu.int], kk _ F H (Grow.refl sb) (.int _)⟩
  · obtain ⟨hok, hz⟩ := ite_some2 hq
    obtain ⟨h1, h2, h3⟩ := mmOk_spec hok
    obtain ⟨v, rfl, c⟩ := b.one
    obtain ⟨a, vs, rfl, ha, va⟩ := c.lst sb
    rw [Vals.ref1 r]
    obtain ⟨its, rv, pl, _⟩ := I.list (SqL.of ha)
    obtain ⟨as, rd⟩ := Dp.readsAll I _ vs its (DvA.dp _ vs h1 (DvA.mono sb _ _ va)) rv
    refine PySem.W.max_list_data (I.ok.hd hc) pl.isList (by simpa using rd) h3 (by omega) fun i v h' tk bs hi hrd hk => ?_
    have I2 : Inv X pins σ H { s with heap := h', toks := tk } := I.kept hk
    obtain ⟨x, rx, hx⟩ := item_of I2 sb va rv h3.1 h1 (by simpa using hi) (pick_mem _ _) hrd
    exact ⟨x, H, I2, rx, kk x F H (Grow.refl sb) (by rw [← hz]; exact hx)⟩
  · obtain ⟨hok, hz⟩ := ite_some2 hq
    obtain ⟨h1, h2, h3⟩ := mmOk_spec hok
    obtain ⟨v, rfl, c⟩ := b.one
    obtain ⟨a, vs, rfl, ha, _, va⟩ := c.tup sb
    rw [Vals.ref1 r]
    obtain ⟨its, rv, pl, _⟩ := I.tuple (SqT.of ha)
    obtain ⟨as, rd⟩ := Dp.readsAll I _ vs its (DvA.dp _ vs h1 (DvA.mono sb _ _ va)) rv
    refine PySem.W.max_tuple_data (I.ok.hd hc) (show s.heap.IsTuple a its.toArray from pl) (by simpa using rd) h3 (by omega) fun i v h' tk bs hi hrd hk => ?_
    have I2 : Inv X pins σ H { s with heap := h', toks := tk } := I.kept hk
    obtain ⟨x, rx, hx⟩ := item_of I2 sb va rv h3.1 h1 (by simpa using hi) (pick_mem _ _) hrd
    exact ⟨x, H, I2, rx, kk x F H (Grow.refl sb) (by rw [← hz]; exact hx)⟩
  · cases hq
end
/-! sorted -/
def insB {α : Type} (le : α → α → Bool) (n : α) : List α → List α
  | [] => [n]
  | m :: r => if le n m then n :: m :: r else m :: insB le n r
def srtB {α : Type} (le : α → α → Bool) : List α → List α
  | [] => []
  | n :: r => insB le n (srtB le r)
section
variable {α : Type} {le : α → α → Bool}
theorem insB_perm (n : α) : ∀ l : List α, (insB le n l).Perm (n :: l)
  | [] => .refl _
  | m :: r => by
    unfold insB; split
    · exact .refl _
    · exact ((insB_perm n r).cons m).trans (.swap n m r)
theorem srtB_perm : ∀ l : List α, (srtB le l).Perm l
  | [] => .refl _
  | n :: r => (insB_perm n _).trans ((srtB_perm r).cons n)
theorem insB_sorted (T : PySem.W.TotalLe le) {n : α} : ∀ {l : List α}, l.Pairwise (fun a b => le a b = true) → (insB le n l).Pairwise (fun a b => le a b = true)
  | [], _ => by simp [insB]
  | m :: r, h => by
    have h1 := List.pairwise_cons.mp h
    unfold insB; split
    · rename_i hle
      refine List.pairwise_cons.mpr ⟨fun b hb => ?_, h⟩
      rcases List.mem_cons.mp hb with rfl | hb
      · exact hle
      · exact T.trans _ _ _ hle (h1.1 b hb)
    · rename_i hle
      refine List.pairwise_cons.mpr ⟨fun b hb => ?_, insB_sorted T h1.2⟩
      rcases List.mem_cons.mp ((insB_perm n r).mem_iff.mp hb) with rfl | hb
      · exact (T.total b m).resolve_left hle
      · exact h1.1 b hb
theorem srtB_sorted (T : PySem.W.TotalLe le) : ∀ l : List α, (srtB le l).Pairwise (fun a b => le a b = true)
  | [] => .nil
  | _ :: r => insB_sorted T (srtB_sorted T r)
theorem insB_filter (T : PySem.W.TotalLe le) (c n : α) : ∀ l : List α, (insB le n l).filter (PySem.W.sameRank le c) = (n :: l).filter (PySem.W.sameRank le c)
  | [] => rfl
  | m :: r => by
    unfold insB; split
    · rfl
    · rename_i hle
      rw [List.filter_cons, insB_filter T c n r]
      by_cases h1 : PySem.W.sameRank le c m = true
      · by_cases h2 : PySem.W.sameRank le c n = true
        · exfalso
          apply hle
          simp only [PySem.W.sameRank, Bool.and_eq_true] at h1 h2
          first
            | exact T.trans _ _ _ h2.2 h1.1
            | exact T.trans _ _ _ h2.1 h1.2
        · simp [List.filter_cons, h1, h2]
      · simp [List.filter_cons, h1]
theorem srtB_filter (T : PySem.W.TotalLe le) (c : α) : ∀ l : List α, (srtB le l).filter (PySem.W.sameRank le c) = l.filter (PySem.W.sameRank le c)
  | [] => rfl
  | n :: r => by
    show (insB le n (srtB le r)).filter _ = _
    rw [insB_filter T c n, List.filter_cons, List.filter_cons, srtB_filter T c r]
theorem srtB_eq (T : PySem.W.TotalLe le) (l : List α) : srtB le l = l.mergeSort le := PySem.W.sort_unique T (srtB_sorted T l) fun c => srtB_filter T c l
end

def isTupD : D → Bool
  | .tuple _ => true
  | _ => false
def isTupNeD : D → Bool
  | .tuple (_ :: _) => true
  | _ => false
def srtOk (ds : List D) : Bool := okD (.list ds) && alikeL ds && (ds.all isTupNeD || ds.all fun d => !isNonD d && !isTupD d) && decide (ds.length ≤ line)
theorem srtOk_spec {ds : List D} (h : srtOk ds = true) : PyData.canLayAll0 ds = true ∧ PyData.depthAll ds ≤ 63 ∧ PySem.W.AllAlike ds ∧ PySem.W.Sortable ds ∧ ds.length ≤ sizeLine := by
  simp only [srtOk, Bool.and_eq_true] at h
  obtain ⟨h1, h2⟩ := ok_list h.1.1.1
  refine ⟨h1, h2, fun x hx y hy => alikeL_spec h.1.1.2 x hx y hy, ?_, le_line (of_decide_eq_true h.2)⟩
  rcases Bool.or_eq_true_iff.mp h.1.2 with q | q
  · refine .inl fun d hd => ?_
    have := List.all_eq_true.mp q d hd
    unfold isTupNeD at this; split at this
    · exact ⟨_, _, rfl⟩
    · cases this
  · refine .inr fun d hd => ?_
    have := List.all_eq_true.mp q d hd
    simp only [Bool.and_eq_true] at this
    refine ⟨fun e => ?_, fun xs e => ?_⟩
    · subst e; simp [isNonD] at this
    · subst e; simp [isTupD] at this
abbrev dle : D → D → Bool := PySem.W.dataLe false id
theorem dle_total : PySem.W.TotalLe dle := PySem.W.sortLe_total _ _ _
def sortX : List D → Option (List D)
  | [d] => (seqD d).bind fun ds => match ints? ds with
    | some ns => if ns.length ≤ line then some ((sortI ns).map PyData.int) else none
    | none => if srtOk ds = true then some (srtB dle ds) else none
  | _ => none
section
variable {prog : Program} {w : World} {A : Around} {E : Value → Shared → Prop} {s : Shared} {β : Type} {vs : List Value} {bs : List β} {enc : β → PyData} {R : Value → β → Prop}
/-- sorted(x), x a list or a tuple of data -/
theorem sorted_seq {l : Addr} {T : String} {o : Obj} {n : Nat} {Q : Value → Shared → Prop} (hT : T = "list" ∨ T = "tuple") (ho : s.heap.get? l = some o) (hc : o.cls = .type T) (hd : o.data = .seq vs.toArray n)
    (e : PySem.W.EachIs R vs bs) (er : PySem.W.EachIs (fun v b => ∃ as, Reads s.heap v (enc b) as) vs bs) (hal : PySem.W.AllAlike (bs.map enc)) (hk : PySem.W.Sortable (bs.map enc)) (hL : bs.length ≤ sizeLine)
    (hu : ∀ b, b ∈ bs → A.units + 2 + (enc b).depth < cLine)
    (h : ∀ (h1 h' : Heap) p c out, (∀ b o, s.heap.get? b = some o → h1.get? b = some o) → (∀ b o, h1.get? b = some o → h'.get? b = some o) → h1.objs.size ≤ p → h'.get? p = some (seqObj "list" (List.toArray out) c) → out.length = bs.length → PySem.W.EachIs R out (bs.mergeSort (PySem.W.dataLe false enc)) →
      Q (.ref p) { s with heap := h' }) :
    wpAny (model prog w) A (call (.builtin "sorted") [.ref l]) Q E s := by
  have hvl : vs.length ≤ sizeLine := by rw [e.length]; exact hL
  refine call_function_entry_kw kind_sorted plain_sorted entry_sorted (args_sorted1 _) ?_
  unfold Builtin.«sorted»
  refine wpAny_bind (m := checkCount "sorted" 1 1 _) (wpAny_pure ?_)
  refine wpAny_bind (wpAny_collect_seq l hT ho hc hd (fun h1 k1 => ?_) (by simpa using hvl))
  refine wpAny_bind (wpAny_newList ?_ (by simpa using hvl))
  have hp : (h1.push (seqObj "list" vs.toArray 0)).get? h1.objs.size = some (seqObj "list" vs.toArray 0) := Heap.get?_push_size _ rfl
  have old : ∀ b o, s.heap.get? b = some o → (PySem.W.sortingHeap (h1.push (seqObj "list" vs.toArray 0)) h1.objs.size vs).get? b = some o := fun b o eb => by
    have hb := Heap.lt_size (k1 b o eb)
    exact PySem.W.sortingHeap_old (Nat.ne_of_lt hb) (Heap.get?_push_of_some _ (k1 b o eb))
  have er' : PySem.W.EachIs (fun v b => ∃ as, Reads (PySem.W.sortingHeap (h1.push (seqObj "list" vs.toArray 0)) h1.objs.size vs) v (enc b) as) vs bs := er.mono fun _ _ ⟨as, r⟩ => ⟨as, PyProof.Rows.Reads.keeps old r⟩
  obtain ⟨c, hc2⟩ := sortedHeap_at (vs := vs) (out := (PySem.W.sortVals (PySem.W.dataKind (PySem.W.sortingHeap (h1.push (seqObj "list" vs.toArray 0)) h1.objs.size vs) (bs.map enc)) false vs vs).toArray) hp
  have keep : ∀ b o, h1.get? b = some o → (sortedHeap (h1.push (seqObj "list" vs.toArray 0)) h1.objs.size vs (PySem.W.sortVals (PySem.W.dataKind (PySem.W.sortingHeap (h1.push (seqObj "list" vs.toArray 0)) h1.objs.size vs) (bs.map enc)) false vs vs).toArray).get? b = some o := fun b o eb => by
    have hb := Heap.lt_size eb
    rw [sortedHeap_old (Nat.ne_of_lt hb) (by rw [size_push']; exact Nat.lt_succ_of_lt hb)]
    exact Heap.get?_push_of_some _ eb
  refine wpAny_bind (wpAny_holding (wpAny_call_entry_kw slot_list_sort ⟨_, hp, rfl⟩ entry_list_sort ?_ (args_list_sort _)))
  refine wpAny_mono (PySem.W.list_sort_vals (κ := PySem.W.dataKind (PySem.W.sortingHeap (h1.push (seqObj "list" vs.toArray 0)) h1.objs.size vs) (bs.map enc)) (P := fun f s' => f = .done (.ret .none) ∧ Q (.ref h1.objs.size) s') hp
    (PySem.W.SortsAt.data (s := { s with heap := PySem.W.sortingHeap (h1.push (seqObj "list" vs.toArray 0)) h1.objs.size vs }) (PySem.W.each_map (R := fun v d => ∃ as, Reads _ v d as) enc er') hal hk ?_) hvl ⟨rfl, ?_⟩) (fun f s' hf => ?_) fun _ _ q => q
  · intro d hd
    obtain ⟨b, hb, rfl⟩ := List.mem_map.mp hd
    exact hu b hb
  · exact h h1 _ _ c _ k1 keep (Nat.le_refl _) hc2 (by rw [PySem.W.sortVals_length false rfl]; exact e.length) (PySem.W.sortVals_data false e er' hal)
  · obtain ⟨rfl, hq⟩ := hf
    exact ⟨_, rfl, wpAny_pure ⟨_, rfl, hq⟩⟩
end
theorem vals_each {K : PySem.W.Frag} {F : Hp} : ∀ {vs : List V} {ds : List D} {its : List Value}, DvA K F vs ds → Vals vs its → PySem.W.EachIs (fun (u : Value) (b : V × D) => RelV b.1 u ∧ Dv K F b.1 b.2) its (vs.zip ds)
  | _, _, _, .nil, .nil => .nil
  | _, _, _, .cons h t, .cons r q => .cons ⟨r, h⟩ (vals_each t q)
theorem each_back {K : PySem.W.Frag} {F : Hp} : ∀ {zs : List (V × D)} {out : List Value}, PySem.W.EachIs (fun (u : Value) (b : V × D) => RelV b.1 u ∧ Dv K F b.1 b.2) out zs → Vals (zs.map Prod.fst) out ∧ DvA K F (zs.map Prod.fst) (zs.map Prod.snd)
  | [], _, h => by cases h; exact ⟨.nil, .nil⟩
  | z :: r, _, h => by
    cases h with
    | cons h t =>
      obtain ⟨q1, q2⟩ := each_back t
      exact ⟨.cons h.1 q1, .cons h.2 q2⟩
theorem zip_snd {α β : Type} : ∀ {xs : List α} {ys : List β}, xs.length = ys.length → (xs.zip ys).map Prod.snd = ys
  | [], [], _ => rfl
  | [], _ :: _, h => by simp at h
  | _ :: _, [], h => by simp at h
  | x :: xs, y :: ys, h => by rw [List.zip_cons_cons, List.map_cons, zip_snd (by simpa using h)]
theorem alike_ints (ns : List Int) : PySem.W.AllAlike (ns.map PyData.int) := fun d hd e he => by
  obtain ⟨a, _, rfl⟩ := List.mem_map.mp hd
  obtain ⟨b, _, rfl⟩ := List.mem_map.mp he
  simp [PySem.W.alike]
theorem sort_ints (ns : List Int) : (ns.map PyData.int).mergeSort dle = (sortI ns).map PyData.int := by
  have h1 : ns.mergeSort (PySem.W.dataLe false PyData.int) = sortI ns := by
    refine sortI_of (List.mergeSort_perm ns _) ((PySem.W.sort_pairwise (PySem.W.sortLe_total _ _ _) ns).imp fun {a b} h => ?_)
    have h2 : PySem.W.dataLe false (fun b => PyData.int (id b)) a b = true := h
    rw [PySem.W.dataLe_int] at h2
    exact of_decide_eq_true h2
  rw [← h1]
  exact (PySem.W.sort_maps (r := PySem.W.dataLe false PyData.int) (s := dle) PyData.int fun a _ b _ => rfl).symm
theorem canAll_ints : ∀ ns : List Int, PyData.canLayAll0 (ns.map PyData.int) = true
  | [] => rfl
  | n :: r => by simp [PyData.canLayAll0, PyData.canLay0, canAll_ints r]
theorem depthAll_ints : ∀ ns : List Int, PyData.depthAll (ns.map PyData.int) = 0
  | [] => rfl
  | n :: r => by simp [PyData.depthAll, PyData.depth, depthAll_ints r]
theorem cn_sortX {X : Cx} {k : Nat} (hr : Room k X.A) : CallR X (.builtin "sorted") (rcnOf X.K sortX) := by
  intro pins s σ H xs us Q I r ⟨F, ds, zs, sb, b, hq, kk⟩
  have hun := hr.un
  unfold sortX at hq; split at hq
  · rename_i d
    obtain ⟨es, h1, hq⟩ := Option.bind_eq_some_iff.mp hq
    have key : PyData.canLayAll0 es = true ∧ PyData.depthAll es ≤ 63 ∧ PySem.W.AllAlike es ∧ PySem.W.Sortable es ∧ es.length ≤ sizeLine ∧ es.mergeSort dle = zs := by
      split at hq
      · rename_i ns hn
        obtain ⟨hl, hz⟩ := ite_some2 hq
        obtain rfl := ints_some hn
        refine ⟨canAll_ints ns, by rw [depthAll_ints]; omega, alike_ints ns, .inr fun d hd => ?_, by rw [List.length_map]; exact le_line hl, by rw [sort_ints, hz]⟩
        obtain ⟨a, _, rfl⟩ := List.mem_map.mp hd
        exact ⟨by simp, by simp⟩
      · obtain ⟨hok, hz⟩ := ite_some2 hq
        obtain ⟨q1, q2, q3, q4, q5⟩ := srtOk_spec hok
        exact ⟨q1, q2, q3, q4, q5, by rw [← srtB_eq dle_total, hz]⟩
    obtain ⟨q1, q2, q3, q4, q5, q6⟩ := key
    obtain ⟨v, rfl, c⟩ := b.one
    have obj : ∃ a vs its T o n, v = .ref a ∧ DvA X.K F vs es ∧ Vals vs its ∧ (T = "list" ∨ T = "tuple") ∧ s.heap.get? a = some o ∧ o.cls = .type T ∧ o.data = .seq its.toArray n := by
      unfold seqD at h1; split at h1 <;> cases h1
      · obtain ⟨a, vs, rfl, ha, va⟩ := c.lst sb
        obtain ⟨its, rv, pl, _⟩ := I.list (SqL.of ha)
        obtain ⟨o, ho, hc, n, hd⟩ := pl.isList
        exact ⟨a, vs, its, "list", o, n, rfl, va, rv, .inl rfl, ho, hc, hd⟩
      · obtain ⟨a, vs, rfl, ha, _, va⟩ := c.tup sb
        obtain ⟨its, rv, pt, _⟩ := I.tuple (SqT.of ha)
        obtain ⟨o, ho, hc, n, hd⟩ := (show s.heap.IsTuple a its.toArray from pt)
        exact ⟨a, vs, its, "tuple", o, n, rfl, va, rv, .inr rfl, ho, hc, hd⟩
    obtain ⟨a, vs, its, T, o, n, rfl, va, rv, hT, ho, hc, hd⟩ := obj
    rw [Vals.ref1 r]
    have hlen : vs.length = es.length := va.length
    have hsnd := zip_snd hlen
    have rds := rv
    obtain ⟨as, rdA⟩ := Dp.readsAll I _ vs its (DvA.dp _ vs q1 (DvA.mono sb _ _ va)) rv
    refine sorted_seq (bs := vs.zip es) (enc := Prod.snd) hT ho hc hd (vals_each va rv) (PySem.W.readsAll_each Prod.snd (as := as) (by rw [hsnd]; exact rdA)) (by rw [hsnd]; exact q3) (by rw [hsnd]; exact q4) (by rw [List.length_zip, hlen, Nat.min_self]; exact q5)
      (fun b hb => ?_) fun h1 h' p cc out k1 keep hp hcc hl he => ?_
    · have : b.2 ∈ es := by rw [← hsnd]; exact List.mem_map.mpr ⟨b, hb, rfl⟩
      have := depth_mem this
      omega
    · obtain ⟨w1, w2⟩ := each_back he
      have hsz : out.length ≤ sizeLine := by rw [hl, List.length_zip, hlen, Nat.min_self]; exact q5
      have e6 : ((vs.zip es).mergeSort (PySem.W.dataLe false Prod.snd)).map Prod.snd = zs := by
        rw [← q6]
        rw [PySem.W.sort_maps (r := PySem.W.dataLe false Prod.snd) (s := dle) Prod.snd fun a _ b _ => rfl, hsnd]
      rw [e6] at w2
      have I1 : Inv X pins σ H { s with heap := h1 } := I.kept (t' := s.toks) k1
      refine ⟨.ref p, _, I1.laid (t' := s.toks) (o := .lst (((vs.zip es).mergeSort (PySem.W.dataLe false Prod.snd)).map Prod.fst)) keep hp ⟨by rw [w1.length]; exact hsz, out, cc, w1, hcc⟩, rfl, kk _ _ F _ (Grow.made sb (I1.hok.fresh hp)) (I1.hok.fresh hp) upd_same (fnone sb (I1.hok.fresh hp)) w2⟩
  · cases hq
@[simp] theorem sortX_l {ns : List Int} (h : ns.length ≤ line) : sortX [.list (ns.map .int)] = some ((sortI ns).map .int) := by
  show (match ints? (ns.map PyData.int) with | some ns => _ | none => _) = _
  rw [ints_map]; exact if_pos h
@[simp] theorem sortX_t {ns : List Int} (h : ns.length ≤ line) : sortX [.tuple (ns.map .int)] = some ((sortI ns).map .int) := by
  show (match ints? (ns.map PyData.int) with | some ns => _ | none => _) = _
  rw [ints_map]; exact if_pos h
/-! x.index(y), x.count(y) -/
def indexD : D → D → Option D
  | .list ds, d => if (okD (.list ds) && okD d && memD d ds) = true then some (.int (ds.findIdx fun z => PyData.eqv z d : Nat)) else none
  | _, _ => none
theorem idx_map {d : D} : ∀ ds : List D, (ds.map fun z => PyData.eqv z d).idxOf true = ds.findIdx fun z => PyData.eqv z d
  | [] => rfl
  | z :: r => by
    rw [List.map_cons, List.idxOf_cons, List.findIdx_cons, idx_map r]
    cases PyData.eqv z d <;> rfl
theorem items_eq {X : Cx} {pins : List (Addr × Obj)} {σ : L2.St} {H F : Hp} {s : Shared} (I : Inv X pins σ H s) (sb : Same F H) {A : Around} (hA : A.units + 64 < cLine) {vs : List V} {ds : List D} {its : List Value} (va : DvA X.K F vs ds) (rv : Vals vs its) {y : V} {u : Value} {d : D}
    (hy : Bw X.K F H y d) (ry : RelV y u) (h1 : okD (.list ds) = true) (h2 : okD d = true) : SeqAt.ItemsEq A.in1 s its (ds.map fun z => PyData.eqv z d) u true := by
  obtain ⟨q1, q2⟩ := ok_list h1
  obtain ⟨as, rd⟩ := Dp.readsAll I _ vs its (DvA.dp _ vs q1 (DvA.mono sb _ _ va)) rv
  obtain ⟨bs, rb⟩ := Dp.reads I d y u (Dv.dp d y (SeqAt.canLay_of_shaped h2) (hy.here sb)) ry
  refine ⟨by rw [List.length_map, ← rv.length, va.length], fun j j1 j2 => ?_⟩
  have hj : j < ds.length := by simpa using j2
  have e := SeqAt.items_eqAt (vs := its.toArray) (A := A) (show ReadsAll s.heap its.toArray.toList ds as by simpa using rd) rb q1 (SeqAt.canLay_of_shaped h2) (by
    have := SeqAt.depth_of_shaped h2
    have := Nat.min_le_right (PyData.depthAll ds) d.depth
    omega)
  have e2 := e its[j] (by simp)
  have hm := SeqAt.readsAll_map ds its as q1 rd
  have : SeqAt.readOf s.heap its[j] = ds[j] := by
    have := congrArg (fun l => l[j]?) hm
    simp only [List.getElem?_map, List.getElem?_eq_getElem j1, List.getElem?_eq_getElem hj, Option.map_some] at this
    exact Option.some.inj this
  simp only [List.getElem_map, decide_eq_true_eq]
  have e3 : SeqAt.EqAt A.in1 s its[j] u (PyData.eqv (SeqAt.readOf s.heap its[j]) d) := by simpa using e2
  rw [this] at e3
  cases hq : PyData.eqv ds[j] d with
  | true => simpa [hq] using e3
  | false => simpa [hq] using e3

def rIx (K : PySem.W.Frag) : V → List V → Hp → VK → Prop := fun x xs H Q => ∃ F e d y z, Same F H ∧ Bw K F H x e ∧ xs = [y] ∧ Bw K F H y d ∧ indexD e d = some z ∧ ∀ w, Dv K F w z → Q w H
theorem mt_ix {X : Cx} {k : Nat} (hr : Room k X.A) : MtR X "list.index" (rIx X.K) := by
  intro pins s σ H x xs v us Q I rx rxs ⟨F, e, d, y, z, sb, bx, hxs, by_, hq, kk⟩
  have hun := hr.un
  unfold indexD at hq; split at hq
  · rename_i ds
    obtain ⟨hok, hz⟩ := ite_some2 hq
    simp only [Bool.and_eq_true] at hok
    obtain ⟨a, vs, rfl, ha, va⟩ := bx.lst sb
    cases rx
    subst hxs
    cases rxs with
    | cons ry rt =>
      cases rt
      obtain ⟨its, rv, pl, hl⟩ := I.list (SqL.of ha)
      have hm : ∃ q ∈ ds, PyData.eqv q d = true := List.any_eq_true.mp hok.2
      refine SeqAt.call_list_index pl.isList (items_eq I sb (by omega) va rv by_ ry hok.1.1 hok.1.2) (by rw [List.length_map, ← va.length]; exact hl) ?_ ⟨.int _, H, I.tok _, ⟨_, rfl⟩, kk _ ?_⟩
      · obtain ⟨q, h1, h2⟩ := hm
        exact List.mem_map.mpr ⟨q, h1, h2⟩
      · rw [← hz, idx_map]; exact .int _
  · cases hq
theorem vindex {X : Cx} {k : Nat} {o e : Expr} {apos cpos : Pos} {da db : Ev → Option D} (hr : Room k X.A) (ho : PVB X o da) (ha : PVB X e db)
    (hbase : attributeBase o "index" X.env (eval o X.env) = eval o X.env := by rfl)
    (hfew : ((backTo cpos (starEach [e] X.env)).all (fun x => !x.1) && (backToKw cpos (keywordEach [] X.env)).all (fun x => x.1.isSome)
      && decide (([e] : List Expr).length + ([] : List Keyword).length + (if ([] : List Keyword).isEmpty then 0 else 1) < 30)) = true := by rfl)
    (hline : (apos.endLine == cpos.line) = true := by rfl) (hs : starEach [e] X.env = (false, eval e X.env) :: starEach [] X.env := by rfl) (hplain : (backTo cpos (starEach [] X.env)).any (·.1) = false := by rfl) :
    PVE X (.Call (.Attribute o "index" apos) [e] [] cpos) (e2 indexD da db) :=
  PE.imp (pe_bm PySem.F.plainAttrs_list PySem.F.slot_list_index PySem.F.type_list_index (mt_ix hr) ho (pa_cons ha pa_nil hs) hbase hfew hline hs hplain) fun σ H Q ⟨H0, F0, env, F, z, rl, ed, k⟩ => by
    obtain ⟨d, h1, ed⟩ := Option.bind_eq_some_iff.mp ed
    obtain ⟨e, h2, ed⟩ := Option.bind_eq_some_iff.mp ed
    refine ⟨H0, F0, env, F, d, rl, h1, fun x F1 H1 g1 b1 => ⟨?_, H0, F0, env, F1, e, rl.grow g1, h2, fun y F2 H2 g2 b2 => ⟨F2, d, e, y, z, g2.sub, b1.grow g2 g1.sub, rfl, b2, ed, fun w hw => k w F2 H2 (g1.trans g2) hw⟩⟩⟩
    unfold indexD at ed; split at ed
    · obtain ⟨a, vs, rfl, ha, va⟩ := b1.lst g1.sub
      exact .inl ⟨rfl, vs, SqL.of ha⟩
    · cases ed
theorem indexD_l {ds : List D} {d : D} {n : Nat} (h1 : okD (.list ds) = true) (h2 : okD d = true) (h3 : n < ds.length) (h4 : ∀ z, ds[n]? = some z → PyData.eqv z d = true) (h5 : ∀ (m : Nat) z, m < n → ds[m]? = some z → PyData.eqv z d = false) :
    indexD (.list ds) d = some (.int (n : Int)) := by
  have e1 : ds.findIdx (fun z => PyData.eqv z d) = n := by
    rw [List.findIdx_eq h3]
    refine ⟨h4 _ (List.getElem?_eq_getElem h3), fun j hj => ?_⟩
    exact h5 j _ hj (List.getElem?_eq_getElem (by omega))
  have e2 : memD d ds = true := List.any_eq_true.mpr ⟨ds[n], List.getElem_mem h3, h4 _ (List.getElem?_eq_getElem h3)⟩
  show (if _ then _ else _) = _
  rw [if_pos (by rw [h1, h2, e2]; rfl), e1]
end PV
end

section
set_option maxRecDepth 100000
set_option maxHeartbeats 4000000
namespace PV
open PySem PySem.Spec PyProof.Rows L2
/-! ### targets that change the heap: xs[i], ys[j] = e -/
def rdGH (K : PySem.W.Frag) (tgt : Tgt) : TG := fun v σ H Q => ∃ H0 F0 env F d env', Rel K H0 F0 env σ F H ∧ Dv K F v d ∧ tgt d env = some env' ∧ ∀ F' H', Rel K H0 F0 env' σ F' H' → Same F F' → Q σ H'
section
variable {X : Cx} {tg e b1 b2 : Expr} {da d1 d2 : Ev → Option D} {pos : Pos} {tgt : Tgt}
theorem vs_asgH (he : PVE X e da) (hg : PG X tg (rdGH X.K tgt)) (hs : swapsWithSole [tg] e pos.line X.env = pure false := by rfl) (hw : swappedStores [tg] e X.env = pure none := by rfl)
    (h1 : (assignEach [tg] X.env).map (·.2) = [assign tg X.env] := by rfl) : PVS X (.Assign [tg] e pos) (sAsg tgt da) := PS.imp (ps_asg he hg hs hw h1) fun D σ H ⟨H0, F0, env, F, o, rl, ed, k⟩ => by
  obtain ⟨d, h1, ed⟩ := Option.bind_eq_some_iff.mp ed
  obtain ⟨e', h2, h3⟩ := Option.map_eq_some_iff.mp ed
  subst h3
  exact ⟨H0, F0, env, F, d, rl, h1, fun x F1 H1 g1 hd => ⟨H0, F0, env, F1, d, e', rl.grow g1, hd, h2, fun F2 H2 r' q => k σ F2 H2 r' ((g1.ff rl.sub).trans q)⟩⟩
def set2 (t1 t2 : Tgt) : Tgt := fun d env => match d with
  | .tuple [x, y] => (t1 x env).bind fun e1 => t2 y e1
  | _ => none
/-- two targets that change the heap -/
theorem vg_two {t1 t2 : Tgt} {g1 g2 : Expr} {kk : Nat} (h1 : PG X g1 (rdGH X.K t1)) (h2 : PG X g2 (rdGH X.K t2)) (hc : X.calm = true := by rfl)
    (hs1 : (assignEach [g1, g2] X.env).map (·.2) = assign g1 X.env :: (assignEach [g2] X.env).map (·.2) := by rfl) (hs2 : (assignEach [g2] X.env).map (·.2) = assign g2 X.env :: (assignEach [] X.env).map (·.2) := by rfl)
    (hn : (assignEach [g1, g2] X.env).length = 2 := by rfl) (hst : (assignEach [g1, g2] X.env).findIdx? (·.1) = none := by rfl) : PG X (.Tuple [g1, g2] kk pos) (rdGH X.K (set2 t1 t2)) :=
  PG.imp (pg_tup hc (pgs_cons h1 (pgs_cons h2 pgs_nil hs2) hs1) hn hst) fun v σ H Q ⟨H0, F0, env, F, d, env', rl, hd, ed, k⟩ => by
    unfold set2 at ed; split at ed
    · obtain ⟨e1, q1, q2⟩ := Option.bind_eq_some_iff.mp ed
      cases hd with
      | @tup a vs _ p1 p2 =>
        cases p2 with
        | cons u1 p2 =>
          cases p2 with
          | cons u2 p2 =>
            cases p2
            exact ⟨a, _, rfl, SqT.of (rl.sub _ _ p1), rfl, _, _, rfl, H0, F0, env, F, _, e1, rl, u1, q1, fun F1 H1 r1 s1 => ⟨_, _, rfl, H0, F0, e1, F1, _, env', r1, Dv.mono s1 _ _ u2, q2, fun F2 H2 r2 s2 => ⟨rfl, k F2 H2 r2 (s1.trans s2)⟩⟩⟩
    · cases ed
@[simp] theorem set2_ap {t1 t2 : Tgt} {x y : D} {env : Ev} : set2 t1 t2 (.tuple [x, y]) env = (t1 x env).bind fun e1 => t2 y e1 := rfl
end

/-! ### list(range(..)), tuple(range(..)) -/
def rgIf (a b : Int) : Option (List D) := if (rngOk a && rngOk b && decide ((b - a).toNat ≤ line)) = true then some (rngD a (b - a).toNat) else none
theorem rgIf_spec {a b : Int} {ds : List D} (h : rgIf a b = some ds) : RgOk a b ∧ ds = rngD a (b - a).toNat := by
  unfold rgIf at h
  obtain ⟨h1, h2⟩ := ite_some2 h
  simp only [Bool.and_eq_true, decide_eq_true_eq] at h1
  obtain ⟨⟨q1, q2⟩, q3⟩ := h1
  have r1 := rngOk_iff q1
  have r2 := rngOk_iff q2
  exact ⟨⟨r1.1, r1.2, r2.1, r2.2, q3⟩, h2.symm⟩
def rI1 : D → Option (List D)
  | .int n => rgIf 0 n
  | _ => none
def rI2 : D → D → Option (List D)
  | .int a, .int b => rgIf a b
  | _, _ => none
theorem dva_rg {K : PySem.W.Frag} {F : Hp} (a b : Int) : DvA K F (rgV a b) (rngD a (b - a).toNat) := by
  unfold rgV rngD
  induction List.range (b - a).toNat with
  | nil => exact .nil
  | cons x r ih => exact .cons (.int _) ih
def nR1 (da : Ev → Option D) : Ev → Option (List D) := fun env => (da env).bind rI1
def nR2 (da db : Ev → Option D) : Ev → Option (List D) := fun env => (da env).bind fun x => (db env).bind fun y => rI2 x y
def eTp (dn : Ev → Option (List D)) : Ev → Option D := fun env => (dn env).map PyData.tuple
section
variable {X : Cx} {a b : Expr} {da db : Ev → Option D} {p p2 pos pos2 : Pos}
theorem v_lstrg1 (ha : PVB X a da) (hm : X.mg "list" = none) (hm2 : X.mg "range" = none) (hc : X.calm = true := by rfl) (hg : Gl X "list" := by rfl) (hg2 : Gl X "range" := by rfl)
    (na : starEach [a] X.env = (false, eval a X.env) :: starEach [] X.env := by rfl)
    (nb : starEach [.Call (.Name "range" p2) [a] [] pos2] X.env = (false, eval (.Call (.Name "range" p2) [a] [] pos2) X.env) :: starEach [] X.env := by rfl) :
    PVN X (.Call (.Name "list" p) [.Call (.Name "range" p2) [a] [] pos2] [] pos) (nR1 da) := PE.imp (pe_listRg hc hg hm (prg_1 hg2 hm2 ha na) nb) fun σ H Q ⟨H0, F0, env, F, z, rl, ed, k⟩ => by
  obtain ⟨d, h1, ed⟩ := Option.bind_eq_some_iff.mp ed
  refine ⟨H0, F0, env, F, d, rl, h1, fun x F1 H1 g1 b1 => ?_⟩
  unfold rI1 at ed; split at ed
  · obtain ⟨ok, rfl⟩ := rgIf_spec ed
    refine ⟨_, b1.int, ok, fun q hq => k q _ F1 _ (g1.trans (Grow.made g1.sub hq)) ?_ upd_same (fnone g1.sub hq) (dva_rg _ _)⟩
    cases hh : H q with
    | none => rfl
    | some o => rw [g1.hh q o hh] at hq; cases hq
  · cases ed
theorem v_lstrg2 (ha : PVB X a da) (hb : PVB X b db) (hm : X.mg "list" = none) (hm2 : X.mg "range" = none) (hc : X.calm = true := by rfl) (hg : Gl X "list" := by rfl) (hg2 : Gl X "range" := by rfl)
    (na : starEach [a, b] X.env = (false, eval a X.env) :: starEach [b] X.env := by rfl) (na2 : starEach [b] X.env = (false, eval b X.env) :: starEach [] X.env := by rfl) (hp : (backTo pos2 (starEach [b] X.env)).any (·.1) = false := by rfl)
    (nb : starEach [.Call (.Name "range" p2) [a, b] [] pos2] X.env = (false, eval (.Call (.Name "range" p2) [a, b] [] pos2) X.env) :: starEach [] X.env := by rfl) :
    PVN X (.Call (.Name "list" p) [.Call (.Name "range" p2) [a, b] [] pos2] [] pos) (nR2 da db) := PE.imp (pe_listRg hc hg hm (prg_2 hg2 hm2 ha hb na na2 hp) nb) fun σ H Q ⟨H0, F0, env, F, z, rl, ed, k⟩ => by
  obtain ⟨d, h1, ed⟩ := Option.bind_eq_some_iff.mp ed
  obtain ⟨e, h2, ed⟩ := Option.bind_eq_some_iff.mp ed
  refine ⟨H0, F0, env, F, d, rl, h1, fun x F1 H1 g1 b1 => ⟨H0, F0, env, F1, e, rl.grow g1, h2, fun y F2 H2 g2 b2 => ?_⟩⟩
  unfold rI2 at ed; split at ed
  · obtain ⟨ok, rfl⟩ := rgIf_spec ed
    refine ⟨_, _, b1.int, b2.int, ok, fun q hq => k q _ F2 _ (g1.trans (g2.trans (Grow.made g2.sub hq))) ?_ upd_same (fnone g2.sub hq) (dva_rg _ _)⟩
    cases hh : H q with
    | none => rfl
    | some o => rw [(g1.trans g2).hh q o hh] at hq; cases hq
  · cases ed
theorem v_tuprg1 (ha : PVB X a da) (hm : X.mg "tuple" = none) (hm2 : X.mg "range" = none) (hc : X.calm = true := by rfl) (hg : Gl X "tuple" := by rfl) (hg2 : Gl X "range" := by rfl)
    (na : starEach [a] X.env = (false, eval a X.env) :: starEach [] X.env := by rfl)
    (nb : starEach [.Call (.Name "range" p2) [a] [] pos2] X.env = (false, eval (.Call (.Name "range" p2) [a] [] pos2) X.env) :: starEach [] X.env := by rfl) :
    PVE X (.Call (.Name "tuple" p) [.Call (.Name "range" p2) [a] [] pos2] [] pos) (eTp (nR1 da)) := PE.imp (pe_tupRg hc hg hm (prg_1 hg2 hm2 ha na) nb) fun σ H Q ⟨H0, F0, env, F, z, rl, ed, k⟩ => by
  obtain ⟨ds, ed', hz⟩ := Option.map_eq_some_iff.mp ed
  subst hz
  clear ed
  have ed := ed'
  obtain ⟨d, h1, ed⟩ := Option.bind_eq_some_iff.mp ed
  refine ⟨H0, F0, env, F, d, rl, h1, fun x F1 H1 g1 b1 => ?_⟩
  unfold rI1 at ed; split at ed
  · obtain ⟨ok, rfl⟩ := rgIf_spec ed
    exact ⟨_, b1.int, ok, fun q hq => k _ _ _ (g1.trans (Grow.new g1.sub hq)) (Dv.newTup (fnone g1.sub hq) (dva_rg _ _))⟩
  · cases ed
theorem v_tuprg2 (ha : PVB X a da) (hb : PVB X b db) (hm : X.mg "tuple" = none) (hm2 : X.mg "range" = none) (hc : X.calm = true := by rfl) (hg : Gl X "tuple" := by rfl) (hg2 : Gl X "range" := by rfl)
    (na : starEach [a, b] X.env = (false, eval a X.env) :: starEach [b] X.env := by rfl) (na2 : starEach [b] X.env = (false, eval b X.env) :: starEach [] X.env := by rfl) (hp : (backTo pos2 (starEach [b] X.env)).any (·.1) = false := by rfl)
    (nb : starEach [.Call (.Name "range" p2) [a, b] [] pos2] X.env = (false, eval (.Call (.Name "range" p2) [a, b] [] pos2) X.env) :: starEach [] X.env := by rfl) :
    PVE X (.Call (.Name "tuple" p) [.Call (.Name "range" p2) [a, b] [] pos2] [] pos) (eTp (nR2 da db)) := PE.imp (pe_tupRg hc hg hm (prg_2 hg2 hm2 ha hb na na2 hp) nb) fun σ H Q ⟨H0, F0, env, F, z, rl, ed, k⟩ => by
  obtain ⟨ds, ed', hz⟩ := Option.map_eq_some_iff.mp ed
  subst hz
  clear ed
  have ed := ed'
  obtain ⟨d, h1, ed⟩ := Option.bind_eq_some_iff.mp ed
  obtain ⟨e, h2, ed⟩ := Option.bind_eq_some_iff.mp ed
  refine ⟨H0, F0, env, F, d, rl, h1, fun x F1 H1 g1 b1 => ⟨H0, F0, env, F1, e, rl.grow g1, h2, fun y F2 H2 g2 b2 => ?_⟩⟩
  unfold rI2 at ed; split at ed
  · obtain ⟨ok, rfl⟩ := rgIf_spec ed
    exact ⟨_, _, b1.int, b2.int, ok, fun q hq => k _ _ _ (g1.trans (g2.trans (Grow.new g2.sub hq))) (Dv.newTup (fnone g2.sub hq) (dva_rg _ _))⟩
  · cases ed
@[simp] theorem nR1_ap {env : Ev} : nR1 da env = (da env).bind rI1 := rfl
@[simp] theorem nR2_ap {env : Ev} : nR2 da db env = (da env).bind fun x => (db env).bind fun y => rI2 x y := rfl
@[simp] theorem eTp_ap {dn : Ev → Option (List D)} {env : Ev} : eTp dn env = (dn env).map PyData.tuple := rfl
theorem rI1_n {n : Nat} (h : n ≤ 1000000) : rI1 (.int (n : Int)) = some (rngD 0 n) := by
  have e : (rngOk 0 && rngOk (n : Int) && decide (((n : Int) - 0).toNat ≤ line)) = true := by
    simp only [rngOk, Bool.and_eq_true, decide_eq_true_eq]
    exact ⟨⟨by decide, by omega⟩, Nat.le_trans (m := n) (by omega) (Nat.le_trans h (by decide))⟩
  have e2 : ((n : Int) - 0).toNat = n := by omega
  show rgIf 0 (n : Int) = _
  unfold rgIf
  rw [if_pos e, e2]
theorem rI2_n {n m : Nat} (h : n ≤ 1000000) (h2 : m ≤ 1000000) : rI2 (.int (n : Int)) (.int (m : Int)) = some (rngD n (m - n)) := by
  have e : (rngOk (n : Int) && rngOk (m : Int) && decide (((m : Int) - n).toNat ≤ line)) = true := by
    simp only [rngOk, Bool.and_eq_true, decide_eq_true_eq]
    exact ⟨⟨by omega, by omega⟩, Nat.le_trans (m := m) (by omega) (Nat.le_trans h2 (by decide))⟩
  have e2 : ((m : Int) - (n : Int)).toNat = m - n := by omega
  show rgIf (n : Int) (m : Int) = _
  unfold rgIf
  rw [if_pos e, e2]
end
end PV
end

section
set_option maxRecDepth 100000
set_option maxHeartbeats 4000000
namespace PV
open PySem L2
/-! ### one step each, for simp -/
def oN (s : Ev → Option Out) : Out → Option Out
  | .nx e => s e
  | o => some o
def outV : Out → Option D
  | .rt d => some d
  | .nx _ => some .none
  | _ => none
section
variable {env e : Ev} {d : D} {s1 s2 : Ev → Option Out}
theorem sSeq_ap : sSeq s1 s2 env = (s1 env).bind (oN s2) := by
  show (s1 env).bind _ = _
  refine congrArg _ (funext fun o => ?_)
  cases o <;> rfl
theorem oN_nx : oN s1 (.nx e) = s1 e := id rfl
theorem oN_rt : oN s1 (.rt d) = some (.rt d) := id rfl
theorem oN_bk : oN s1 (.bk e) = some (.bk e) := id rfl
theorem oN_ct : oN s1 (.ct e) = some (.ct e) := id rfl
theorem outV_rt : outV (.rt d) = some d := id rfl
theorem outV_nx : outV (.nx e) = some .none := id rfl
theorem sWhile_ap {n : Nat} {is : List Nat} {tc : Ev → Option Bool} : sWhile n is tc s1 env = whL tc s1 is n (fgs env is) := id rfl
theorem sPar3_ap {i j l : Nat} {dx dy dz : Ev → Option SV} : sPar3 i j l dx dy dz env = (dx env).bind fun s => (dy env).bind fun t => (dz env).map fun u => .nx (st (st (st env i (some s)) j (some t)) l (some u)) := id rfl
theorem sBrk_ap : sBrk env = some (.bk env) := id rfl
theorem sCnt_ap : sCnt env = some (.ct env) := id rfl
theorem isI_int' {n : Int} : isI (.int n) = some n := id rfl
theorem set2_ap' {t1 t2 : Tgt} {x y : D} : set2 t1 t2 (.tuple [x, y]) env = (t1 x env).bind fun e1 => t2 y e1 := id rfl
theorem tup_le {ds : List D} (h : ds.length ≤ 1000000) : tupD ds = some (.tuple ds) := if_pos (Nat.le_trans h (by decide))
theorem if_le {α : Type} {n : Nat} {a b : α} (h : n ≤ 1000000) : (if n ≤ line then a else b) = a := if_pos (Nat.le_trans h (by decide))
theorem if_lt {α : Type} {n : Nat} {a b : α} (h : n ≤ 1000000) : (if n < line then a else b) = a := if_pos (Nat.lt_of_le_of_lt h (by decide))
theorem if_tt {α : Type} {a b : α} : (if true = true then a else b) = a := id rfl
theorem if_ft {α : Type} {a b : α} : (if false = true then a else b) = b := id rfl
theorem if_nil {α : Type} {a b : α} : (if ([] : List D).length ≤ line then a else b) = a := if_pos (by decide)
theorem some_bind {α β : Type} {a : α} {f : α → Option β} : (some a).bind f = f a := id rfl
theorem some_map {α β : Type} {a : α} {f : α → β} : (some a).map f = some (f a) := id rfl
end

/-! ### int lists, comprehensions over them -/
abbrev iT (xs : List Int) : D := .tuple (xs.map .int)
abbrev iL (xs : List Int) : D := .list (xs.map .int)
theorem mapI_range {n : Nat} {f : Nat → Int} : ((List.range n).map fun i => PyData.int (f i)) = ((List.range n).map f).map PyData.int := by rw [List.map_map]; rfl
theorem rngD_ints (lo : Int) (n : Nat) : rngD lo n = ((List.range n).map fun (k : Nat) => lo + (k : Int)).map PyData.int := by rw [List.map_map]; rfl
theorem rngD_zero (n : Nat) : rngD 0 n = ((List.range n).map fun (k : Nat) => (k : Int)).map PyData.int := by
  rw [rngD_ints]; congr 1; exact List.map_congr_left fun k _ => by omega
theorem list_range {xs : List Int} : xs = (List.range xs.length).map fun i => xs.getD i 0 := by
  apply List.ext_getElem
  · simp
  · intro i h1 h2
    simp [List.getD_eq_getElem?_getD, List.getElem?_eq_getElem h1]
section
variable {env : Ev} {v u n : Nat} {src : Ev → Option (List D)} {elt : Ev → Option D} {cond : Ev → Option Bool}
/-- [elt for v in range(lo, ..)] of ints -/
theorem compR {lo : Int} {h : Nat → Int} (hs : src env = some (rngD lo n)) (hl : n ≤ 1000000) (H : ∀ i : Nat, i < n → elt (st (st env v none) v (some (.v (.int (lo + i))))) = some (.int (h i))) :
    nLc [v] src (gN v) tTrue elt env = some (((List.range n).map h).map PyData.int) := by
  rw [← mapI_range]
  exact nLc_rng hs (Nat.le_trans hl (by decide)) fun i hi => ⟨_, rfl, rfl, H i hi⟩
theorem compRD {lo : Int} {h : Nat → D} (hs : src env = some (rngD lo n)) (hl : n ≤ 1000000) (H : ∀ i : Nat, i < n → elt (st (st env v none) v (some (.v (.int (lo + i))))) = some (h i)) :
    nLc [v] src (gN v) tTrue elt env = some ((List.range n).map h) := nLc_rng hs (Nat.le_trans hl (by decide)) fun i hi => ⟨_, rfl, rfl, H i hi⟩
theorem compRF {lo : Int} {h : Nat → D} {p : Nat → Bool} (hs : src env = some (rngD lo n)) (hl : n ≤ 1000000) (Hc : ∀ i : Nat, i < n → cond (st (st env v none) v (some (.v (.int (lo + i))))) = some (p i))
    (H : ∀ i : Nat, i < n → p i = true → elt (st (st env v none) v (some (.v (.int (lo + i))))) = some (h i)) :
    nLc [v] src (gN v) cond elt env = some (((List.range n).filter p).map h) :=
  nLc_filter (f := fun (k : Nat) => PyData.int (lo + (k : Int))) hs (by rw [List.length_range]; exact Nat.le_trans hl (by decide)) fun i hi => ⟨_, rfl, Hc i (List.mem_range.mp hi), H i (List.mem_range.mp hi)⟩
/-- [elt for v in xs] -/
theorem compL {α : Type} {f h : α → D} {xs : List α} (hs : src env = some (xs.map f)) (hl : xs.length ≤ 1000000) (H : ∀ x ∈ xs, elt (st (st env v none) v (some (.v (f x)))) = some (h x)) :
    nLc [v] src (gN v) tTrue elt env = some (xs.map h) := nLc_map hs (Nat.le_trans hl (by decide)) fun x hx => ⟨_, rfl, rfl, H x hx⟩
theorem compLF {α : Type} {f h : α → D} {p : α → Bool} {xs : List α} (hs : src env = some (xs.map f)) (hl : xs.length ≤ 1000000) (Hc : ∀ x ∈ xs, cond (st (st env v none) v (some (.v (f x)))) = some (p x))
    (H : ∀ x ∈ xs, p x = true → elt (st (st env v none) v (some (.v (f x)))) = some (h x)) :
    nLc [v] src (gN v) cond elt env = some ((xs.filter p).map h) := nLc_filter hs (Nat.le_trans hl (by decide)) fun x hx => ⟨_, rfl, Hc x hx, H x hx⟩
theorem enumD_ix (ds : List D) : enumD ds = (List.range ds.length).map fun i : Nat => .tuple [.int (i : Int), ds.getD i .none] := by
  apply List.ext_getElem?
  intro i
  by_cases h : i < ds.length
  · rw [enumD_get (List.getElem?_eq_getElem h), List.getElem?_map, List.getElem?_range h, Option.map_some, List.getD_eq_getElem?_getD, List.getElem?_eq_getElem h]; rfl
  · rw [List.getElem?_eq_none (by rw [enumD_length]; omega), List.getElem?_eq_none (by simp; omega)]
/-- [elt for u, v in enumerate(xs)] of ints -/
theorem compE {xs : List Int} {h : Nat → D} (hs : src env = some (enumD (xs.map .int))) (hl : xs.length ≤ 1000000)
    (H : ∀ i : Nat, i < xs.length → elt (st (st (st (st env v none) u none) u (some (.v (.int (i : Int))))) v (some (.v (.int (xs.getD i 0))))) = some (h i)) :
    nLc [u, v] src (gLen 2 (gT (gsCons (gN u) (gsCons (gN v) gsNil)))) tTrue elt env = some ((List.range xs.length).map h) := by
  rw [enumD_ix, List.length_map] at hs
  refine nLc_map hs (by rw [List.length_range]; exact Nat.le_trans hl (by decide)) fun i hi => ⟨_, rfl, rfl, ?_⟩
  have hi' := List.mem_range.mp hi
  have e : (xs.map PyData.int).getD i .none = .int (xs.getD i 0) := by
    rw [List.getD_eq_getElem?_getD, List.getElem?_map, List.getD_eq_getElem?_getD, List.getElem?_eq_getElem hi']; rfl
  rw [e]
  exact H i hi'
end
theorem gd_iT {n : Nat} {ns : List Int} : gd (n + 1) (iT ns) = true := gd_ints
theorem gd_iL {n : Nat} {ns : List Int} : gd (n + 1) (iL ns) = true := gd_ints
theorem ixT {p : List Int} {i : Int} (h0 : 0 ≤ i) (h1 : i < p.length) : atI (p.map PyData.int) i = some (.int (p.getD i.toNat 0)) := at_int h0 h1
theorem ixTN {p : List Int} {i : Nat} (h1 : i < p.length) : atI (p.map PyData.int) (i : Int) = some (.int (p.getD i 0)) := at_intN h1
theorem rg1N {n : Nat} (h : n ≤ 1000000) : rg1 [.int (n : Int)] = some (rngD 0 n) := rg1_n (by omega)
theorem dd_len_le (l : List Int) : (dd l).length ≤ l.length := nodup_le (dd_nodup l) fun x hx => dd_mem.mp hx
theorem dd_len_iff {l : List Int} : (dd l).length = l.length ↔ l.Nodup := by
  induction l with
  | nil => simp [dd]
  | cons x r ih =>
    have hle := dd_len_le r
    unfold dd
    by_cases h : x ∈ r
    · rw [if_pos h]
      simp only [List.length_cons, List.nodup_cons]
      exact ⟨fun e => by omega, fun e => absurd h e.1⟩
    · rw [if_neg h]
      simp only [List.length_cons, List.nodup_cons, Nat.add_right_cancel_iff]
      exact ⟨fun e => ⟨h, ih.mp e⟩, fun e => ih.mpr e.2⟩

/-! ### least, greatest of ints -/
theorem alikeL_ints (xs : List Int) : alikeL (xs.map PyData.int) = true := List.all_eq_true.mpr fun d hd => List.all_eq_true.mpr fun e he => alike_ints xs d hd e he
theorem mmOk_ints (xs : List Int) : mmOk (xs.map PyData.int) = true := by
  unfold mmOk
  rw [alikeL_ints, gd_okD (gd_lI (n := 0) (ns := xs)), Bool.true_and, Bool.true_and]
  refine List.all_eq_true.mpr fun d hd => ?_
  obtain ⟨a, _, rfl⟩ := List.mem_map.mp hd
  rfl
def mx : List Int → Int
  | [] => 0
  | x :: r => r.foldl max x
def mn : List Int → Int
  | [] => 0
  | x :: r => r.foldl min x
theorem foldl_max_spec : ∀ (r : List Int) (x : Int), (∀ y ∈ x :: r, y ≤ r.foldl max x) ∧ r.foldl max x ∈ x :: r
  | [], x => by simp
  | z :: r, x => by
    obtain ⟨h1, h2⟩ := foldl_max_spec r (max x z)
    rw [List.foldl_cons]
    refine ⟨fun y hy => ?_, ?_⟩
    · have hm := h1 (max x z) (by simp)
      rcases List.mem_cons.mp hy with rfl | hy
      · omega
      · rcases List.mem_cons.mp hy with rfl | hy
        · omega
        · exact h1 y (List.mem_cons_of_mem _ hy)
    · rcases List.mem_cons.mp h2 with e | e
      · rw [e]
        rcases Int.le_total x z with q | q
        · rw [Int.max_eq_right q]; simp
        · rw [Int.max_eq_left q]; simp
      · exact List.mem_cons_of_mem _ (List.mem_cons_of_mem _ e)
theorem foldl_min_spec : ∀ (r : List Int) (x : Int), (∀ y ∈ x :: r, r.foldl min x ≤ y) ∧ r.foldl min x ∈ x :: r
  | [], x => by simp
  | z :: r, x => by
    obtain ⟨h1, h2⟩ := foldl_min_spec r (min x z)
    rw [List.foldl_cons]
    refine ⟨fun y hy => ?_, ?_⟩
    · have hm := h1 (min x z) (by simp)
      rcases List.mem_cons.mp hy with rfl | hy
      · omega
      · rcases List.mem_cons.mp hy with rfl | hy
        · omega
        · exact h1 y (List.mem_cons_of_mem _ hy)
    · rcases List.mem_cons.mp h2 with e | e
      · rw [e]
        rcases Int.le_total x z with q | q
        · rw [Int.min_eq_left q]; simp
        · rw [Int.min_eq_right q]; simp
      · exact List.mem_cons_of_mem _ (List.mem_cons_of_mem _ e)
theorem mx_le {xs : List Int} {y : Int} (h : y ∈ xs) : y ≤ mx xs := by
  cases xs with
  | nil => cases h
  | cons x r => exact (foldl_max_spec r x).1 y h
theorem mx_mem {xs : List Int} (h : xs ≠ []) : mx xs ∈ xs := by
  cases xs with
  | nil => exact absurd rfl h
  | cons x r => exact (foldl_max_spec r x).2
theorem mn_le {xs : List Int} {y : Int} (h : y ∈ xs) : mn xs ≤ y := by
  cases xs with
  | nil => cases h
  | cons x r => exact (foldl_min_spec r x).1 y h
theorem mn_mem {xs : List Int} (h : xs ≠ []) : mn xs ∈ xs := by
  cases xs with
  | nil => exact absurd rfl h
  | cons x r => exact (foldl_min_spec r x).2
theorem mostD_ints (x : Int) (r : List Int) : mostD (.int x) (r.map .int) = .int (mx (x :: r)) := PySem.W.maxD_ints x r
theorem leastD_ints (x : Int) (r : List Int) : leastD (.int x) (r.map .int) = .int (mn (x :: r)) := PySem.W.minD_ints x r
theorem maxD_t {xs : List Int} (h : 0 < xs.length) : maxD [iT xs] = some (.int (mx xs)) := by
  cases xs with
  | nil => simp at h
  | cons x r =>
    show (if mmOk ((x :: r).map PyData.int) = true then some (mostD (.int x) (r.map .int)) else none) = _
    rw [if_pos (mmOk_ints _), mostD_ints]
theorem maxD_l {xs : List Int} (h : 0 < xs.length) : maxD [iL xs] = some (.int (mx xs)) := by
  cases xs with
  | nil => simp at h
  | cons x r =>
    show (if mmOk ((x :: r).map PyData.int) = true then some (mostD (.int x) (r.map .int)) else none) = _
    rw [if_pos (mmOk_ints _), mostD_ints]
theorem minD_t {xs : List Int} (h : 0 < xs.length) : minD [iT xs] = some (.int (mn xs)) := by
  cases xs with
  | nil => simp at h
  | cons x r =>
    show (if mmOk ((x :: r).map PyData.int) = true then some (leastD (.int x) (r.map .int)) else none) = _
    rw [if_pos (mmOk_ints _), leastD_ints]
theorem minD_l {xs : List Int} (h : 0 < xs.length) : minD [iL xs] = some (.int (mn xs)) := by
  cases xs with
  | nil => simp at h
  | cons x r =>
    show (if mmOk ((x :: r).map PyData.int) = true then some (leastD (.int x) (r.map .int)) else none) = _
    rw [if_pos (mmOk_ints _), leastD_ints]
theorem max2 (i j : Int) : maxD [.int i, .int j] = some (.int (max i j)) := by
  show some (PyData.int _) = _
  congr 2
  split <;> omega
theorem min2 (i j : Int) : minD [.int i, .int j] = some (.int (min i j)) := by
  show some (PyData.int _) = _
  congr 2
  split <;> omega
theorem intD_bb {p : Bool} : intD [.bool p] = some (.int (if p = true then 1 else 0)) := rfl
theorem rg2N {a b : Int} (h1 : -1000000 ≤ a) (h2 : a ≤ 1000000) (h3 : -1000000 ≤ b) (h4 : b ≤ 1000000) : rg2 [.int a, .int b] = some (rngD a (b - a).toNat) := rg2_i (by omega) (by omega) (by omega) (by omega)

theorem tup0 : tupD [] = some (.tuple []) := id rfl
theorem tup1 {a : D} : tupD [a] = some (.tuple [a]) := id rfl
theorem tup2 {a b : D} : tupD [a, b] = some (.tuple [a, b]) := id rfl
theorem tup3 {a b c : D} : tupD [a, b, c] = some (.tuple [a, b, c]) := id rfl
theorem tup4 {a b c d : D} : tupD [a, b, c, d] = some (.tuple [a, b, c, d]) := id rfl
theorem lst0 : (if ([] : List D).length ≤ line then some ([] : List D) else none) = some [] := id rfl
theorem lst1 {a : D} : (if [a].length ≤ line then some [a] else none) = some [a] := id rfl
theorem lst2 {a b : D} : (if [a, b].length ≤ line then some [a, b] else none) = some [a, b] := id rfl
theorem len2 {α : Type} {a b : D} {x y : α} : (if [a, b].length = 2 then x else y) = x := id rfl
theorem len3 {α : Type} {a b c : D} {x y : α} : (if [a, b, c].length = 3 then x else y) = x := id rfl

theorem bq00 : ((0 : Int) == 0) = true := id rfl
theorem bq10 : ((1 : Int) == 0) = false := id rfl
theorem bq01 : ((0 : Int) == 1) = false := id rfl
theorem bq11 : ((1 : Int) == 1) = true := id rfl
theorem emp_c {α : Type} {f : α → D} {x : α} {r : List α} : ((x :: r).map f).isEmpty = false := id rfl
theorem emp_n {α : Type} {f : α → D} : (([] : List α).map f).isEmpty = true := id rfl
theorem emp_cc {x : D} {r : List D} : (x :: r).isEmpty = false := id rfl
theorem emp_nn : ([] : List D).isEmpty = true := id rfl
theorem cut_from1 {α : Type} {xs : List α} : cutL xs (some 1) none = xs.drop 1 := PVL.cut_from (k := 1)
theorem rep_flat {α : Type} {a : α} : ∀ n : Nat, (List.replicate n [a]).flatten = List.replicate n a
  | 0 => rfl
  | n + 1 => by rw [List.replicate_succ, List.flatten_cons, rep_flat n]; rfl
theorem map_drop1 {f : Int → D} {xs : List Int} {n : Nat} : (xs.map f).drop n = (xs.drop n).map f := (List.map_drop).symm

/-! ### lists of int tuples -/
theorem eqv_iT (a b : List Int) : PyData.eqv (iT a) (iT b) = decide (a = b) := by
  show PyData.eqvAll _ _ = _
  exact eqvAll_ints a b
theorem gd_iTs {n : Nat} (xs : List (List Int)) : (xs.map iT).all (gd (n + 1)) = true := by
  rw [List.all_map]; exact List.all_eq_true.mpr fun x _ => gd_iT
theorem gd_LiT (xs : List (List Int)) : gd 2 (.list (xs.map iT)) = true := gd_iTs xs
theorem gd_TiT (xs : List (List Int)) : gd 2 (.tuple (xs.map iT)) = true := gd_iTs xs
theorem memD_iT {a : List Int} : ∀ {xs : List (List Int)}, memD (iT a) (xs.map iT) = decide (a ∈ xs)
  | [] => by simp [memD]
  | x :: r => by
    have ih := memD_iT (a := a) (xs := r)
    unfold memD at ih ⊢
    rw [List.map_cons, List.any_cons, ih, eqv_iT]
    by_cases h : x = a
    · subst h; simp
    · have : ¬ a = x := fun e => h e.symm
      simp [h, this]
theorem inD_iTl {a : List Int} {xs : List (List Int)} : inD (iT a) (.list (xs.map iT)) = some (.bool (decide (a ∈ xs))) := by
  show (if _ then _ else _) = _
  rw [gd_okD (gd_iT (n := 0) (ns := a)), gd_okD (gd_LiT xs), memD_iT]; rfl
theorem inD_iTt {a : List Int} {xs : List (List Int)} : inD (iT a) (.tuple (xs.map iT)) = some (.bool (decide (a ∈ xs))) := by
  show (if _ then _ else _) = _
  rw [gd_okD (gd_iT (n := 0) (ns := a)), gd_okD (gd_LiT xs), memD_iT]; rfl
theorem findIdx_iT {a : List Int} : ∀ xs : List (List Int), (xs.map iT).findIdx (fun z => PyData.eqv z (iT a)) = xs.idxOf a
  | [] => rfl
  | x :: r => by
    rw [List.map_cons, List.findIdx_cons, List.idxOf_cons, findIdx_iT r, eqv_iT]
    by_cases h : x = a
    · subst h; simp
    · have : (x == a) = false := by simpa using h
      simp [h, this]
theorem indexD_iT {a : List Int} {xs : List (List Int)} (h : a ∈ xs) : indexD (.list (xs.map iT)) (iT a) = some (.int (xs.idxOf a : Nat)) := by
  show (if _ then _ else _) = _
  rw [gd_okD (gd_iT (n := 0) (ns := a)), gd_okD (gd_LiT xs), memD_iT, decide_eq_true h, findIdx_iT]; rfl
theorem idx_int {a : Int} : ∀ xs : List Int, (xs.map PyData.int).findIdx (fun z => PyData.eqv z (.int a)) = xs.idxOf a
  | [] => rfl
  | x :: r => by
    rw [List.map_cons, List.findIdx_cons, List.idxOf_cons, idx_int r]
    have : PyData.eqv (.int x) (.int a) = (x == a) := rfl
    rw [this]
theorem indexD_i {a : Int} {xs : List Int} (h : a ∈ xs) : indexD (iL xs) (.int a) = some (.int (xs.idxOf a : Nat)) := by
  show (if _ then _ else _) = _
  rw [gd_okD (gd_i (n := 0) (a := a)), gd_okD (gd_lI (n := 0) (ns := xs)), PVL.memD_ints, decide_eq_true h, idx_int]; rfl
theorem eqD_iT {xs ys : List Int} : eqD (iT xs) (iT ys) = some (.bool (decide (xs = ys))) := PVL.eqD_tt
theorem neD_iT {xs ys : List Int} : neD (iT xs) (iT ys) = some (.bool (!decide (xs = ys))) := PVL.neD_tt

theorem addT {a b : List Int} (h : a.length + b.length ≤ 1000000) : addD (iT a) (iT b) = some (iT (a ++ b)) := by
  show (if _ then _ else _) = _
  rw [if_le (by rw [List.length_map, List.length_map]; exact h), ← List.map_append]
theorem mulT {a : List Int} {k : Nat} (h : a.length ≤ 1000) (h2 : k ≤ 1000) : mulD (iT a) (.int (k : Int)) = some (iT (List.replicate k a).flatten) := by
  show mulD (.tuple _) _ = _
  rw [mulD_t (by omega) (by omega) (by rw [List.length_map]; exact h), Int.toNat_natCast, iT, List.map_flatten, List.map_replicate]
theorem slT_to {a : List Int} {k : Nat} : slD (iT a) none (some (k : Int)) = some (iT (a.take k)) := by
  show some (PyData.tuple _) = _
  rw [PVL.cut_to, ← List.map_take]
theorem slT_from {a : List Int} {k : Nat} : slD (iT a) (some (k : Int)) none = some (iT (a.drop k)) := by
  show some (PyData.tuple _) = _
  rw [PVL.cut_from, ← List.map_drop]

theorem add1T {x : Int} {a : List Int} (h : a.length ≤ 100000) : addD (.tuple [.int x]) (iT a) = some (iT (x :: a)) := addT (a := [x]) (b := a) (by simp; omega)
theorem addT1 {x : Int} {a : List Int} (h : a.length ≤ 100000) : addD (iT a) (.tuple [.int x]) = some (iT (a ++ [x])) := addT (a := a) (b := [x]) (by simp; omega)
theorem mul1T {x : Int} {k : Nat} (h2 : k ≤ 1000) : mulD (.tuple [.int x]) (.int (k : Int)) = some (iT (List.replicate k x)) := by
  have := mulT (a := [x]) (k := k) (by simp) h2
  rw [rep_flat] at this
  exact this
end PV
namespace PVL
open PySem L2 PV
theorem likeT {a : List Int} (h : a.length ≤ 100000) : F__law_like 12 [iT a, iT a] = some (.bool true) := like_refl 10 12 _ (by decide) (tl_ints h)
theorem likeI {a : Int} : F__law_like 12 [.int a, .int a] = some (.bool true) := like_refl 10 12 _ (by decide) rfl
theorem likeB {a : Bool} : F__law_like 12 [.bool a, .bool a] = some (.bool true) := like_refl 10 12 _ (by decide) rfl
theorem likeN : F__law_like 12 [.none, .none] = some (.bool true) := like_refl 10 12 _ (by decide) rfl
theorem likeTs {f : List (List Int)} (h : f.length ≤ 100000) (h2 : ∀ q ∈ f, q.length ≤ 100000) : F__law_like 12 [.tuple (f.map iT), .tuple (f.map iT)] = some (.bool true) := like_refl 10 12 _ (by decide) (tl_t (by rw [List.length_map]; exact h) fun x hx => by
  obtain ⟨q, hq, rfl⟩ := List.mem_map.mp hx
  exact tl_ints (n := 8) (h2 q hq))
end PVL
end

section
set_option maxRecDepth 100000
set_option maxHeartbeats 4000000
namespace PV
open PySem L2
/-! ### int tuples in order -/
def lxL : List Int → List Int → Bool
  | [], [] => false
  | [], _ :: _ => true
  | _ :: _, [] => false
  | x :: a, y :: b => if x = y then lxL a b else decide (x < y)
theorem toks_c (x : Int) (a : List Int) : PySem.W.keyToksAll ((x :: a).map PyData.int) = Sum.inl 1 :: Sum.inl x :: PySem.W.keyToksAll (a.map PyData.int) := by
  rw [List.map_cons, PySem.W.toks_all_cons]; rfl
theorem toks_lx : ∀ a b : List Int, PyProof.Rows.lexLt PyProof.Rows.itemOrd (PySem.W.keyToksAll (a.map PyData.int)) (PySem.W.keyToksAll (b.map PyData.int)) = lxL a b
  | [], [] => by decide
  | [], y :: b => by
    rw [toks_c]
    show PyProof.Rows.lexLt PyProof.Rows.itemOrd [Sum.inl 0] (Sum.inl 1 :: _) = true
    rw [PyProof.Rows.lex_diff (O := PyProof.Rows.itemOrd) (by simp)]
    decide
  | x :: a, [] => by
    rw [toks_c]
    show PyProof.Rows.lexLt PyProof.Rows.itemOrd (Sum.inl 1 :: _) [Sum.inl 0] = false
    rw [PyProof.Rows.lex_diff (O := PyProof.Rows.itemOrd) (by simp)]
    decide
  | x :: a, y :: b => by
    rw [toks_c, toks_c, PyProof.Rows.lex_self (O := PyProof.Rows.itemOrd)]
    unfold lxL
    by_cases h : x = y
    · subst h
      rw [if_pos rfl, PyProof.Rows.lex_self (O := PyProof.Rows.itemOrd), toks_lx a b]
    · rw [if_neg h, PyProof.Rows.lex_diff (O := PyProof.Rows.itemOrd) (by simpa using h)]
      rfl
theorem dataLt_iT (a b : List Int) : PySem.W.dataLt (iT a) (iT b) = lxL a b := toks_lx a b
theorem alikeAll_ints : ∀ a b : List Int, PySem.W.alikeAll (a.map PyData.int) (b.map PyData.int) = true
  | [], _ => by simp [PySem.W.alikeAll]
  | _ :: _, [] => by simp [PySem.W.alikeAll]
  | x :: a, y :: b => by simp [PySem.W.alikeAll, PySem.W.alike, alikeAll_ints a b]
theorem alike_iT (a b : List Int) : PySem.W.alike (iT a) (iT b) = true := by
  show PySem.W.alikeAll _ _ = true
  exact alikeAll_ints a b
theorem ltOk_iT (a b : List Int) : ltOk (iT a) (iT b) = true := by
  unfold ltOk
  rw [gd_okD (gd_iT (n := 0) (ns := a)), gd_okD (gd_iT (n := 0) (ns := b)), alike_iT]; rfl
theorem ltD_iT {a b : List Int} : ltD (iT a) (iT b) = some (.bool (lxL a b)) := by
  show (if ltOk (iT a) (iT b) = true then some (PyData.bool (PySem.W.dataLt (iT a) (iT b))) else none) = _
  rw [if_pos (ltOk_iT a b), dataLt_iT]
theorem leD_iT {a b : List Int} : leD (iT a) (iT b) = some (.bool (!lxL b a)) := by
  show (if ltOk (iT a) (iT b) = true then some (PyData.bool (!PySem.W.dataLt (iT b) (iT a))) else none) = _
  rw [if_pos (ltOk_iT a b), dataLt_iT]
theorem gtD_iT {a b : List Int} : gtD (iT a) (iT b) = some (.bool (lxL b a)) := by
  show (if ltOk (iT a) (iT b) = true then some (PyData.bool (PySem.W.dataLt (iT b) (iT a))) else none) = _
  rw [if_pos (ltOk_iT a b), dataLt_iT]
theorem geD_iT {a b : List Int} : geD (iT a) (iT b) = some (.bool (!lxL a b)) := by
  show (if ltOk (iT a) (iT b) = true then some (PyData.bool (!PySem.W.dataLt (iT a) (iT b))) else none) = _
  rw [if_pos (ltOk_iT a b), dataLt_iT]
theorem lx_irr : ∀ a : List Int, lxL a a = false
  | [] => rfl
  | x :: a => by simp [lxL, lx_irr a]
theorem lx_trans : ∀ {a b c : List Int}, lxL a b = true → lxL b c = true → lxL a c = true
  | [], [], _, h, _ => by simp [lxL] at h
  | _ :: _, [], _, h, _ => by simp [lxL] at h
  | _, _ :: _, [], _, h => by simp [lxL] at h
  | [], _ :: _, _ :: _, _, _ => rfl
  | x :: a, y :: b, z :: c, h1, h2 => by
    unfold lxL at h1 h2 ⊢
    split at h1
    · rename_i e; subst e
      split at h2
      · rename_i e; subst e
        rw [if_pos rfl]; exact lx_trans h1 h2
      · rename_i e; rw [if_neg e]; exact h2
    · rename_i e1
      have h1 := of_decide_eq_true h1
      split at h2
      · rename_i e; subst e
        rw [if_neg e1]; exact decide_eq_true h1
      · have h2 := of_decide_eq_true h2
        rw [if_neg (by omega)]; exact decide_eq_true (by omega)
theorem lx_tri : ∀ {a b : List Int}, lxL a b = false → lxL b a = false → a = b
  | [], [], _, _ => rfl
  | [], _ :: _, h, _ => by simp [lxL] at h
  | _ :: _, [], _, h => by simp [lxL] at h
  | x :: a, y :: b, h1, h2 => by
    unfold lxL at h1 h2
    by_cases e : x = y
    · subst e
      rw [if_pos rfl] at h1 h2
      rw [lx_tri h1 h2]
    · rw [if_neg e] at h1
      rw [if_neg fun q => e q.symm] at h2
      have := of_decide_eq_false h1
      have := of_decide_eq_false h2
      omega
theorem lx_asym {a b : List Int} (h : lxL a b = true) : lxL b a = false := by
  cases q : lxL b a with
  | false => rfl
  | true => rw [← lx_irr a]; exact (lx_trans h q).symm
theorem lx_app : ∀ {a b c d : List Int}, a.length = b.length → lxL (a ++ c) (b ++ d) = if a = b then lxL c d else lxL a b
  | [], [], _, _, _ => by simp
  | [], _ :: _, _, _, h => by simp at h
  | _ :: _, [], _, _, h => by simp at h
  | x :: a, y :: b, c, d, h => by
    have ih := lx_app (a := a) (b := b) (c := c) (d := d) (by simpa using h)
    simp only [List.cons_append, lxL]
    by_cases e : x = y
    · subst e
      simp only [if_true, ih, List.cons.injEq, true_and]
    · simp only [if_neg e, List.cons.injEq, e, false_and, if_false]
/-- the least of some -/
def lstL (x : List Int) (xs : List (List Int)) : List Int := xs.foldl (fun a y => if lxL y a then y else a) x
def mstL (x : List Int) (xs : List (List Int)) : List Int := xs.foldl (fun a y => if lxL a y then y else a) x
theorem leastD_iT : ∀ (xs : List (List Int)) (x : List Int), leastD (iT x) (xs.map iT) = iT (lstL x xs)
  | [], _ => rfl
  | y :: r, x => by
    have ih1 := leastD_iT r y
    have ih2 := leastD_iT r x
    unfold leastD lstL at ih1 ih2 ⊢
    rw [List.map_cons, List.foldl_cons, List.foldl_cons, dataLt_iT]
    cases lxL y x with
    | true => exact ih1
    | false => exact ih2
theorem lstL_spec : ∀ (xs : List (List Int)) (x : List Int), lstL x xs ∈ x :: xs ∧ ∀ y ∈ x :: xs, lxL y (lstL x xs) = false
  | [], x => ⟨by simp [lstL], fun y hy => by rw [show y = x by simpa using hy]; exact lx_irr x⟩
  | y :: r, x => by
    unfold lstL
    rw [List.foldl_cons]
    cases h : lxL y x with
    | true =>
      obtain ⟨a, b⟩ := lstL_spec r y
      refine ⟨List.mem_cons_of_mem _ a, fun z hz => ?_⟩
      rcases List.mem_cons.mp hz with rfl | hz
      · cases q : lxL z (lstL y r) with
        | false => exact q
        | true =>
          have := lx_trans h q
          rw [b y (by simp)] at this
          cases this
      · exact b z hz
    | false =>
      obtain ⟨a, b⟩ := lstL_spec r x
      refine ⟨?_, fun z hz => ?_⟩
      · rcases List.mem_cons.mp a with e | e
        · exact List.mem_cons.mpr (.inl e)
        · exact List.mem_cons_of_mem _ (List.mem_cons_of_mem _ e)
      · rcases List.mem_cons.mp hz with rfl | hz
        · exact b z (by simp)
        · rcases List.mem_cons.mp hz with rfl | hz
          · cases q : lxL z (lstL x r) with
            | false => exact q
            | true =>
              have hx := b x (by simp)
              by_cases e : x = lstL x r
              · rw [e] at h; rw [h] at q; cases q
              · have : lxL (lstL x r) x = true := by
                  cases w : lxL (lstL x r) x with
                  | true => rfl
                  | false => exact absurd (lx_tri hx w) e
                rw [lx_trans q this] at h; cases h
          · exact b z (List.mem_cons_of_mem _ hz)
theorem alikeL_iTs (xs : List (List Int)) : alikeL (xs.map iT) = true := List.all_eq_true.mpr fun d hd => List.all_eq_true.mpr fun e he => by
  obtain ⟨a, _, rfl⟩ := List.mem_map.mp hd
  obtain ⟨b, _, rfl⟩ := List.mem_map.mp he
  exact alike_iT a b
theorem mmOk_iTs (xs : List (List Int)) : mmOk (xs.map iT) = true := by
  unfold mmOk
  rw [alikeL_iTs, gd_okD (gd_LiT xs), Bool.true_and, Bool.true_and]
  refine List.all_eq_true.mpr fun d hd => ?_
  obtain ⟨a, _, rfl⟩ := List.mem_map.mp hd
  rfl
/-- min of a list of int tuples -/
theorem minD_iTs {xs : List (List Int)} (h : xs ≠ []) : ∃ m, minD [.list (xs.map iT)] = some (iT m) ∧ m ∈ xs ∧ ∀ y ∈ xs, lxL y m = false := by
  cases xs with
  | nil => exact absurd rfl h
  | cons x r =>
    obtain ⟨a, b⟩ := lstL_spec r x
    refine ⟨lstL x r, ?_, a, b⟩
    show (if mmOk ((x :: r).map iT) = true then some (leastD (iT x) (r.map iT)) else none) = _
    rw [if_pos (mmOk_iTs _), leastD_iT]
theorem least_uniq {xs ys : List (List Int)} {m k : List Int} (h1 : m ∈ xs) (h2 : ∀ y ∈ xs, lxL y m = false) (h3 : k ∈ ys) (h4 : ∀ y ∈ ys, lxL y k = false) (e : ∀ z, z ∈ xs ↔ z ∈ ys) : m = k :=
  lx_tri (h4 m ((e m).mp h1)) (h2 k ((e k).mpr h3))
end PV
end

section
set_option maxRecDepth 100000
set_option maxHeartbeats 8000000
namespace PV
open PySem PySem.Spec PyProof.Rows L2
section
variable {P : Program} {w : World} {A : Around} {E : Value → Shared → Prop} {s : Shared}
abbrev setO (w : World) : Obj := { cls := .type "set", dict := none, data := .set #[] 0 (.fresh 0 0 (!w.params.followText "set-order")) }
/-- set(xs) of a list of ints -/
theorem set_listI {l : Addr} {items : Array Value} (ns : List Int) {Q : Value → Shared → Prop} (hh : A.handled = none) (hl : s.heap.IsList l items) (hit : IntsAre items.toList ns) (hb : ns.length + 1 < scanBound)
    (h : ∀ (h' : Heap) (tk c : Nat), SetR w h' s.heap.objs.size (fun j => decide (j ∈ ns)) c → c ≤ ns.length → (∀ b o, s.heap.get? b = some o → h'.get? b = some o) → Q (.ref s.heap.objs.size) { s with heap := h', toks := tk }) :
    wpAny (model P w) A (call (.type "set") [.ref l]) Q E s := by
  have hisz : items.size = ns.length := by
    have q := IntsAre.length hit
    rw [Array.length_toList] at q
    exact q
  obtain ⟨c, tl, hmro⟩ := F.called_set.mro
  have hmade := F.called_set.made
  have hsub := F.called_set.sub
  refine wpAny_call (codeAny_of_tree ?_)
  show wpAny _ _ (callAny (.type "set") _) _ _ _
  refine wpAny_pure ⟨Code.quiet_builtin _ (by decide +kernel), codeAny_builtin F.entry_type_call ?_⟩
  rw [Around.under_plain (weight_type_call_type "set" [.ref l] []) rfl]
  have h1 := F.called_set.notType
  have h2 := F.called_set.canCreate
  have hct := F.typeCall_set_1 (.ref l)
  repeat (any_goals (first | assumption | wp_step))

  refine codeAny_mono (code_set_led1 (.ref l) (E := E) (Q₁ := fun obj s₁ => obj = .ref s.heap.objs.size ∧ s₁ = { s with heap := s.heap.push (setO w) }) ⟨rfl, rfl⟩) fun r s₁ hr => ?_
  match r, hr with
  | .error e, hr => exact hr
  | .ok (.ret obj), hr =>
      obtain ⟨rfl, rfl⟩ := hr
      have hS : (s.heap.push (setO w)).get? s.heap.objs.size = some (setO w) := Heap.get?_push_size _ rfl
      have hT : Shared.TypeIs { s with heap := s.heap.push (setO w) } (.ref s.heap.objs.size) "set" := ⟨_, hS, rfl⟩
      have hli := F.called_set.init.lookup
      have hbi := F.called_set.init.bind (.ref s.heap.objs.size)
      repeat (any_goals (first | assumption | wp_step))

      refine codeAny_mono (codeAny_call_builtin (R := wants (fun r s₂ => r = .none ∧ ∃ h' tk c, s₂ = { s with heap := h', toks := tk } ∧ SetR w h' s.heap.objs.size (fun j => decide (j ∈ ns)) c ∧ c ≤ ns.length ∧
          (∀ b o, s.heap.get? b = some o → h'.get? b = some o)) E) F.called_set.init.plain F.entry_set_init (check_set_init_1 hT ?_)) fun r₂ s₂ hr₂ => ?_
      · obtain ⟨ol, hol, hcl, nl, hdl⟩ := hl
        obtain ⟨ocls, odict, odata, oslots⟩ := ol
        simp only at hcl hdl
        subst hcl; subst hdl
        have hol' : (s.heap.push (setO w)).get? l = some { cls := .type "list", dict := odict, data := .seq items nl, slots := oslots } := Heap.get?_push_of_some _ hol
        have hsls := F.sub_list_set
        have hslf := F.sub_list_frozenset
        have hne : (Value.type "list" == Value.type "dict") = false := by decide
        have hl1 : (s.heap.push (setO w)).IsList l items := ⟨_, hol', rfl, nl, rfl⟩
        unfold Builtin.«set.__init__» noKeywords Builtin.Frozenset.updateFrom
        generalize hPI : pyIter = PI
        wp_walk
        subst hPI

        refine wpAny_pyIter_list hl1 ?_
        refine wpAny_bind (wpAny_runValue ?_)
        have hlS : l < s.heap.objs.size := Heap.lt_size hol
        have hh3 : A.in1.in1.in1.handled = none := by simp [hh]
        have hneI : l ≠ (s.heap.push (setO w)).objs.size := by
          rw [Heap.size_push]; exact Nat.ne_of_lt (Nat.lt_succ_of_lt hlS)
        have hSf : s.heap.objs.size ∉ [(s.heap.push (setO w)).objs.size, l] := by
          rw [Heap.size_push]; simp only [List.mem_cons, List.mem_singleton, List.not_mem_nil, or_false, not_or]
          exact ⟨Nat.ne_of_lt (Nat.lt_succ_self _), Nat.ne_of_gt hlS⟩
        have hval : ∀ (i : Nat) (v : Value), items[i]? = some v → ∃ k t, ns[i]? = some k ∧ v = .int k t := fun i v hv => by
          have hi : i < ns.length := by rw [← hisz]; exact (Array.getElem?_eq_some_iff.mp hv).1
          obtain ⟨t, e⟩ := IntsAre.int_at hit i v (by rw [Array.getElem?_toList]; exact hv)
          refine ⟨ns[i], t, List.getElem?_eq_getElem hi, ?_⟩
          rw [e, List.getD_eq_getElem?_getD, List.getElem?_eq_getElem hi] <;> rfl
        refine set_update_ints ((Walks.list hh3 _ l hneI items).toS) s.heap.objs.size
          hSf ns hisz hb hval (items.size - 0) 0 _ (by omega) (Nat.zero_le _)
          ⟨⟨_, Heap.get?_push_size _ rfl, rfl, rfl⟩, (hl1.push _)⟩ ?hS0 ?hR
        case hS0 => exact ⟨0, Nat.le_refl 0, setR_new_at (Heap.get?_push_of_some _ hS)⟩
        case hR =>
          intro s' c' hm hc' hS'
          obtain ⟨h', g2, d', tk', os'⟩ := s'
          have eg : g2 = s.gens := hm.gens
          have ed : d' = s.drawn := hm.drawn
          have eo : os' = s.os := hm.os
          subst eg; subst ed; subst eo
          show wpAny _ _ _ _ _ _
          refine wpAny_pure ?_
          show wpAny _ _ (ret Value.none) _ _ _
          rw [hisz] at hc'
          refine wpAny_pure ⟨rfl, h', tk', c', rfl, hS', hc', fun b o e => ?_⟩
          have hb0 : b < s.heap.objs.size := Heap.lt_size e
          have hb1 : b ≠ s.heap.objs.size := Nat.ne_of_lt hb0
          have hb2 : b ≠ (s.heap.push (setO w)).objs.size := by
            rw [Heap.size_push]; exact Nat.ne_of_lt (Nat.lt_succ_of_lt hb0)
          exact hm.heap b o (by simp only [List.mem_cons, List.mem_singleton, List.not_mem_nil, or_false, not_or]; exact ⟨hb1, hb2⟩) (Heap.get?_push_of_some _ (Heap.get?_push_of_some _ e))
      · match r₂, hr₂ with
        | .error e, hr₂ => exact hr₂
        | .ok (.ret r), hr₂ =>
            obtain ⟨rfl, h', tk, c', rfl, hS', hc', hk'⟩ := hr₂
            repeat (any_goals (first | assumption | wp_step))
            exact h _ _ _ hS' hc' hk'
end
def srtsetD : D → Option (List D)
  | .list ds => (ints? ds).bind fun ns => if ns.length ≤ 4000 ∧ (dd ns).length < 64 then some ((sortI (dd ns)).map .int) else none
  | .tuple ds => (ints? ds).bind fun ns => if ns.length ≤ 4000 ∧ (dd ns).length < 64 then some ((sortI (dd ns)).map .int) else none
  | _ => none
theorem dd_sorted {ns zs : List Int} (h1 : zs.Pairwise (· < ·)) (h2 : ∀ k, k ∈ zs ↔ decide (k ∈ ns) = true) : zs = sortI (dd ns) := by
  refine (sortI_of (?_ : zs.Perm (dd ns)) (h1.imp fun h => Int.le_of_lt h))
  refine (List.perm_ext_iff_of_nodup (h1.imp fun h => Int.ne_of_lt h) (dd_nodup ns)).mpr fun k => ?_
  rw [h2, decide_eq_true_eq, dd_mem]
theorem setR_len {w : World} {h : Heap} {a : Addr} {ns : List Int} {c : Nat} (R : SetR w h a (fun j => decide (j ∈ ns)) c) : c = (dd ns).length := by
  obtain ⟨o, es, ep, t, ho, hex, hd, g, nd, hm3, hb, hf, hn, hr, hl2⟩ := R
  have := nodup_len nd (dd_nodup ns) fun x => (hm3 x).symm.trans (by rw [decide_eq_true_eq]; exact dd_mem.symm)
  rw [List.length_map, Array.length_toList] at this
  rw [← hn, this]
def tSrtSetG (K : PySem.W.Frag) (ta : TE) : TE := fun σ H Q => ta σ H fun x H1 => ∃ (l : Addr) (ns : List Int), x = .ref l ∧ (SqL K H1 l (ns.map V.int) ∨ SqT K H1 l (ns.map V.int)) ∧ ns.length ≤ 4000 ∧ (dd ns).length < 64 ∧
  ∀ p, H1 p = none → Q (.ref p) (upd H1 p (.lst ((sortI (dd ns)).map V.int)))
theorem pe_srtSetG {X : Cx} {a : Expr} {ta : TE} {p p2 q pos : Pos} (hg : Gl X "sorted") (hm : X.mg "sorted" = none) (hg2 : Gl X "set") (hm2 : X.mg "set" = none) (hbs : bootBuiltins "sorted" = some (.builtin "sorted")) (ha : PE X a ta) (hc : X.calm = true := by rfl)
    (na : starEach [a] X.env = (false, eval a X.env) :: starEach [] X.env := by rfl) : PE X (.Call (.Name "sorted" p) [.Call (.Name "set" p2) [a] [] q] [] pos) (tSrtSetG X.K ta) := by
  refine ⟨fun pins s σ H Q I h => ?_⟩
  refine Call_ (ld_blt I hg hm hbs ?_)
  refine PyProof.Rows.callWith_builtin1 (PyProof.Rows.args_cons ?_ rfl) rfl rfl
  refine Call_ (ld_blt I hg2 hm2 boot_set ?_)
  refine PyProof.Rows.callWith_type1 (PyProof.Rows.args_cons (thn (ha.run pins s σ H _ I h) fun v s1 ⟨x, H1, I1, r1, q1⟩ => PyProof.Rows.args_nil ?_) na) na rfl
  obtain ⟨l, ns, rfl, hq, hl, hl2, q1⟩ := q1
  cases r1
  have fin : ∀ {E : Value → Shared → Prop} (s2 : Shared) (a : Addr) (c : Nat), SetR X.w s2.heap a (fun j => decide (j ∈ ns)) c → Inv X pins σ H1 s2 →
      wpAny (model X.prog X.w) X.A (call (.builtin "sorted") [.ref a]) (EP X pins σ Q) E s2 := fun {E} s2 a c R I2 => by
    obtain rfl := setR_len R
    refine sorted_set R (I2.ok.hd hc) hl2 fun s' p out c ns' k g o hp hgt hi hs hm hl3 => ?_
    obtain rfl := dd_sorted hs hm
    have hlen : ((sortI (dd ns)).map V.int).length ≤ sizeLine := by rw [List.length_map, hl3, sizeLine_eq]; omega
    have hn : H1 p = none := I2.hok.fresh hp
    have J : Inv X pins σ (upd H1 p (.lst ((sortI (dd ns)).map V.int))) { s2 with heap := s'.heap, gens := s'.gens, drawn := s'.drawn, toks := s'.toks } :=
      I2.call (ch := []) (Un.laid k hp hn) (I2.hok.laid k hp ⟨hlen, out.toList, c, vals_of_ints hi, hgt⟩) (by rw [g]; exact I2.bare) (fun _ z => nomatch z)
    have e : s' = { s2 with heap := s'.heap, gens := s'.gens, drawn := s'.drawn, toks := s'.toks } := by
      cases s'
      cases s2
      cases o
      rfl
    rw [e]
    exact ⟨.ref p, _, J, rfl, q1 p hn⟩
  rcases hq with hq | hq
  · obtain ⟨its, rv, pl, hz⟩ := I1.list hq
    exact set_listI ns (I1.ok.hd hc) pl.isList (ints_of_vals rv) (by unfold scanBound; omega) fun h' tk c R _ k => PyProof.Rows.args_nil (fin { s1 with heap := h', toks := tk } _ c R (I1.kept k))
  · obtain ⟨its, rv, pt, hz⟩ := I1.tuple hq
    exact call_set_tupI ns (I1.ok.hd hc) (show s1.heap.IsTuple l its.toArray from pt) (ints_of_vals rv) (by unfold scanBound; omega) fun h' tk c R _ k => PyProof.Rows.args_nil (fin { s1 with heap := h', toks := tk } _ c R (I1.kept k))
def nSS (da : Ev → Option D) : Ev → Option (List D) := fun env => (da env).bind srtsetD
theorem nSS_ap {da : Ev → Option D} {env : Ev} : nSS da env = (da env).bind srtsetD := id rfl
theorem vsrtset {X : Cx} {a : Expr} {da : Ev → Option D} {p p2 q pos : Pos} (ha : PVB X a da) (hm : X.mg "sorted" = none) (hm2 : X.mg "set" = none) (hbs : bootBuiltins "sorted" = some (.builtin "sorted")) (hg : Gl X "sorted" := by rfl) (hg2 : Gl X "set" := by rfl) (hc : X.calm = true := by rfl)
    (na : starEach [a] X.env = (false, eval a X.env) :: starEach [] X.env := by rfl) : PVN X (.Call (.Name "sorted" p) [.Call (.Name "set" p2) [a] [] q] [] pos) (nSS da) :=
  PE.imp (pe_srtSetG hg hm hg2 hm2 hbs ha hc na) fun σ H Q ⟨H0, F0, env, F, zs, rl, ed, k⟩ => by
    obtain ⟨d, h1, ed⟩ := Option.bind_eq_some_iff.mp ed
    refine ⟨H0, F0, env, F, d, rl, h1, fun y F1 H1 g1 b1 => ?_⟩
    unfold srtsetD at ed; split at ed
    · obtain ⟨ns, h2, ed⟩ := Option.bind_eq_some_iff.mp ed
      obtain ⟨h3, rfl⟩ := ite_some ed
      obtain rfl := ints_some h2
      obtain ⟨a, vs, rfl, ha, va⟩ := b1.lst g1.sub
      obtain rfl := DvA.ints_inv va
      exact ⟨a, ns, rfl, .inl (SqL.of ha), h3.1, h3.2, fun p hp => k p _ F1 _ (g1.trans (Grow.made g1.sub hp)) (by
        cases hh : H p with
        | none => rfl
        | some o => rw [g1.hh p o hh] at hp; cases hp) upd_same (fnone g1.sub hp) (DvA.ints _)⟩
    · obtain ⟨ns, h2, ed⟩ := Option.bind_eq_some_iff.mp ed
      obtain ⟨h3, rfl⟩ := ite_some ed
      obtain rfl := ints_some h2
      obtain ⟨a, vs, rfl, ha, fa, va⟩ := b1.tup g1.sub
      obtain rfl := DvA.ints_inv va
      exact ⟨a, ns, rfl, .inr (SqT.of ha), h3.1, h3.2, fun p hp => k p _ F1 _ (g1.trans (Grow.made g1.sub hp)) (by
        cases hh : H p with
        | none => rfl
        | some o => rw [g1.hh p o hh] at hp; cases hp) upd_same (fnone g1.sub hp) (DvA.ints _)⟩
    · cases ed
theorem srtsetD_l {ns : List Int} (h : ns.length ≤ 4000) (h2 : (dd ns).length < 64) : srtsetD (.list (ns.map .int)) = some ((sortI (dd ns)).map .int) := by
  show (ints? _).bind _ = _
  rw [ints_map]; exact if_pos ⟨h, h2⟩
theorem srtsetD_t {ns : List Int} (h : ns.length ≤ 4000) (h2 : (dd ns).length < 64) : srtsetD (.tuple (ns.map .int)) = some ((sortI (dd ns)).map .int) := by
  show (ints? _).bind _ = _
  rw [ints_map]; exact if_pos ⟨h, h2⟩
end PV
end

section
set_option maxRecDepth 100000
set_option maxHeartbeats 4000000
namespace PV
open PySem PySem.Spec PyProof.Rows L2
/-! ### {1: x, 2: y}[i] -/
def dpN : Ev → Option (List (Int × D)) := fun _ => some []
def dpC (dk dv : Ev → Option D) (dr : Ev → Option (List (Int × D))) : Ev → Option (List (Int × D)) := fun env => (dk env).bind fun k => (dv env).bind fun v => (dr env).bind fun r => (isI k).bind fun i => some ((i, v) :: r)
def mkPs : List (Int × D) → List V → List (V × V)
  | (i, _) :: r, v :: vs => (.int i, v) :: mkPs r vs
  | _, _ => []
def rdPs (K : PySem.W.Frag) (dr : Ev → Option (List (Int × D))) : St → Hp → (List (V × V) → Hp → Prop) → Prop := fun σ H Q => ∃ H0 F0 env F kds, Rel K H0 F0 env σ F H ∧ dr env = some kds ∧
  ∀ vs F1 H1, Grow F H F1 H1 → DvA K F1 vs (kds.map Prod.snd) → Q (mkPs kds vs) H1
def PVPs (X : Cx) (pos : Pos) (keys : List (Option Expr)) (vals : List Expr) (dr : Ev → Option (List (Int × D))) : Prop := ∃ trs, PPs X pos keys vals trs ∧ ∀ σ H Q, rdPs X.K dr σ H Q → tPairs trs σ H Q
theorem vps_nil {X : Cx} {pos : Pos} : PVPs X pos [] [] dpN := ⟨[], pps_nil, fun σ H Q ⟨H0, F0, env, F, kds, rl, ed, k⟩ => by cases ed; exact k [] F H (Grow.refl rl.sub) .nil⟩
theorem vps_cons {X : Cx} {pos : Pos} {k v : Expr} {ks : List (Option Expr)} {vs : List Expr} {dk dv : Ev → Option D} {dr : Ev → Option (List (Int × D))} (hk : PVE X k dk) (hv : PVE X v dv) (hr : PVPs X pos ks vs dr) :
    PVPs X pos (some k :: ks) (v :: vs) (dpC dk dv dr) := by
  obtain ⟨trs, h1, h2⟩ := hr
  refine ⟨_, pps_cons hk hv h1, fun σ H Q ⟨H0, F0, env, F, kds, rl, ed, kk⟩ => ?_⟩
  obtain ⟨dk, e1, ed⟩ := Option.bind_eq_some_iff.mp ed
  obtain ⟨dv, e2, ed⟩ := Option.bind_eq_some_iff.mp ed
  obtain ⟨r, e3, ed⟩ := Option.bind_eq_some_iff.mp ed
  obtain ⟨i, e4, ed⟩ := Option.bind_eq_some_iff.mp ed
  cases ed
  obtain rfl := isI_some e4
  refine ⟨H0, F0, env, F, _, rl, e1, fun x F1 H1 g1 b1 => ⟨H0, F0, env, F1, dv, rl.grow g1, e2, fun y F2 H2 g2 b2 => ?_⟩⟩
  refine h2 _ _ _ ⟨H0, F0, env, F2, r, (rl.grow g1).grow g2, e3, fun ws F3 H3 g3 b3 => ?_⟩
  cases b1
  exact kk (y :: ws) F3 H3 ((g1.trans g2).trans g3) (.cons (b2.mono (g3.ff g2.sub)) b3)
def getL (kvs : List (Int × D)) (j : Int) : Option D := kvs.foldl (fun a kv => if kv.1 = j then some kv.2 else a) none
def mkK : List (Int × D) → List V → List (Key × V)
  | (i, _) :: r, v :: vs => (.inl i, v) :: mkK r vs
  | _, _ => []
theorem mkPs_eq : ∀ (kds : List (Int × D)) (vs : List V), mkPs kds vs = (mkK kds vs).map fun kv => (kV kv.1, kv.2)
  | [], _ => rfl
  | _ :: _, [] => rfl
  | (i, d) :: r, v :: vs => congrArg (_ :: ·) (mkPs_eq r vs)
theorem mkK_len : ∀ (kds : List (Int × D)) (vs : List V), (mkK kds vs).length ≤ kds.length
  | [], _ => Nat.le_refl _
  | _ :: _, [] => Nat.zero_le _
  | (i, d) :: r, v :: vs => Nat.succ_le_succ (mkK_len r vs)
theorem valV_merge {κ : Key} : ∀ (more kvs : List (Key × V)), valV (mergeK kvs more) κ = more.foldl (fun a kv => if kv.1 = κ then some kv.2 else a) (valV kvs κ)
  | [], _ => rfl
  | p :: r, kvs => by
    show valV (mergeK (putK kvs p.1 p.2) r) κ = _
    rw [valV_merge r, List.foldl_cons, valV_put]
    congr 1
    by_cases h : κ = p.1
    · rw [if_pos h, if_pos h.symm]
    · rw [if_neg h, if_neg fun e => h e.symm]
theorem getL_rel {K : PySem.W.Frag} {F : Hp} {j : Int} : ∀ {kds : List (Int × D)} {vs : List V}, DvA K F vs (kds.map Prod.snd) → ∀ (o : Option V) (p : Option D), (∀ d, p = some d → ∃ x, o = some x ∧ Dv K F x d) →
    ∀ d, kds.foldl (fun a kv => if kv.1 = j then some kv.2 else a) p = some d → ∃ x, (mkK kds vs).foldl (fun a kv => if kv.1 = Sum.inl j then some kv.2 else a) o = some x ∧ Dv K F x d
  | [], _, _, o, p, h, d, e => by cases ‹DvA K F _ _›; exact h d e
  | (i, z) :: r, vs, b, o, p, h, d, e => by
    cases b with
    | cons b1 b2 =>
      refine getL_rel b2 _ _ ?_ d e
      intro d2 e2
      replace e2 : (if i = j then some z else p) = some d2 := e2
      show ∃ x, (if (Sum.inl i : Key) = Sum.inl j then some _ else o) = some x ∧ _
      by_cases hij : i = j
      · subst hij
        rw [if_pos rfl] at e2
        cases e2
        exact ⟨_, if_pos rfl, b1⟩
      · rw [if_neg hij] at e2
        obtain ⟨x, ex, hx⟩ := h d2 e2
        exact ⟨x, (if_neg fun c => hij (Sum.inl.inj c)).trans ex, hx⟩
def eDsp (dr : Ev → Option (List (Int × D))) (di : Ev → Option D) : Ev → Option D := fun env => (dr env).bind fun kvs => (di env).bind fun i => (isI i).bind fun j => if kvs.length ≤ 15 then getL kvs j else none
theorem eDsp_ap {dr : Ev → Option (List (Int × D))} {di : Ev → Option D} {env : Ev} : eDsp dr di env = (dr env).bind fun kvs => (di env).bind fun i => (isI i).bind fun j => if kvs.length ≤ 15 then getL kvs j else none := id rfl
theorem vdsp {X : Cx} {pos pos2 : Pos} {keys : List (Option Expr)} {vals : List Expr} {i : Expr} {dr : Ev → Option (List (Int × D))} {di : Ev → Option D} {k : Nat} (hr : Room k X.A) (hp : PVPs X pos keys vals dr) (hi : PVE X i di) (hs : NoSl i)
    (hall : keys.all (·.isSome) = true := by rfl) (hl : keys.length = vals.length := by rfl) (h0 : keys ≠ [] := by simp) (h15 : keys.length ≤ 15 := by decide) : PVE X (.Subscript (.Dict keys vals pos) i pos2) (eDsp dr di) := by
  obtain ⟨trs, p1, p2⟩ := hp
  have hun := hr.un
  refine PE.imp (pe_dget (by omega) (pe_disp p1 hall hl h0 h15) hi hs) fun σ H Q ⟨H0, F0, env, F, d, rl, ed, k⟩ => ?_
  obtain ⟨kds, e1, ed⟩ := Option.bind_eq_some_iff.mp ed
  obtain ⟨di, e2, ed⟩ := Option.bind_eq_some_iff.mp ed
  obtain ⟨j, e3, ed⟩ := Option.bind_eq_some_iff.mp ed
  obtain rfl := isI_some e3
  replace ed : (if kds.length ≤ 15 then getL kds j else none) = some d := ed
  split at ed <;> try cases ed
  rename_i hz
  intro p hp
  have g0 : Grow F H F (upd H p (.dK [])) := Grow.made rl.sub hp
  refine p2 _ _ _ ⟨H0, F0, env, F, kds, rl.grow g0, e1, fun vs F1 H1 g1 b1 => ?_⟩
  have h1 : H1 p = some (.dK []) := g1.hh p _ upd_same
  refine ⟨h1, mkK kds vs, mkPs_eq kds vs, by have := mkK_len kds vs; omega, ?_⟩
  have hF1 : F1 p = none := g1.fr.none upd_same (fun _ z => nomatch z) (fnone rl.sub hp)
  have g2 : Grow F H F1 (upd H1 p (.dK (mergeK [] (mkK kds vs)))) := {
    hh := fun a o e => by
      have ne : a ≠ p := fun c => by rw [c, hp] at e; cases e
      rw [upd_ne ne]
      exact g1.hh a o (by rw [upd_ne ne]; exact e)
    fr := fun a h => by
      have ne : a ≠ p := fun c => h (by rw [c]; exact hp)
      rcases g1.fr a (by rw [upd_ne ne]; exact h) with q | ⟨xs, q, q2⟩
      · exact .inl q
      · rw [upd_ne ne] at q
        exact .inr ⟨xs, q, q2⟩
    sub := fun a o e => by
      have ne : a ≠ p := fun c => by rw [c, hF1] at e; cases e
      rw [upd_ne ne]; exact g1.sub a o e }
  refine ⟨H0, F0, env, F1, _, rl.grow g2, e2, fun y F2 H2 g3 b2 => ?_⟩
  cases b2
  obtain ⟨x, hx, hv⟩ := getL_rel b1 none none (fun d e => by cases e) d ed
  refine ⟨p, x, rfl, ?_, k x F2 H2 (g2.trans g3) (hv.mono (g3.ff g2.sub))⟩
  have hv2 : valV (mergeK [] (mkK kds vs)) (Sum.inl j) = some x := by rw [valV_merge]; exact hx
  rw [← hv2]
  exact DGet.k (k := Sum.inl j) (g3.hh p _ upd_same)
end PV
end

section
set_option maxRecDepth 100000
set_option maxHeartbeats 4000000
namespace PVL
open PySem L2 PV
/-! ### two fors with a condition -/
theorem lc2L_filter {α β : Type} {tgt tgt1 : Tgt} {cond cond1 : Ev → Option Bool} {src1 : Ev → Option (List D)} {vs1 : List Nat} {elt : Ev → Option D} {f : α → D} {g : α → β → D} {zs : α → List β} {p : α → β → Bool} {h : α → β → D} {env : Ev} :
    ∀ {xs : List α}, (∀ x ∈ xs, ∃ e1, tgt (f x) env = some e1 ∧ cond e1 = some true ∧ src1 e1 = some ((zs x).map (g x)) ∧ ∀ z ∈ zs x, ∃ e2, tgt1 (g x z) (fgs e1 vs1) = some e2 ∧ cond1 e2 = some (p x z) ∧ (p x z = true → elt e2 = some (h x z))) →
      lc2L tgt cond src1 vs1 tgt1 cond1 elt (xs.map f) env = some (xs.flatMap fun x => ((zs x).filter (p x)).map (h x))
  | [], _ => rfl
  | x :: r, H => by
    obtain ⟨e1, h1, h2, h3, h4⟩ := H x (by simp)
    have ih := lc2L_filter (tgt := tgt) (tgt1 := tgt1) (cond := cond) (cond1 := cond1) (src1 := src1) (vs1 := vs1) (elt := elt) (f := f) (g := g) (zs := zs) (p := p) (h := h) (env := env) (xs := r) fun y hy => H y (by simp [hy])
    show (tgt (f x) env).bind _ = _
    rw [h1]
    show (cond e1).bind _ = _
    rw [h2]
    show (src1 e1).bind _ = _
    rw [h3]
    show (lcL tgt1 cond1 elt ((zs x).map (g x)) (fgs e1 vs1)).bind _ = _
    rw [lcL_filter h4]
    show (lc2L tgt cond src1 vs1 tgt1 cond1 elt (r.map f) env).map _ = _
    rw [ih]; rfl
theorem nLc2_filter {α β : Type} {vs : List Nat} {src : Ev → Option (List D)} {tgt tgt1 : Tgt} {cond cond1 : Ev → Option Bool} {src1 : Ev → Option (List D)} {vs1 : List Nat} {elt : Ev → Option D} {f : α → D} {g : α → β → D} {zs : α → List β} {p : α → β → Bool} {h : α → β → D} {env : Ev} {xs : List α}
    (hs : src env = some (xs.map f)) (hl : (xs.flatMap fun x => ((zs x).filter (p x)).map (h x)).length ≤ line)
    (H : ∀ x ∈ xs, ∃ e1, tgt (f x) (fgs env vs) = some e1 ∧ cond e1 = some true ∧ src1 e1 = some ((zs x).map (g x)) ∧ ∀ z ∈ zs x, ∃ e2, tgt1 (g x z) (fgs e1 vs1) = some e2 ∧ cond1 e2 = some (p x z) ∧ (p x z = true → elt e2 = some (h x z))) :
      nLc2 vs src tgt cond src1 vs1 tgt1 cond1 elt env = some (xs.flatMap fun x => ((zs x).filter (p x)).map (h x)) := by
  unfold nLc2
  rw [hs]
  show (lc2L tgt cond src1 vs1 tgt1 cond1 elt (xs.map f) (fgs env vs)).bind _ = _
  rw [lc2L_filter H]
  exact if_pos hl
theorem allT {α : Type} (xs : List α) : allD [.list (xs.map fun _ => PyData.bool true)] = some (.bool true) := by
  have : (xs.map fun _ => PyData.bool true) = (xs.map fun _ => true).map PyData.bool := by rw [List.map_map]; rfl
  rw [this, allD_l]
  congr 2
  exact List.all_eq_true.mpr fun x hx => by
    obtain ⟨_, _, rfl⟩ := List.mem_map.mp hx; rfl
/-! ### x[::-1] -/
theorem pick_rev {α : Type} (xs : List α) : pickL xs none none (-1) = xs.reverse := by
  unfold pickL
  have ha : Builtin.Slice.sliceAdjust none none (-1) (xs.length : Int) = ((xs.length : Int) - 1, -1) := by
    unfold Builtin.Slice.sliceAdjust
    have hn : ((-1 : Int) < 0) := by decide
    simp only [hn, if_true]
  rw [ha]
  have hp : Builtin.Slice.slicePlaces ((xs.length : Int) - 1) (-1) (-1) = xs.length := by
    unfold Builtin.Slice.slicePlaces
    rw [if_neg (by decide), show -(-1 : Int) = 1 from rfl, Int.ediv_one]
    split <;> omega
  show (List.range (Builtin.Slice.slicePlaces ((xs.length : Int) - 1) (-1) (-1))).filterMap _ = _
  rw [hp]
  refine fm_range (by simp) fun k hk => ?_
  show xs[((xs.length : Int) - 1 + (k : Int) * -1).toNat]? = _
  rw [List.getElem?_reverse hk]
  congr 1
  omega
theorem rev_T {xs : List Int} (h : xs.length ≤ 1000000) : stepD (-1) (iT xs) none none = some (iT xs.reverse) := by
  show (if (pickL (xs.map PyData.int) none none (-1)).length ≤ line then some (PyData.tuple (pickL (xs.map PyData.int) none none (-1))) else none) = _
  rw [pick_rev, if_le (by simpa using h)]
  simp only [iT, List.map_reverse]
end PVL
end

section
set_option maxRecDepth 100000
set_option maxHeartbeats 4000000
namespace PV
open PySem PySem.Spec PyProof.Rows L2
/-! ### dicts as data -/
def tK : D → Option Key
  | .int i => some (.inl i)
  | .str x => some (.inr x)
  | _ => none
def tKl : List D → Option (List Key)
  | [] => some []
  | d :: r => (tK d).bind fun k => (tKl r).map (k :: ·)
def tKs : D → Option (List Key)
  | .tuple ds => tKl ds
  | _ => none
theorem tK_key (k : Key) : tK (keyD k) = some k := by cases k <;> rfl
theorem tKl_keys : ∀ ks : List Key, tKl (ks.map keyD) = some ks
  | [] => rfl
  | k :: r => by
    show (tK (keyD k)).bind _ = _
    rw [tK_key]
    show (tKl (r.map keyD)).map _ = _
    rw [tKl_keys r]; rfl
theorem tKs_keys (ks : List Key) : tKs (keysD ks) = some ks := tKl_keys ks
/-- which keys are the one told (t: keys are tuples) -/
def keyP (t : Bool) (d : D) : Option (D → Bool) := if t = true then (tKs d).map fun k e => decide (tKs e = some k) else (tK d).map fun k e => decide (tK e = some k)
def fnd (p : D → Bool) : List (D × D) → Option D
  | [] => none
  | kv :: r => if p kv.1 = true then some kv.2 else fnd p r
def putD (p : D → Bool) (d v : D) (kds : List (D × D)) : List (D × D) := if kds.any (fun kv => p kv.1) = true then kds.map fun kv => if p kv.1 = true then (kv.1, v) else kv else kds ++ [(d, v)]
/-! lookup and storing agree -/
section
variable {κ : Type} [DecidableEq κ] {K : PySem.W.Frag} {F : Hp} {f : κ → D} {k : κ} {p : D → Bool}
theorem fnd_rel (hp : ∀ a, p (f a) = decide (a = k)) : ∀ {ks : List (κ × V)} {kds : List (D × D)}, kds.map Prod.fst = ks.map (fun q => f q.1) → DvA K F (ks.map Prod.snd) (kds.map Prod.snd) →
    (fnd p kds = none ∧ valV ks k = none) ∨ ∃ v d, fnd p kds = some d ∧ valV ks k = some v ∧ Dv K F v d
  | [], [], _, _ => .inl ⟨rfl, rfl⟩
  | [], _ :: _, h, _ => by simp at h
  | _ :: _, [], h, _ => by simp at h
  | (a, v) :: ks, (e, d) :: kds, h, b => by
    simp only [List.map_cons, List.cons.injEq] at h
    obtain ⟨rfl, h⟩ := h
    cases b with
    | cons b1 b2 =>
      by_cases q : a = k
      · refine .inr ⟨v, d, ?_, valV_pos q, b1⟩
        show (if p (f a) = true then _ else _) = _
        rw [hp, decide_eq_true q, if_pos rfl]
      · have e1 : fnd p ((f a, d) :: kds) = fnd p kds := by
          show (if p (f a) = true then _ else _) = _
          rw [hp, decide_eq_false q, if_neg (by decide)]
        rw [e1, valV_neg (p := (a, v)) q]
        exact fnd_rel hp h b2
theorem any_rel (hp : ∀ a, p (f a) = decide (a = k)) : ∀ {ks : List (κ × V)} {kds : List (D × D)}, kds.map Prod.fst = ks.map (fun q => f q.1) → (kds.any fun kv => p kv.1) = ks.any fun kv => decide (kv.1 = k)
  | [], [], _ => rfl
  | [], _ :: _, h => by simp at h
  | _ :: _, [], h => by simp at h
  | (a, v) :: ks, (e, d) :: kds, h => by
    simp only [List.map_cons, List.cons.injEq] at h
    obtain ⟨rfl, h⟩ := h
    rw [List.any_cons, List.any_cons, hp, any_rel hp h]
theorem rpl_rel (hp : ∀ a, p (f a) = decide (a = k)) {v : V} {d : D} (hv : Dv K F v d) : ∀ {ks : List (κ × V)} {kds : List (D × D)}, kds.map Prod.fst = ks.map (fun q => f q.1) → DvA K F (ks.map Prod.snd) (kds.map Prod.snd) →
    (kds.map fun kv => if p kv.1 = true then (kv.1, d) else kv).map Prod.fst = (ks.map fun kv => if kv.1 = k then (kv.1, v) else kv).map (fun q => f q.1) ∧
    DvA K F ((ks.map fun kv => if kv.1 = k then (kv.1, v) else kv).map Prod.snd) ((kds.map fun kv => if p kv.1 = true then (kv.1, d) else kv).map Prod.snd)
  | [], [], _, _ => ⟨rfl, .nil⟩
  | [], _ :: _, h, _ => by simp at h
  | _ :: _, [], h, _ => by simp at h
  | (a, w) :: ks, (e, z) :: kds, h, b => by
    simp only [List.map_cons, List.cons.injEq] at h
    obtain ⟨rfl, h⟩ := h
    cases b with
    | cons b1 b2 =>
      obtain ⟨i1, i2⟩ := rpl_rel hp hv h b2
      simp only [List.map_cons, hp, decide_eq_true_eq]
      by_cases q : a = k
      · simp only [if_pos q, List.cons.injEq, true_and]
        exact ⟨i1, .cons hv i2⟩
      · simp only [if_neg q, List.cons.injEq, true_and]
        exact ⟨i1, .cons b1 i2⟩
theorem put_rel (hp : ∀ a, p (f a) = decide (a = k)) {v : V} {d : D} (hv : Dv K F v d) {ks : List (κ × V)} {kds : List (D × D)} (h : kds.map Prod.fst = ks.map (fun q => f q.1)) (b : DvA K F (ks.map Prod.snd) (kds.map Prod.snd)) :
    (putD p (f k) d kds).map Prod.fst = (putK ks k v).map (fun q => f q.1) ∧ DvA K F ((putK ks k v).map Prod.snd) ((putD p (f k) d kds).map Prod.snd) := by
  unfold putD putK
  rw [any_rel hp h]
  by_cases q : (ks.any fun kv => decide (kv.1 = k)) = true
  · rw [if_pos q, if_pos q]
    exact rpl_rel hp hv h b
  · rw [if_neg q, if_neg q]
    refine ⟨by rw [List.map_append, List.map_append, h]; rfl, ?_⟩
    rw [List.map_append, List.map_append]
    exact DvA.append b (.cons hv .nil)
end
theorem key_val {K : PySem.W.Frag} {F : Hp} {y : V} {d : D} {k : Key} (h : Dv K F y d) (e : tK d = some k) : y = kV k ∧ d = keyD k := by
  unfold tK at e
  split at e <;> cases e
  · cases h; exact ⟨rfl, rfl⟩
  · cases h; exact ⟨rfl, rfl⟩
theorem keys_val {K : PySem.W.Frag} {F : Hp} : ∀ {vs : List V} {ds : List D} {ks : List Key}, DvA K F vs ds → tKl ds = some ks → vs = ks.map kV ∧ ds = ks.map keyD
  | _, _, _, .nil, e => by cases e; exact ⟨rfl, rfl⟩
  | _, _, _, .cons (d := d) h t, e => by
    obtain ⟨k, e1, e⟩ := Option.bind_eq_some_iff.mp (show (tK d).bind _ = _ from e)
    obtain ⟨r, e2, e3⟩ := Option.map_eq_some_iff.mp e
    subst e3
    obtain ⟨a1, a2⟩ := key_val h e1
    obtain ⟨b1, b2⟩ := keys_val t e2
    subst a1 a2 b1 b2
    exact ⟨rfl, rfl⟩
theorem keyT_val {K : PySem.W.Frag} {F : Hp} {y : V} {d : D} {ks : List Key} (h : Dv K F y d) (e : tKs d = some ks) : d = keysD ks ∧ ∃ b, y = .ref b ∧ F b = some (.tup (ks.map kV)) := by
  unfold tKs at e
  split at e
  · cases h with
    | tup hs ha =>
      obtain ⟨rfl, rfl⟩ := keys_val ha e
      exact ⟨rfl, _, rfl, hs⟩
  · cases e
/-! ### reading -/
/-- x is a dict -/
def DR (K : PySem.W.Frag) (F H : Hp) (x : V) (t : Bool) (kds : List (D × D)) : Prop := ∃ a o, x = .ref a ∧ Rd H a o ∧ DicAt K F o t kds
theorem DR.grow {K : PySem.W.Frag} {F H F' H' : Hp} {x : V} {t : Bool} {kds : List (D × D)} (h : DR K F H x t kds) (g : Grow F H F' H') (s : Same F H) : DR K F' H' x t kds := by
  obtain ⟨a, o, e, r, q⟩ := h
  refine ⟨a, o, e, ?_, q.mono (g.ff s)⟩
  rcases r with r | ⟨u, r⟩
  · exact .inl (g.hh _ _ r)
  · exact .inr ⟨u, g.hh _ _ r⟩
abbrev EvD := Ev → Option (Bool × List (D × D))
def rdD (K : PySem.W.Frag) (den : EvD) : TE := fun σ H Q => ∃ H0 F0 env F tk, Rel K H0 F0 env σ F H ∧ den env = some tk ∧ ∀ x F' H', Grow F H F' H' → DR K F' H' x tk.1 tk.2 → Q x H'
abbrev PVD (X : Cx) (e : Expr) (den : EvD) : Prop := PE X e (rdD X.K den)
def dicD : D → Option (Bool × List (D × D))
  | .dict ((.none, .bool t) :: kds) => some (t, kds)
  | _ => none
theorem dicD_dr {K : PySem.W.Frag} {F H : Hp} {x : V} {d : D} {t : Bool} {kds : List (D × D)} (s : Same F H) (h : Dv K F x d) (e : dicD d = some (t, kds)) : DR K F H x t kds := by
  unfold dicD at e
  split at e <;> cases e
  cases h with
  | scr e _ =>
    rename_i ns _
    cases ns <;> simp at e
  | dk e hs hk hv =>
    cases e
    exact ⟨_, _, rfl, .inr ⟨_, s _ _ hs⟩, .inl ⟨rfl, _, rfl, hk, hv⟩⟩
  | dt e hs hk hv =>
    cases e
    exact ⟨_, _, rfl, .inr ⟨_, s _ _ hs⟩, .inr ⟨rfl, _, rfl, hk, hv⟩⟩
def dVar (i : Nat) : EvD := fun env => match gt env i with
  | some (.dic t kds) => some (t, kds)
  | some (.v d) => dicD d
  | _ => none
def dE (da : Ev → Option D) : EvD := fun env => (da env).bind dicD
section
variable {X : Cx} {e a b c : Expr} {pos : Pos} {da db dc : Ev → Option D} {dd : EvD}
theorem vdE (h : PVE X e da) : PVD X e (dE da) := PE.imp h fun σ H Q ⟨H0, F0, env, F, tk, rl, ed, k⟩ => by
  obtain ⟨d, h1, ed⟩ := Option.bind_eq_some_iff.mp ed
  exact ⟨H0, F0, env, F, d, rl, h1, fun x F' H' g hd => k x F' H' g (dicD_dr g.sub hd ed)⟩
theorem vd (i : Nat) {x : Str} (hN : X.N[i]? = some x := by rfl) (hv : Vis X.env.scope x := by first | exact Or.inl rfl | exact Or.inr (Or.inl rfl) | exact Or.inr (Or.inr rfl)) (hd : (x == ("__debug__" : Str)) = false := by decide)
    (hcd : (x == ("__classdict__" : Str)) = false := by decide) : PVD X (.Name x pos) (dVar i) := PE.imp (pe_var (i := i) hN hv hd hcd) fun σ H Q ⟨H0, F0, env, F, tk, r, ed, k⟩ => by
  unfold dVar at ed
  split at ed
  · rename_i t kds hg
    cases ed
    obtain ⟨x, e1, a, o, ex, h1, h2, h3, h4⟩ := r.slot i _ hg
    exact ⟨x, e1, k x F H (Grow.refl r.sub) ⟨a, o, ex, .inl h1, h4⟩⟩
  · rename_i d hg
    obtain ⟨x, e1, q⟩ := r.slot i _ hg
    exact ⟨x, e1, k x F H (Grow.refl r.sub) (dicD_dr r.sub q ed)⟩
  · cases ed
/-- what a dict gives at a key -/
theorem dget_of {K : PySem.W.Frag} {F H : Hp} {x y : V} {t : Bool} {kds : List (D × D)} {d : D} {p : D → Bool} (s : Same F H) (h : DR K F H x t kds) (hy : Dv K F y d) (hp : keyP t d = some p) :
    ∃ a, x = .ref a ∧ IsD H a ∧ ((fnd p kds = none ∧ DGet H a y none) ∨ ∃ v z, fnd p kds = some z ∧ DGet H a y (some v) ∧ Dv K F v z) := by
  obtain ⟨a, o, rfl, r, q⟩ := h
  unfold keyP at hp
  rcases q with ⟨rfl, ks, rfl, hk, hv⟩ | ⟨rfl, ks, rfl, hk, hv⟩
  · rw [if_neg (by decide)] at hp
    obtain ⟨k, e1, e2⟩ := Option.map_eq_some_iff.mp hp
    subst e2
    obtain ⟨rfl, rfl⟩ := key_val hy e1
    have hp' : ∀ c : Key, decide (tK (keyD c) = some k) = decide (c = k) := fun c => by rw [tK_key]; exact decide_eq_decide.mpr (by simp)
    refine ⟨a, rfl, .inl ⟨ks, r⟩, ?_⟩
    rcases fnd_rel (f := keyD) (k := k) (p := fun e => decide (tK e = some k)) hp' hk hv with ⟨f1, f2⟩ | ⟨v, z, f1, f2, f3⟩
    · exact .inl ⟨f1, .inl ⟨ks, k, r, rfl, f2.symm⟩⟩
    · exact .inr ⟨v, z, f1, .inl ⟨ks, k, r, rfl, f2.symm⟩, f3⟩
  · rw [if_pos rfl] at hp
    obtain ⟨k, e1, e2⟩ := Option.map_eq_some_iff.mp hp
    subst e2
    obtain ⟨rfl, b, rfl, hb⟩ := keyT_val hy e1
    have hp' : ∀ c : List Key, decide (tKs (keysD c) = some k) = decide (c = k) := fun c => by rw [tKs_keys]; exact decide_eq_decide.mpr (by simp)
    refine ⟨a, rfl, .inr ⟨ks, r⟩, ?_⟩
    rcases fnd_rel (f := keysD) (k := k) (p := fun e => decide (tKs e = some k)) hp' hk hv with ⟨f1, f2⟩ | ⟨v, z, f1, f2, f3⟩
    · exact .inl ⟨f1, .inr ⟨ks, k, b, r, rfl, s _ _ hb, f2.symm⟩⟩
    · exact .inr ⟨v, z, f1, .inr ⟨ks, k, b, r, rfl, s _ _ hb, f2.symm⟩, f3⟩
/-- d[k] -/
def eDg (dd : EvD) (di : Ev → Option D) : Ev → Option D := fun env => (dd env).bind fun tk => (di env).bind fun d => (keyP tk.1 d).bind fun p => fnd p tk.2
theorem vdget {k : Nat} (hr : Room k X.A) (hd : PVD X a dd) (hi : PVE X b db) (hs : NoSl b) : PVE X (.Subscript a b pos) (eDg dd db) := by
  have hun := hr.un
  refine PE.imp (pe_dget (by omega) hd hi hs) fun σ H Q ⟨H0, F0, env, F, z, rl, ed, k⟩ => ?_
  obtain ⟨tk, h1, ed⟩ := Option.bind_eq_some_iff.mp ed
  obtain ⟨d, h2, ed⟩ := Option.bind_eq_some_iff.mp ed
  obtain ⟨p, h3, ed⟩ := Option.bind_eq_some_iff.mp ed
  refine ⟨H0, F0, env, F, tk, rl, h1, fun x F1 H1 g1 b1 => ⟨H0, F0, env, F1, d, rl.grow g1, h2, fun y F2 H2 g2 b2 => ?_⟩⟩
  obtain ⟨c, rfl, _, q⟩ := dget_of g2.sub (b1.grow g2 g1.sub) b2 h3
  rcases q with ⟨q1, _⟩ | ⟨v, z', q1, q2, q3⟩
  · rw [q1] at ed; cases ed
  · rw [q1] at ed; cases ed
    exact ⟨c, v, rfl, q2, k v F2 H2 (g1.trans g2) q3⟩
/-- k in d, k not in d -/
def eDin (n : Bool) (di : Ev → Option D) (dd : EvD) : Ev → Option D := fun env => (di env).bind fun d => (dd env).bind fun tk => (keyP tk.1 d).map fun p => .bool (n != (fnd p tk.2).isSome)
theorem pcd_in {k : Nat} (hr : Room k X.A) (hi : PVE X a da) (hd : PVD X b dd) : PC X .In a b (rdE X.K (eDin false da dd)) := by
  have hun := hr.un
  refine ⟨fun pins s σ H Q I q => (pc_din (by omega) hi hd).run pins s σ H Q I ?_⟩
  obtain ⟨H0, F0, env, F, z, rl, ed, k⟩ := q
  obtain ⟨d, h1, ed⟩ := Option.bind_eq_some_iff.mp ed
  obtain ⟨tk, h2, ed⟩ := Option.bind_eq_some_iff.mp ed
  obtain ⟨p, h3, ed⟩ := Option.map_eq_some_iff.mp ed
  subst ed
  refine ⟨H0, F0, env, F, d, rl, h1, fun x F1 H1 g1 b1 => ⟨H0, F0, env, F1, tk, rl.grow g1, h2, fun y F2 H2 g2 b2 => ?_⟩⟩
  obtain ⟨c, rfl, _, q⟩ := dget_of g2.sub b2 (Dv.mono (g2.ff g1.sub) _ _ b1) h3
  rcases q with ⟨q1, q2⟩ | ⟨v, z', q1, q2, q3⟩
  · refine ⟨c, none, rfl, q2, ?_⟩
    have := k (.bl false) F2 H2 (g1.trans g2)
    rw [q1] at this
    exact this (.bl _)
  · refine ⟨c, some v, rfl, q2, ?_⟩
    have := k (.bl true) F2 H2 (g1.trans g2)
    rw [q1] at this
    exact this (.bl _)
theorem pcd_notin {k : Nat} (hr : Room k X.A) (hi : PVE X a da) (hd : PVD X b dd) : PC X .NotIn a b (rdE X.K (eDin true da dd)) := by
  have hun := hr.un
  refine ⟨fun pins s σ H Q I q => (pc_dnotin (by omega) hi hd).run pins s σ H Q I ?_⟩
  obtain ⟨H0, F0, env, F, z, rl, ed, k⟩ := q
  obtain ⟨d, h1, ed⟩ := Option.bind_eq_some_iff.mp ed
  obtain ⟨tk, h2, ed⟩ := Option.bind_eq_some_iff.mp ed
  obtain ⟨p, h3, ed⟩ := Option.map_eq_some_iff.mp ed
  subst ed
  refine ⟨H0, F0, env, F, d, rl, h1, fun x F1 H1 g1 b1 => ⟨H0, F0, env, F1, tk, rl.grow g1, h2, fun y F2 H2 g2 b2 => ?_⟩⟩
  obtain ⟨c, rfl, _, q⟩ := dget_of g2.sub b2 (Dv.mono (g2.ff g1.sub) _ _ b1) h3
  rcases q with ⟨q1, q2⟩ | ⟨v, z', q1, q2, q3⟩
  · refine ⟨c, none, rfl, q2, ?_⟩
    have := k (.bl true) F2 H2 (g1.trans g2)
    rw [q1] at this
    exact this (.bl _)
  · refine ⟨c, some v, rfl, q2, ?_⟩
    have := k (.bl false) F2 H2 (g1.trans g2)
    rw [q1] at this
    exact this (.bl _)
theorem vdin {k : Nat} (hr : Room k X.A) (hi : PVE X a da) (hd : PVD X b dd) (hm : behindInMarks .In b = false := by rfl) : PVE X (.Compare a [.In] [b] pos) (eDin false da dd) := pe_cmp (pcd_in hr hi hd) hm
theorem vdnotin {k : Nat} (hr : Room k X.A) (hi : PVE X a da) (hd : PVD X b dd) (hm : behindInMarks .NotIn b = false := by rfl) : PVE X (.Compare a [.NotIn] [b] pos) (eDin true da dd) := pe_cmp (pcd_notin hr hi hd) hm
theorem tb_rd {K : PySem.W.Frag} {n : Bool} {σ : L2.St} {H : Hp} {Q : Bool → Hp → Prop} (q : rdT K (t1 isB (eDin n da dd)) σ H Q) : tB (rdE K (eDin n da dd)) σ H Q := by
  obtain ⟨H0, F0, env, F, z, rl, ed, k⟩ := q
  obtain ⟨d, h1, ed⟩ := Option.bind_eq_some_iff.mp (show (eDin n da dd env).bind isB = _ from ed)
  refine ⟨H0, F0, env, F, d, rl, h1, fun x F1 H1 g1 b1 => ?_⟩
  cases d <;> cases ed
  cases b1
  exact ⟨_, rfl, k F1 H1 g1⟩
theorem vdinT {k : Nat} (hr : Room k X.A) (hi : PVE X a da) (hd : PVD X b dd) (hm : behindInMarks .In b = false := by rfl) : PVT X (.Compare a [.In] [b] pos) (t1 isB (eDin false da dd)) := PT.imp (pt_cmp (pcd_in hr hi hd) hm) fun _ _ _ q => tb_rd q
theorem vdnotinT {k : Nat} (hr : Room k X.A) (hi : PVE X a da) (hd : PVD X b dd) (hm : behindInMarks .NotIn b = false := by rfl) : PVT X (.Compare a [.NotIn] [b] pos) (t1 isB (eDin true da dd)) := PT.imp (pt_cmp (pcd_notin hr hi hd) hm) fun _ _ _ q => tb_rd q
/-- d.get(k), d.get(k, x) -/
def eDg1 (dd : EvD) (di : Ev → Option D) : Ev → Option D := fun env => (dd env).bind fun tk => (di env).bind fun d => (keyP tk.1 d).map fun p => (fnd p tk.2).getD .none
def eDg2 (dd : EvD) (di dx : Ev → Option D) : Ev → Option D := fun env => (dd env).bind fun tk => (di env).bind fun d => (dx env).bind fun x => (keyP tk.1 d).map fun p => (fnd p tk.2).getD x
theorem DR.isD {K : PySem.W.Frag} {F H : Hp} {x : V} {t : Bool} {kds : List (D × D)} (h : DR K F H x t kds) : ∃ a, x = .ref a ∧ IsD H a := by
  obtain ⟨a, o, rfl, r, q⟩ := h
  rcases q with ⟨rfl, ks, rfl, hk, hv⟩ | ⟨rfl, ks, rfl, hk, hv⟩
  · exact ⟨a, rfl, .inl ⟨ks, r⟩⟩
  · exact ⟨a, rfl, .inr ⟨ks, r⟩⟩
theorem vdget1 {k : Nat} {apos cpos : Pos} (hr : Room k X.A) (hd : PVD X a dd) (hi : PVE X b db) (m : M1 X a "get" apos b cpos) : PVE X (.Call (.Attribute a "get" apos) [b] [] cpos) (eDg1 dd db) := by
  have hun := hr.un
  refine PE.imp (pe_dget1 (by omega) hd hi m) fun σ H Q ⟨H0, F0, env, F, z, rl, ed, k⟩ => ?_
  obtain ⟨tk, h1, ed⟩ := Option.bind_eq_some_iff.mp ed
  obtain ⟨d, h2, ed⟩ := Option.bind_eq_some_iff.mp ed
  obtain ⟨p, h3, ed⟩ := Option.map_eq_some_iff.mp ed
  subst ed
  refine ⟨H0, F0, env, F, tk, rl, h1, fun x F1 H1 g1 b1 => ?_⟩
  obtain ⟨c, rfl, ic⟩ := b1.isD
  refine ⟨c, rfl, ic, H0, F0, env, F1, d, rl.grow g1, h2, fun y F2 H2 g2 b2 => ?_⟩
  obtain ⟨c', e, _, q⟩ := dget_of g2.sub (b1.grow g2 g1.sub) b2 h3
  cases e
  rcases q with ⟨q1, q2⟩ | ⟨v, z', q1, q2, q3⟩
  · have := k .non F2 H2 (g1.trans g2)
    rw [q1] at this
    exact ⟨none, q2, this .non⟩
  · have := k v F2 H2 (g1.trans g2)
    rw [q1] at this
    exact ⟨some v, q2, this q3⟩
theorem vdget2 {k : Nat} {apos cpos : Pos} (hr : Room k X.A) (hd : PVD X a dd) (hi : PVE X b db) (hx : PVE X c dc) (m : M2 X a "get" apos b c cpos) : PVE X (.Call (.Attribute a "get" apos) [b, c] [] cpos) (eDg2 dd db dc) := by
  have hun := hr.un
  refine PE.imp (pe_dget2 (by omega) hd hi hx m) fun σ H Q ⟨H0, F0, env, F, z, rl, ed, k⟩ => ?_
  obtain ⟨tk, h1, ed⟩ := Option.bind_eq_some_iff.mp ed
  obtain ⟨d, h2, ed⟩ := Option.bind_eq_some_iff.mp ed
  obtain ⟨x0, h4, ed⟩ := Option.bind_eq_some_iff.mp ed
  obtain ⟨p, h3, ed⟩ := Option.map_eq_some_iff.mp ed
  subst ed
  refine ⟨H0, F0, env, F, tk, rl, h1, fun x F1 H1 g1 b1 => ?_⟩
  obtain ⟨c, rfl, ic⟩ := b1.isD
  refine ⟨c, rfl, ic, H0, F0, env, F1, d, rl.grow g1, h2, fun y F2 H2 g2 b2 => ⟨H0, F0, env, F2, x0, (rl.grow g1).grow g2, h4, fun w F3 H3 g3 b3 => ?_⟩⟩
  obtain ⟨c', e, _, q⟩ := dget_of g3.sub ((b1.grow g2 g1.sub).grow g3 g2.sub) (Dv.mono (g3.ff g2.sub) _ _ b2) h3
  cases e
  rcases q with ⟨q1, q2⟩ | ⟨v, z', q1, q2, q3⟩
  · have := k w F3 H3 ((g1.trans g2).trans g3)
    rw [q1] at this
    exact ⟨none, q2, this b3⟩
  · have := k v F3 H3 ((g1.trans g2).trans g3)
    rw [q1] at this
    exact ⟨some v, q2, this q3⟩
end
end PV
end

section
set_option maxRecDepth 100000
set_option maxHeartbeats 4000000
namespace PV
open PySem PySem.Spec PyProof.Rows L2
section
variable {X : Cx} {e a b c tg : Expr} {pos : Pos} {da db dc dv : Ev → Option D} {dd : EvD} {s : Stmt} {d1 : Ev → Option Out}
/-- x = {} -/
def xD (t : Bool) : Ev → Option SV := fun _ => some (.dic t [])
theorem vx_dnew (t : Bool) : PVX X (.Dict [] [] pos) (xD t) := by
  cases t with
  | false =>
    refine PE.imp pe_dnewK fun σ H Q ⟨H0, F0, env, F, o, rl, ed, k⟩ => ?_
    intro p hp
    cases ed
    exact k _ F _ (Grow.made rl.sub hp) ⟨p, _, rfl, hp, upd_same, fnone rl.sub hp, .inl ⟨rfl, [], rfl, rfl, .nil⟩⟩
  | true =>
    refine PE.imp pe_dnewT fun σ H Q ⟨H0, F0, env, F, o, rl, ed, k⟩ => ?_
    intro p hp
    cases ed
    exact k _ F _ (Grow.made rl.sub hp) ⟨p, _, rfl, hp, upd_same, fnone rl.sub hp, .inr ⟨rfl, [], rfl, rfl, .nil⟩⟩
/-- what is stored in a dict of our own -/
def isDc : Option SV → Option (Bool × List (D × D))
  | some (.dic t kds) => some (t, kds)
  | _ => none
theorem isDc_some {o : Option SV} {tk : Bool × List (D × D)} (h : isDc o = some tk) : o = some (.dic tk.1 tk.2) := by
  unfold isDc at h; split at h <;> cases h; rfl
def dput (i : Nat) (d v : D) (env : Ev) : Option Ev := (isDc (gt env i)).bind fun tk => (keyP tk.1 d).bind fun p => if tk.2.length < line then some (st env i (some (.dic tk.1 (putD p d v tk.2)))) else none
theorem dput_of {K : PySem.W.Frag} {H0 F0 F H : Hp} {env env' : Ev} {σ : L2.St} {i : Nat} {d v : D} {y w : V} (rl : Rel K H0 F0 env σ F H) (hy : Dv K F y d) (hw : Dv K F w v) (h : dput i d v env = some env') :
    ∃ a H4, σ[i]? = some (some (.ref a)) ∧ DPut H a y w H4 ∧ Rel K H0 F0 env' σ F H4 := by
  obtain ⟨tk, h1, h⟩ := Option.bind_eq_some_iff.mp h
  obtain ⟨p, h2, h⟩ := Option.bind_eq_some_iff.mp h
  obtain ⟨hz, rfl⟩ := ite_some h
  have hg := isDc_some h1
  obtain ⟨x, e1, a, o, rfl, q1, q2, q3, q4⟩ := rl.slot i _ hg
  unfold keyP at h2
  obtain ⟨t, kds⟩ := tk
  rcases q4 with ⟨ht, ks, rfl, hk, hv⟩ | ⟨ht, ks, rfl, hk, hv⟩
  · replace ht : t = false := ht
    subst ht
    replace h2 : (tK d).map (fun k e => decide (tK e = some k)) = some p := h2
    obtain ⟨k, e2, e3⟩ := Option.map_eq_some_iff.mp h2
    subst e3
    obtain ⟨rfl, rfl⟩ := key_val hy e2
    have hp' : ∀ c : Key, decide (tK (keyD c) = some k) = decide (c = k) := fun c => by rw [tK_key]; exact decide_eq_decide.mpr (by simp)
    obtain ⟨r1, r2⟩ := put_rel (f := keyD) (k := k) (p := fun e => decide (tK e = some k)) hp' hw hk hv
    have hlen : ks.length < sizeLine := by
      have := congrArg List.length hk
      rw [List.length_map, List.length_map] at this
      rw [← this, sizeLine_eq]; exact hz
    exact ⟨a, _, e1, DPut.k q1 hlen, rl.writeO hg rfl e1 fun f1 f2 => ⟨a, _, rfl, upd_same, f1, f2, .inl ⟨rfl, _, rfl, r1, r2⟩⟩⟩
  · replace ht : t = true := ht
    subst ht
    replace h2 : (tKs d).map (fun k e => decide (tKs e = some k)) = some p := h2
    obtain ⟨k, e2, e3⟩ := Option.map_eq_some_iff.mp h2
    subst e3
    obtain ⟨rfl, b, rfl, hb⟩ := keyT_val hy e2
    have hp' : ∀ c : List Key, decide (tKs (keysD c) = some k) = decide (c = k) := fun c => by rw [tKs_keys]; exact decide_eq_decide.mpr (by simp)
    obtain ⟨r1, r2⟩ := put_rel (f := keysD) (k := k) (p := fun e => decide (tKs e = some k)) hp' hw hk hv
    have hlen : ks.length < sizeLine := by
      have := congrArg List.length hk
      rw [List.length_map, List.length_map] at this
      rw [← this, sizeLine_eq]; exact hz
    exact ⟨a, _, e1, DPut.t q1 (rl.sub _ _ hb) hlen, rl.writeO hg rfl e1 fun f1 f2 => ⟨a, _, rfl, upd_same, f1, f2, .inr ⟨rfl, _, rfl, r1, r2⟩⟩⟩
/-- d[k] = v -/
def sDp (i : Nat) (di dv : Ev → Option D) : Ev → Option Out := fun env => (dv env).bind fun v => (di env).bind fun d => (dput i d v env).map .nx
theorem vs_dput (i : Nat) {k : Nat} {x : Str} {px pos' : Pos} (hr : Room k X.A) (hi : PVE X b db) (hv : PVE X c dv) (hN : X.N[i]? = some x := by rfl) (hx : Vis X.env.scope x := by first | exact Or.inl rfl | exact Or.inr (Or.inl rfl) | exact Or.inr (Or.inr rfl)) (hd : (x == ("__debug__" : Str)) = false := by decide)
    (hcd : (x == ("__classdict__" : Str)) = false := by decide) (hs : swapsWith c (some (.Subscript (.Name x px) b pos')) pos.line X.env = pure false := by rfl) : PVS X (.Assign [.Subscript (.Name x px) b pos'] c pos) (sDp i db dv) := by
  have hun := hr.un
  refine PS.imp (ps_dput (by omega) (pe_var (i := i) hN hx hd hcd) hi hv hs) fun D σ H ⟨H0, F0, env, F, o, rl, ed, k⟩ => ?_
  obtain ⟨v, h1, ed⟩ := Option.bind_eq_some_iff.mp ed
  obtain ⟨d, h2, ed⟩ := Option.bind_eq_some_iff.mp ed
  obtain ⟨e', h3, h4⟩ := Option.map_eq_some_iff.mp ed
  subst h4
  refine ⟨H0, F0, env, F, v, rl, h1, fun w F1 H1 g1 b1 => ?_⟩
  have hg : ∃ a, σ[i]? = some (some (.ref a)) := by
    obtain ⟨tk, q1, _⟩ := Option.bind_eq_some_iff.mp h3
    obtain ⟨x, e1, a, _, rfl, _⟩ := rl.slot i _ (isDc_some q1)
    exact ⟨a, e1⟩
  obtain ⟨a, ea⟩ := hg
  refine ⟨.ref a, ea, H0, F0, env, F1, d, rl.grow g1, h2, fun y F2 H2 g2 b2 => ?_⟩
  obtain ⟨a', H4, e1, e2, e3⟩ := dput_of ((rl.grow g1).grow g2) b2 (Dv.mono (g2.ff g1.sub) _ _ b1) h3
  rw [ea] at e1; cases e1
  exact ⟨a, H4, rfl, e2, k σ F2 H4 e3 ((g1.trans g2).ff rl.sub)⟩
/-- d[k] op= v -/
def sDa (i : Nat) (g : D → D → Option D) (di dv : Ev → Option D) : Ev → Option Out := fun env => (di env).bind fun d => (isDc (gt env i)).bind fun tk => (keyP tk.1 d).bind fun p => (fnd p tk.2).bind fun u => (dv env).bind fun v => (g u v).bind fun z => (dput i d z env).map .nx
theorem vs_daug (i : Nat) {k : Nat} {op : Operator} {g : D → D → Option D} {x : Str} {px pos' : Pos} (hr : Room k X.A) (hi : PVE X b db) (hv : PVE X c dv) (ho : OpR X (inplaceOp op) (rOf X.K g)) (hio : ∀ rd, OpR X (inplaceOp op) rd → InOp X op rd := by intro _ h; exact h) (hN : X.N[i]? = some x := by rfl) (hx : Vis X.env.scope x := by first | exact Or.inl rfl | exact Or.inr (Or.inl rfl) | exact Or.inr (Or.inr rfl)) (hd : (x == ("__debug__" : Str)) = false := by decide)
    (hcd : (x == ("__classdict__" : Str)) = false := by decide) (ha : ∀ ov iv new, augStore b ov iv new = (do holding [new, ov, iv] (setItem ov iv new); release [new, ov, iv] []; pure .next) := by intros; rfl) :
    PVS X (.AugAssign (.Subscript (.Name x px) b pos') op c pos) (sDa i g db dv) := by
  have hun := hr.un
  refine PS.imp (ps_daug (by omega) (pe_var (i := i) hN hx hd hcd) hi hv (hio _ ho) ha) fun D σ H ⟨H0, F0, env, F, o, rl, ed, k⟩ => ?_
  obtain ⟨d, h1, ed⟩ := Option.bind_eq_some_iff.mp ed
  obtain ⟨tk, h2, ed⟩ := Option.bind_eq_some_iff.mp ed
  obtain ⟨p, h3, ed⟩ := Option.bind_eq_some_iff.mp ed
  obtain ⟨u, h4, ed⟩ := Option.bind_eq_some_iff.mp ed
  obtain ⟨v, h5, ed⟩ := Option.bind_eq_some_iff.mp ed
  obtain ⟨z, h6, ed⟩ := Option.bind_eq_some_iff.mp ed
  obtain ⟨e', h7, h8⟩ := Option.map_eq_some_iff.mp ed
  subst h8
  obtain ⟨t, kds⟩ := tk
  have hgd := isDc_some h2
  obtain ⟨x, ea, a, o, rfl, q1, q2, q3, q4⟩ := rl.slot i _ hgd
  refine ⟨.ref a, ea, H0, F0, env, F, d, rl, h1, fun y F1 H1 g1 b1 => ?_⟩
  have dr : DR X.K F1 H1 (.ref a) t kds := ⟨a, o, rfl, .inl (g1.hh _ _ q1), q4.mono (g1.ff rl.sub)⟩
  obtain ⟨a', e, _, q⟩ := dget_of g1.sub dr b1 h3
  cases e
  rcases q with ⟨r1, _⟩ | ⟨w, u', r1, r2, r3⟩
  · rw [show fnd p kds = some u from h4] at r1; cases r1
  · rw [show fnd p kds = some u from h4] at r1; cases r1
    refine ⟨a, w, rfl, r2, H0, F0, env, F1, v, rl.grow g1, h5, fun y2 F2 H2 g2 b2 => ⟨F2, u, v, z, g2.sub, .inl (Dv.mono (g2.ff g1.sub) _ _ r3), .inl b2, h6, fun y3 F3 H3 g3 b3 => ?_⟩⟩
    obtain ⟨a', H4, e1, e2, e3⟩ := dput_of (((rl.grow g1).grow g2).grow g3) (Dv.mono ((g2.trans g3).ff g1.sub) _ _ b1) b3 h7
    rw [ea] at e1; cases e1
    exact ⟨H4, e2, k σ F3 H4 e3 (((g1.trans g2).trans g3).ff rl.sub)⟩
/-- a dict of our own is from here on left as it is -/
theorem ps_freeze {t : TS} (h : PS X s t) : PS X s (fun D σ H => t D σ H ∨ ∃ d u, H d = some u ∧ Mut (some u) ∧ ∀ od, t D σ (upd H d (.frz od u))) := by
  refine ⟨fun pins st σ H D I hw => ?_⟩
  rcases hw with hw | ⟨d, u, hd, mu, hw⟩
  · exact h.run pins st σ H D I hw
  · obtain ⟨od, I1⟩ := I.lock hd mu
    exact h.run pins st σ _ D I1 (hw od)
def frzD (env : Ev) (i : Nat) : Ev := match gt env i with
  | some (.dic t kds) => st env i (some (.v (.dict ((.none, .bool t) :: kds))))
  | _ => env
theorem vs_frzD (i : Nat) (h : PVS X s d1) : PVS X s (sPre (fun env => frzD env i) d1) := PS.imp (ps_freeze h) fun D σ H ⟨H0, F0, env, F, o, rl, ed, k⟩ => by
  have ed : d1 (frzD env i) = some o := ed
  unfold frzD at ed
  split at ed
  · rename_i t kds hg
    right
    obtain ⟨x, e1, a, u, rfl, h1, h2, h3, h4⟩ := rl.slot i _ hg
    refine ⟨a, u, h1, h4.mut, fun od => ⟨H0, F0, _, upd F a (.frz od u), o, ⟨fun b w e => ?_, fun b w e => ?_, rl.frz.upd h3, by rw [st_length]; exact rl.len, fun j s e => ?_, fun j k x es fs e1' e2' o1 o2 s1 s2 => ?_⟩, ed, k.mono (same_upd h2)⟩⟩
    · rw [upd_ne (ne_of_none e h3)]; exact rl.base b w e
    · by_cases z : b = a
      · subst z; rw [upd_same] at e ⊢; exact e
      · rw [upd_ne z] at e ⊢; exact rl.sub b w e
    · by_cases z : i = j
      · subst z
        rw [gt_st_same (gt_lt hg)] at e; cases e
        refine ⟨.ref a, e1, ?_⟩
        rcases h4 with ⟨rfl, ks, rfl, hk, hv⟩ | ⟨rfl, ks, rfl, hk, hv⟩
        · exact .dk rfl upd_same hk (DvA.mono (same_upd h2) _ _ hv)
        · exact .dt rfl upd_same hk (DvA.mono (same_upd h2) _ _ hv)
      · rw [gt_st_ne z] at e
        obtain ⟨y, e2, q⟩ := rl.slot j s e
        have hx : s.o = true → y ≠ .ref a := fun so w => z (rl.apart i j (.ref a) _ s hg e rfl so e1 (by rw [← w]; exact e2))
        exact ⟨y, e2, (q.upd hx).updF h2 hx⟩
    · have n1 : i ≠ j := fun z => by subst z; rw [gt_st_same (gt_lt hg)] at e1'; cases e1'; cases o1
      have n2 : i ≠ k := fun z => by subst z; rw [gt_st_same (gt_lt hg)] at e2'; cases e2'; cases o2
      rw [gt_st_ne n1] at e1'
      rw [gt_st_ne n2] at e2'
      exact rl.apart j k x es fs e1' e2' o1 o2 s1 s2
  · exact .inl ⟨H0, F0, env, F, o, rl, ed, k⟩
/-- for k in d -/
def iKy (dd : Ev → Option D) : Ev → Option (List D) := fun env => (dd env).bind fun d => (dicD d).map fun tk => tk.2.map Prod.fst
theorem Grow.see {F H : Hp} {b : Addr} {xs : List V} (s : Same F H) (h : H b = some (.tup xs)) : Grow F H (upd F b (.tup xs)) H where
  hh := Same.refl H
  fr := fun c hc => by
    by_cases z : c = b
    · subst z; exact .inr ⟨xs, h, upd_same⟩
    · exact .inl (upd_ne z)
  sub := fun c o e => by
    by_cases z : c = b
    · subst z; rw [upd_same] at e; cases e; exact h
    · rw [upd_ne z] at e; exact s c o e
theorem dva_keys {K : PySem.W.Frag} {F : Hp} : ∀ ks : List Key, DvA K F (ks.map kV) (ks.map keyD)
  | [] => .nil
  | .inl i :: r => .cons (.int i) (dva_keys r)
  | .inr x :: r => .cons (.str x) (dva_keys r)
theorem dv_key {K : PySem.W.Frag} {F : Hp} (k : Key) : Dv K F (kV k) (keyD k) := by
  cases k
  · exact .int _
  · exact .str _
theorem map_get {κ : Type} {f : κ → D} {kds : List (D × D)} {ks : List (κ × V)} (h : kds.map Prod.fst = ks.map (fun q => f q.1)) {i : Nat} {k : κ} {v : V} (e : ks[i]? = some (k, v)) : (kds.map Prod.fst)[i]? = some (f k) := by
  rw [h, List.getElem?_map, e]; rfl
theorem vi_keys (ha : PVE X a da) : PVI X tg a (iKy da) := PI.imp (pi_keys ha) fun σ H R ⟨H0, F0, env, F, ds, rl, ed, k⟩ => by
  obtain ⟨d, h1, ed⟩ := Option.bind_eq_some_iff.mp ed
  obtain ⟨tk, h2, ed⟩ := Option.map_eq_some_iff.mp ed
  subst ed
  refine ⟨H0, F0, env, F, d, rl, h1, fun x F1 H1 g1 b1 => ?_⟩
  unfold dicD at h2
  split at h2 <;> cases h2
  rename_i kds _
  cases b1 with
  | scr e _ =>
    rename_i ns _
    cases ns <;> simp at e
  | @dk a o ks _ _ e hs hk hv =>
    cases e
    have hl : ks.length = (kds.map Prod.fst).length := by rw [hk, List.length_map]
    refine ⟨a, o, rfl, .inl ⟨ks, g1.sub _ _ hs, k _ F1 H1 g1 (WalkD.of walk_keys hl (fun F H s1 s2 => s2 _ _ (s1 _ _ hs)) fun i F H x H' s1 s2 hi y => ?_)⟩⟩
    obtain ⟨rfl, kk, v, e1, rfl⟩ := y
    exact ⟨F, _, Grow.refl s2, map_get (f := keyD) hk e1, dv_key kk⟩
  | @dt a o ks _ _ e hs hk hv =>
    cases e
    have hl : ks.length = (kds.map Prod.fst).length := by rw [hk, List.length_map]
    refine ⟨a, o, rfl, .inr ⟨ks, g1.sub _ _ hs, k _ F1 H1 g1 (WalkD.of walk_keysT hl (fun F H s1 s2 => s2 _ _ (s1 _ _ hs)) fun i F H x H' s1 s2 hi y => ?_)⟩⟩
    obtain ⟨rfl, kk, v, q, e1, rfl, e2⟩ := y
    exact ⟨_, _, Grow.see s2 e2, map_get (f := keysD) hk e1, .tup upd_same (dva_keys kk)⟩
end
end PV
end

section
set_option maxRecDepth 100000
set_option maxHeartbeats 4000000
namespace PV
open PySem PySem.Spec PyProof.Rows L2
section
variable {prog : Program} {w : World} {A : Around} {E : Value → Shared → Prop} {s : Shared} {d : Addr} {o : Obj} {es : Array DictEntry} {ep : Nat}
theorem walks_keys (hh : A.handled = none) (I : Addr) (hne : d ≠ I) (hdat : o.data = .dict es ep) :
    Walks prog w A I [I, d] [I] es.size (fun i v => ∃ en, es[i]? = some en ∧ v = en.key) (fun i h => h.IsKeyIter I d i es.size ep ∧ h.get? d = some o) where
  sub := fun b hb => by simp at hb; simp [hb]
  frame := fun _ _ _ st hk => ⟨st.1.at fun o e => hk I (by simp) o e, hk d (by simp) _ st.2⟩
  item := fun i s Q E hi st hQ => by
    refine next_key_item st.1 st.2 hdat rfl (en := es[i]) (by simp [hi]) fun h' st' sb => ?_
    exact hQ _ h' s.toks ⟨_, by simp [hi], rfl⟩ ⟨st', (sb.2 d hne).trans st.2⟩ fun b o hb e => (sb.2 b (fun h => hb (by simp [h]))).trans e
  done := fun s Q E st hQ => next_key_end hh st.1 st.2 hdat rfl (Nat.le_refl _) fun h' eb => hQ h' s.toks fun b o hb e => eb b o (fun h => hb (by simp [h])) e
  self := fun i s Q E st h => wpAny_pyIter_keyiter st.1 h
theorem kdl_raw (lo : (d == sysModules) = false) (hc : o.ExactDict) (hdat : o.data = .dict es ep) : PySem.W.KdlSrc prog w "dict" d d es.size (fun i v => ∃ en, es[i]? = some en ∧ v = en.key) (fun h => h.get? d = some o) where
  type := fun _ hm => ⟨o, hm, hc.1⟩
  there := fun _ hm => ⟨Heap.lt_size hm, Heap.lt_size hm⟩
  keep := fun _ _ hm hk => hk d (.inl rfl) o hm
  notList := by decide
  notTuple := by decide
  hint := fun _ _ _ _ hm hq => PySem.W.kdl_hint_dict ⟨o, hm, hc.1⟩ hq
  iter := fun _ _ hh hm => ⟨_, _, (fun _ _ hq => iter_keys lo hm hc hdat hq), walks_keys hh _ (Nat.ne_of_lt (Heap.lt_size hm)) hdat, ⟨⟨_, Heap.get?_push_size _ rfl, rfl, rfl⟩, Heap.get?_push_of_some _ hm⟩⟩
theorem collect_keys {R : List Value → Shared → Prop} (hh : A.handled = none) (ho : s.heap.get? d = some o) (lo : (d == sysModules) = false) (hc : o.ExactDict) (hdat : o.data = .dict es ep) (hn : es.size ≤ sizeLine)
    (h : ∀ (h' : Heap) (tk : Nat), (∀ b o, s.heap.get? b = some o → h'.get? b = some o) → R (es.toList.map (·.key)) { s with heap := h', toks := tk }) : wpAny (model prog w) A (collect (.ref d)) R E s :=
  PySem.W.kdu_collect (kdl_raw lo hc hdat) hh ho hn fun h' tk acc k it => by
    have e : acc.toList = es.toList.map (·.key) := by
      apply List.ext_getElem?
      intro i
      rw [List.getElem?_map]
      by_cases hi : i < acc.size
      · have e1 : acc[i]? = some acc[i] := by simp [hi]
        obtain ⟨en, e2, e3⟩ := it.2 i _ e1
        rw [Array.getElem?_toList, e1, Array.getElem?_toList, e2, e3]; rfl
      · have hi2 : ¬ i < es.size := by rw [← it.1]; exact hi
        rw [Array.getElem?_toList, Array.getElem?_toList, Array.getElem?_eq_none (by omega), Array.getElem?_eq_none (by omega)]; rfl
    rw [e]
    exact h h' tk k
variable {β : Type} {vs : List Value} {bs : List β} {enc : β → PyData} {R : Value → β → Prop}
/-- sorted(x) by what is collected of x -/
theorem sorted_col {l : Addr} {Q : Value → Shared → Prop} (hcol : ∀ R : List Value → Shared → Prop, (∀ h1 tk, (∀ b o, s.heap.get? b = some o → h1.get? b = some o) → R vs { s with heap := h1, toks := tk }) → wpAny (model prog w) A.in1 (collect (.ref l)) R E s)
    (e : PySem.W.EachIs R vs bs) (er : PySem.W.EachIs (fun v b => ∃ as, Reads s.heap v (enc b) as) vs bs) (hal : PySem.W.AllAlike (bs.map enc)) (hk : PySem.W.Sortable (bs.map enc)) (hL : bs.length ≤ sizeLine)
    (hu : ∀ b, b ∈ bs → A.units + 2 + (enc b).depth < cLine)
    (h : ∀ (h1 h' : Heap) (tk : Nat) p c out, (∀ b o, s.heap.get? b = some o → h1.get? b = some o) → (∀ b o, h1.get? b = some o → h'.get? b = some o) → h1.objs.size ≤ p → h'.get? p = some (seqObj "list" (List.toArray out) c) → out.length = bs.length → PySem.W.EachIs R out (bs.mergeSort (PySem.W.dataLe false enc)) →
      Q (.ref p) { s with heap := h', toks := tk }) :
    wpAny (model prog w) A (call (.builtin "sorted") [.ref l]) Q E s := by
  have hvl : vs.length ≤ sizeLine := by rw [e.length]; exact hL
  refine call_function_entry_kw kind_sorted plain_sorted entry_sorted (args_sorted1 _) ?_
  unfold Builtin.«sorted»
  refine wpAny_bind (m := checkCount "sorted" 1 1 _) (wpAny_pure ?_)
  refine wpAny_bind (hcol _ fun h1 tk k1 => ?_)
  refine wpAny_bind (wpAny_newList ?_ (by simpa using hvl))
  have hp : (h1.push (seqObj "list" vs.toArray 0)).get? h1.objs.size = some (seqObj "list" vs.toArray 0) := Heap.get?_push_size _ rfl
  have old : ∀ b o, s.heap.get? b = some o → (PySem.W.sortingHeap (h1.push (seqObj "list" vs.toArray 0)) h1.objs.size vs).get? b = some o := fun b o eb => by
    have hb := Heap.lt_size (k1 b o eb)
    exact PySem.W.sortingHeap_old (Nat.ne_of_lt hb) (Heap.get?_push_of_some _ (k1 b o eb))
  have er' : PySem.W.EachIs (fun v b => ∃ as, Reads (PySem.W.sortingHeap (h1.push (seqObj "list" vs.toArray 0)) h1.objs.size vs) v (enc b) as) vs bs := er.mono fun _ _ ⟨as, r⟩ => ⟨as, PyProof.Rows.Reads.keeps old r⟩
  obtain ⟨c, hc2⟩ := sortedHeap_at (vs := vs) (out := (PySem.W.sortVals (PySem.W.dataKind (PySem.W.sortingHeap (h1.push (seqObj "list" vs.toArray 0)) h1.objs.size vs) (bs.map enc)) false vs vs).toArray) hp
  have keep : ∀ b o, h1.get? b = some o → (sortedHeap (h1.push (seqObj "list" vs.toArray 0)) h1.objs.size vs (PySem.W.sortVals (PySem.W.dataKind (PySem.W.sortingHeap (h1.push (seqObj "list" vs.toArray 0)) h1.objs.size vs) (bs.map enc)) false vs vs).toArray).get? b = some o := fun b o eb => by
    have hb := Heap.lt_size eb
    rw [sortedHeap_old (Nat.ne_of_lt hb) (by rw [size_push']; exact Nat.lt_succ_of_lt hb)]
    exact Heap.get?_push_of_some _ eb
  refine wpAny_bind (wpAny_holding (wpAny_call_entry_kw slot_list_sort ⟨_, hp, rfl⟩ entry_list_sort ?_ (args_list_sort _)))
  refine wpAny_mono (PySem.W.list_sort_vals (s := { s with heap := h1.push (seqObj "list" vs.toArray 0), toks := tk }) (κ := PySem.W.dataKind (PySem.W.sortingHeap (h1.push (seqObj "list" vs.toArray 0)) h1.objs.size vs) (bs.map enc)) (P := fun f s' => f = .done (.ret .none) ∧ Q (.ref h1.objs.size) s') hp
    (PySem.W.SortsAt.data (s := { s with heap := PySem.W.sortingHeap (h1.push (seqObj "list" vs.toArray 0)) h1.objs.size vs, toks := tk }) (PySem.W.each_map (R := fun v d => ∃ as, Reads _ v d as) enc er') hal hk ?_) hvl ⟨rfl, ?_⟩) (fun f s' hf => ?_) fun _ _ q => q
  · intro d hd
    obtain ⟨b, hb, rfl⟩ := List.mem_map.mp hd
    exact hu b hb
  · exact h h1 _ tk _ c _ k1 keep (Nat.le_refl _) hc2 (by rw [PySem.W.sortVals_length false rfl]; exact e.length) (PySem.W.sortVals_data false e er' hal)
  · obtain ⟨rfl, hq⟩ := hf
    exact ⟨_, rfl, wpAny_pure ⟨_, rfl, hq⟩⟩
end
def sortDX : List D → Option (List D)
  | [d] => (dicD d).bind fun tk => sortX [.list (tk.2.map Prod.fst)]
  | _ => none
theorem vals_pairs0 {P : Program} {w : World} {l : List DictEntry} {vs : List (Key × Value)} (pr : Pairs (mixKind P w) l vs) : Vals (vs.map fun p => kV p.1) (l.map (·.key)) := by
  induction pr with
  | nil => exact .nil
  | cons h1 h2 _ ih => exact .cons (relV_key h1) ih
theorem vals_pairs {P : Program} {w : World} {l : List DictEntry} {vs : List (Key × Value)} {ks : List (Key × V)} (pr : Pairs (mixKind P w) l vs) (kv : KV ks vs) : Vals (ks.map fun p => kV p.1) (l.map (·.key)) := by
  have h := vals_pairs0 pr
  have e : (ks.map fun p => kV p.1) = vs.map fun p => kV p.1 := by
    have := congrArg (List.map kV) kv.keys
    rw [List.map_map, List.map_map] at this
    exact this
  rw [e]; exact h
theorem dva_keysP {K : PySem.W.Frag} {F : Hp} (ks : List (Key × V)) : DvA K F (ks.map fun p => kV p.1) (ks.map fun p => keyD p.1) := by
  have := dva_keys (K := K) (F := F) (ks.map Prod.fst)
  rw [List.map_map, List.map_map] at this
  exact this
theorem dva_of {K : PySem.W.Frag} {F : Hp} : ∀ {vs : List V} {ds : List D}, vs.length = ds.length → (∀ (i : Nat) (v : V) (d : D), vs[i]? = some v → ds[i]? = some d → Dv K F v d) → DvA K F vs ds
  | [], [], _, _ => .nil
  | [], _ :: _, h, _ => by simp at h
  | _ :: _, [], h, _ => by simp at h
  | v :: vs, d :: ds, hl, h => .cons (h 0 v d rfl rfl) (dva_of (by simpa using hl) fun i a b e1 e2 => h (i + 1) a b (by simpa using e1) (by simpa using e2))
theorem vals_of : ∀ {vs : List V} {us : List Value}, vs.length = us.length → (∀ (i : Nat) (v : V) (u : Value), vs[i]? = some v → us[i]? = some u → RelV v u) → Vals vs us
  | [], [], _, _ => .nil
  | [], _ :: _, h, _ => by simp at h
  | _ :: _, [], h, _ => by simp at h
  | v :: vs, d :: ds, hl, h => .cons (h 0 v d rfl rfl) (vals_of (by simpa using hl) fun i a b e1 e2 => h (i + 1) a b (by simpa using e1) (by simpa using e2))
/-- all tuples seen -/
def seeT (F H : Hp) : Hp := fun a => match F a with
  | some o => some o
  | none => match H a with
    | some (.tup xs) => some (.tup xs)
    | _ => none
theorem seeT_f {F H : Hp} {a : Addr} {o : HO} (h : F a = some o) : seeT F H a = some o := by unfold seeT; rw [h]
theorem seeT_t {F H : Hp} {a : Addr} {xs : List V} (s : Same F H) (h : H a = some (.tup xs)) : seeT F H a = some (.tup xs) := by
  unfold seeT
  cases q : F a with
  | some o =>
    have := s a o q
    rw [h] at this; cases this; rfl
  | none => simp only [h]
theorem Grow.seeT {F H : Hp} (s : Same F H) : Grow F H (PV.seeT F H) H where
  hh := Same.refl H
  fr := fun a _ => by
    cases q : F a with
    | some o => exact .inl (seeT_f q)
    | none =>
      unfold PV.seeT
      rw [q]
      cases h : H a with
      | none => exact .inl rfl
      | some o => cases o <;> first | exact .inl rfl | exact .inr ⟨_, rfl, rfl⟩
  sub := fun a o e => by
    cases q : F a with
    | some u => rw [seeT_f q] at e; cases e; exact s a _ q
    | none =>
      unfold PV.seeT at e
      rw [q] at e
      cases h : H a with
      | none => rw [h] at e; cases e
      | some u => rw [h] at e; cases u <;> first | (cases e; done) | exact e
def keyV (en : DictEntry) : V := match en.key with
  | .ref q => .ref q
  | _ => .non
theorem cn_sortDX {X : Cx} {k : Nat} (hr : Room k X.A) (hc : X.calm = true) : CallR X (.builtin "sorted") (rcnOf X.K sortDX) := by
  intro pins s σ H xs us Q I r ⟨F, ds, zs, sb, b, hq, kk⟩
  have hun := hr.un
  unfold sortDX at hq; split at hq
  · rename_i d
    obtain ⟨tk, hd, hq⟩ := Option.bind_eq_some_iff.mp hq
    obtain ⟨t, kds⟩ := tk
    obtain ⟨v, rfl, cb⟩ := b.one
    have cb : Dv X.K F v d := by
      rcases cb with cb | ⟨a, vs, ds, _, e, _⟩
      · exact cb
      · subst e; cases hd
    -- the dict's object, its keys
    obtain ⟨a, o, es, ep, qs, G, rfl, lo, ho, hx, hdt, hsz, gG, va, rv⟩ : ∃ (a : Addr) (o : Obj) (es : Array DictEntry) (ep : Nat) (qs : List V) (G : Hp), v = .ref a ∧ (a == sysModules) = false ∧ s.heap.get? a = some o ∧ o.ExactDict ∧ o.data = .dict es ep ∧ es.size ≤ sizeLine ∧
        Grow F H G H ∧ DvA X.K G qs (kds.map Prod.fst) ∧ Vals qs (es.toList.map (·.key)) := by
      unfold dicD at hd
      split at hd <;> cases hd
      cases cb with
      | scr e _ =>
        rename_i ns _
        cases ns <;> simp at e
      | @dk a o ks _ _ e hs hk hv =>
        cases e
        obtain ⟨lo, hgd, hx, es, ep, vs, hdt, hsz, kv, o', es', ho', hx', hdt', _, pr, _⟩ := I.frzK (sb _ _ hs)
        rw [hgd] at ho'; cases ho'
        rw [hdt] at hdt'; cases hdt'
        refine ⟨a, o, es, ep, ks.map fun p => kV p.1, F, rfl, lo, hgd, hx, hdt, ?_, Grow.refl sb, ?_, vals_pairs pr kv⟩
        · rw [hsz]; exact (I.hok a _ (sb _ _ hs)).2.1
        · rw [hk]; exact dva_keysP ks
      | @dt a o ks _ _ e hs hk hv =>
        cases e
        obtain ⟨lo, hgd, hx, es, ep, hdt, hsz, ent⟩ := I.frzT (sb _ _ hs)
        have hkl : ks.length = kds.length := by
          have := congrArg List.length hk
          rw [List.length_map, List.length_map] at this
          exact this.symm
        have at_ : ∀ (i : Nat) (en : DictEntry), es[i]? = some en → ∃ (k : List Key) (v : V) (q : Addr), ks[i]? = some (k, v) ∧ en.key = .ref q ∧ H q = some (.tup (k.map kV)) := fun i en e => by
          have hi : i < es.size := (Array.getElem?_eq_some_iff.mp e).1
          obtain ⟨⟨k, v⟩, hkv⟩ : ∃ p, ks[i]? = some p := ⟨ks[i]'(by omega), List.getElem?_eq_getElem (by omega)⟩
          obtain ⟨en', q, h1, h2, h3⟩ := ent i k v hkv
          rw [e] at h1; cases h1
          exact ⟨k, v, q, hkv, h2, h3⟩
        refine ⟨a, o, es, ep, es.toList.map keyV, seeT F H, rfl, lo, hgd, hx, hdt, ?_, Grow.seeT sb, ?_, ?_⟩
        · rw [hsz]; exact (I.hok a _ (sb _ _ hs)).2.1
        · refine dva_of (by rw [List.length_map, List.length_map, Array.length_toList, hsz, hkl]) fun i v d e1 e2 => ?_
          rw [List.getElem?_map] at e1
          obtain ⟨en, e3, e4⟩ := Option.map_eq_some_iff.mp e1
          subst e4
          rw [Array.getElem?_toList] at e3
          obtain ⟨k, w, q, h1, h2, h3⟩ := at_ i en e3
          rw [map_get (f := keysD) hk h1] at e2
          cases e2
          unfold keyV
          rw [h2]
          exact .tup (seeT_t sb h3) (dva_keys k)
        · refine vals_of (by rw [List.length_map, List.length_map]) fun i v u e1 e2 => ?_
          rw [List.getElem?_map] at e1 e2
          obtain ⟨en, e3, e4⟩ := Option.map_eq_some_iff.mp e1
          subst e4
          rw [e3] at e2
          cases e2
          rw [Array.getElem?_toList] at e3
          obtain ⟨k, w, q, h1, h2, h3⟩ := at_ i en e3
          have ek : keyV en = .ref q := by unfold keyV; rw [h2]
          rw [ek]
          exact h2
    have key : PyData.canLayAll0 (kds.map Prod.fst) = true ∧ PyData.depthAll (kds.map Prod.fst) ≤ 63 ∧ PySem.W.AllAlike (kds.map Prod.fst) ∧ PySem.W.Sortable (kds.map Prod.fst) ∧ (kds.map Prod.fst).length ≤ sizeLine ∧ (kds.map Prod.fst).mergeSort dle = zs := by
      unfold sortX at hq
      obtain ⟨es', h1, hq⟩ := Option.bind_eq_some_iff.mp hq
      cases h1
      split at hq
      · rename_i ns hn
        obtain ⟨hl, hz⟩ := ite_some2 hq
        have := ints_some hn
        replace this : kds.map Prod.fst = ns.map PyData.int := this
        rw [this]
        refine ⟨canAll_ints ns, by rw [depthAll_ints]; omega, alike_ints ns, .inr fun d hd => ?_, by rw [List.length_map]; exact le_line hl, by rw [sort_ints, hz]⟩
        obtain ⟨a, _, rfl⟩ := List.mem_map.mp hd
        exact ⟨by simp, by simp⟩
      · obtain ⟨hok, hz⟩ := ite_some2 hq
        obtain ⟨q1, q2, q3, q4, q5⟩ := srtOk_spec hok
        exact ⟨q1, q2, q3, q4, q5, by rw [← srtB_eq dle_total, hz]⟩
    obtain ⟨q1, q2, q3, q4, q5, q6⟩ := key
    generalize hes : kds.map Prod.fst = es0 at va q1 q2 q3 q4 q5 q6
    rw [Vals.ref1 r]
    have hlen : qs.length = es0.length := va.length
    have hsnd := zip_snd hlen
    obtain ⟨as, rdA⟩ := Dp.readsAll I _ qs (es.toList.map (·.key)) (DvA.dp _ qs q1 (DvA.mono gG.sub _ _ va)) rv
    refine sorted_col (vs := es.toList.map (·.key)) (bs := qs.zip es0) (enc := Prod.snd) (fun R hR => collect_keys (I.ok.hd hc) ho lo hx hdt hsz hR) (vals_each va rv) (PySem.W.readsAll_each Prod.snd (as := as) (by rw [hsnd]; exact rdA)) (by rw [hsnd]; exact q3) (by rw [hsnd]; exact q4) (by rw [List.length_zip, hlen, Nat.min_self]; exact q5)
      (fun b hb => ?_) fun h1 h' tk p cc out k1 keep hp hcc hl he => ?_
    · have : b.2 ∈ es0 := by rw [← hsnd]; exact List.mem_map.mpr ⟨b, hb, rfl⟩
      have := depth_mem this
      omega
    · obtain ⟨w1, w2⟩ := each_back he
      have hsz : out.length ≤ sizeLine := by rw [hl, List.length_zip, hlen, Nat.min_self]; exact q5
      have e6 : ((qs.zip es0).mergeSort (PySem.W.dataLe false Prod.snd)).map Prod.snd = zs := by
        rw [← q6]
        rw [PySem.W.sort_maps (r := PySem.W.dataLe false Prod.snd) (s := dle) Prod.snd fun a _ b _ => rfl, hsnd]
      rw [e6] at w2
      have I1 : Inv X pins σ H { s with heap := h1, toks := tk } := I.kept (t' := tk) k1
      refine ⟨.ref p, _, I1.laid (t' := tk) (o := .lst (((qs.zip es0).mergeSort (PySem.W.dataLe false Prod.snd)).map Prod.fst)) keep hp ⟨by rw [w1.length]; exact hsz, out, cc, w1, hcc⟩, rfl, kk _ _ G _ (gG.trans (Grow.made gG.sub (I1.hok.fresh hp))) (I1.hok.fresh hp) upd_same (fnone gG.sub (I1.hok.fresh hp)) w2⟩
  · cases hq
end PV
end

section
set_option maxRecDepth 100000
set_option maxHeartbeats 4000000
namespace PV
open PySem PySem.Spec PyProof.Rows L2
/-! ### min(x, default=d), max(x, default=d) -/
def minDf : List D → D → Option D
  | [.list []], e => some e
  | [.tuple []], e => some e
  | ds, _ => minD1 ds
where minD1 : List D → Option D
  | [.list (x :: xs)] => if mmOk (x :: xs) = true then some (leastD x xs) else none
  | [.tuple (x :: xs)] => if mmOk (x :: xs) = true then some (leastD x xs) else none
  | _ => none
def maxDf : List D → D → Option D
  | [.list []], e => some e
  | [.tuple []], e => some e
  | ds, _ => maxD1 ds
where maxD1 : List D → Option D
  | [.list (x :: xs)] => if mmOk (x :: xs) = true then some (mostD x xs) else none
  | [.tuple (x :: xs)] => if mmOk (x :: xs) = true then some (mostD x xs) else none
  | _ => none
def rkOf (K : PySem.W.Frag) (g : List D → D → Option D) : List V → List V → Hp → VK → Prop := fun xs zs H Q => ∃ F ds e z, Same F H ∧ BwA K F H xs ds ∧ DvA K F zs [e] ∧ g ds e = some z ∧ ∀ w F' H', Grow F H F' H' → Dv K F' w z → Q w H'
section
variable {X : Cx} {k : Nat}
theorem ck_min (hc : X.calm = true) (hr : Room k X.A) : CallRK X (.builtin "min") ["default"] (rkOf X.K minDf) := by
  intro pins s σ H xs zs us ws Q I r rz ⟨F, ds, e, z, sb, b, be, hq, kk⟩
  have hun := hr.un
  obtain ⟨zv, rfl⟩ : ∃ zv, zs = [zv] := by cases be with | cons h t => cases t; exact ⟨_, rfl⟩
  have be : Dv X.K F zv e := by cases be with | cons h t => exact h
  obtain ⟨wv, rfl, rzv⟩ := vals1 rz
  have ez : (["default"] : List Str).zip [wv] = [(Str.ofString "default", wv)] := rfl
  rw [ez]
  unfold minDf at hq; split at hq
  · cases hq
    obtain ⟨v, rfl, c⟩ := b.one
    obtain ⟨a, vs, rfl, ha, va⟩ := c.lst sb
    rw [Vals.ref1 r]
    obtain ⟨its, rv, pl, _⟩ := I.list (SqL.of ha)
    obtain ⟨as, rd⟩ := Dp.readsAll I _ vs its (DvA.dp [] vs rfl (DvA.mono sb _ _ va)) rv
    refine PySem.W.min_list_default (I.ok.hd hc) pl.isList (by simpa using rd) ⟨fun x hx => (by cases hx), fun x hx => (by cases hx)⟩ (by simp [PyData.depthAll]; omega) (fun _ h' tk hk => ?_) fun y ys _ _ _ _ _ e => by cases e
    exact ⟨zv, H, I.kept hk, rzv, kk zv F H (Grow.refl sb) be⟩
  · cases hq
    obtain ⟨v, rfl, c⟩ := b.one
    obtain ⟨a, vs, rfl, ha, _, va⟩ := c.tup sb
    rw [Vals.ref1 r]
    obtain ⟨its, rv, pl, _⟩ := I.tuple (SqT.of ha)
    obtain ⟨as, rd⟩ := Dp.readsAll I _ vs its (DvA.dp [] vs rfl (DvA.mono sb _ _ va)) rv
    refine PySem.W.min_tuple_default (I.ok.hd hc) (show s.heap.IsTuple a its.toArray from pl) (by simpa using rd) ⟨fun x hx => (by cases hx), fun x hx => (by cases hx)⟩ (by simp [PyData.depthAll]; omega) (fun _ h' tk hk => ?_) fun y ys _ _ _ _ _ e => by cases e
    exact ⟨zv, H, I.kept hk, rzv, kk zv F H (Grow.refl sb) be⟩
  · unfold minDf.minD1 at hq; split at hq
    · obtain ⟨hok, hz⟩ := ite_some2 hq
      obtain ⟨h1, h2, h3⟩ := mmOk_spec hok
      obtain ⟨v, rfl, c⟩ := b.one
      obtain ⟨a, vs, rfl, ha, va⟩ := c.lst sb
      rw [Vals.ref1 r]
      obtain ⟨its, rv, pl, _⟩ := I.list (SqL.of ha)
      obtain ⟨as, rd⟩ := Dp.readsAll I _ vs its (DvA.dp _ vs h1 (DvA.mono sb _ _ va)) rv
      refine PySem.W.min_list_default (I.ok.hd hc) pl.isList (by simpa using rd) h3 (by omega) (fun e => by cases e) fun y ys i v h' tk bs e hi hrd hk => ?_
      cases e
      have I2 : Inv X pins σ H { s with heap := h', toks := tk } := I.kept hk
      obtain ⟨x, rx, hx⟩ := item_of I2 sb va rv h3.1 h1 (by simpa using hi) (pick_mem _ _) hrd
      exact ⟨x, H, I2, rx, kk x F H (Grow.refl sb) (by rw [← hz]; exact hx)⟩
    · obtain ⟨hok, hz⟩ := ite_some2 hq
      obtain ⟨h1, h2, h3⟩ := mmOk_spec hok
      obtain ⟨v, rfl, c⟩ := b.one
      obtain ⟨a, vs, rfl, ha, _, va⟩ := c.tup sb
      rw [Vals.ref1 r]
      obtain ⟨its, rv, pl, _⟩ := I.tuple (SqT.of ha)
      obtain ⟨as, rd⟩ := Dp.readsAll I _ vs its (DvA.dp _ vs h1 (DvA.mono sb _ _ va)) rv
      refine PySem.W.min_tuple_default (I.ok.hd hc) (show s.heap.IsTuple a its.toArray from pl) (by simpa using rd) h3 (by omega) (fun e => by cases e) fun y ys i v h' tk bs e hi hrd hk => ?_
      cases e
      have I2 : Inv X pins σ H { s with heap := h', toks := tk } := I.kept hk
      obtain ⟨x, rx, hx⟩ := item_of I2 sb va rv h3.1 h1 (by simpa using hi) (pick_mem _ _) hrd
      exact ⟨x, H, I2, rx, kk x F H (Grow.refl sb) (by rw [← hz]; exact hx)⟩
    · cases hq
theorem ck_max (hc : X.calm = true) (hr : Room k X.A) : CallRK X (.builtin "max") ["default"] (rkOf X.K maxDf) := by
  intro pins s σ H xs zs us ws Q I r rz ⟨F, ds, e, z, sb, b, be, hq, kk⟩
  have hun := hr.un
  obtain ⟨zv, rfl⟩ : ∃ zv, zs = [zv] := by cases be with | cons h t => cases t; exact ⟨_, rfl⟩
  have be : Dv X.K F zv e := by cases be with | cons h t => exact h
  obtain ⟨wv, rfl, rzv⟩ := vals1 rz
  have ez : (["default"] : List Str).zip [wv] = [(Str.ofString "default", wv)] := rfl
  rw [ez]
  unfold maxDf at hq; split at hq
  · cases hq
    obtain ⟨v, rfl, c⟩ := b.one
    obtain ⟨a, vs, rfl, ha, va⟩ := c.lst sb
    rw [Vals.ref1 r]
    obtain ⟨its, rv, pl, _⟩ := I.list (SqL.of ha)
    obtain ⟨as, rd⟩ := Dp.readsAll I _ vs its (DvA.dp [] vs rfl (DvA.mono sb _ _ va)) rv
    refine PySem.W.max_list_default (I.ok.hd hc) pl.isList (by simpa using rd) ⟨fun x hx => (by cases hx), fun x hx => (by cases hx)⟩ (by simp [PyData.depthAll]; omega) (fun _ h' tk hk => ?_) fun y ys _ _ _ _ _ e => by cases e
    exact ⟨zv, H, I.kept hk, rzv, kk zv F H (Grow.refl sb) be⟩
  · cases hq
    obtain ⟨v, rfl, c⟩ := b.one
    obtain ⟨a, vs, rfl, ha, _, va⟩ := c.tup sb
    rw [Vals.ref1 r]
    obtain ⟨its, rv, pl, _⟩ := I.tuple (SqT.of ha)
    obtain ⟨as, rd⟩ := Dp.readsAll I _ vs its (DvA.dp [] vs rfl (DvA.mono sb _ _ va)) rv
    refine PySem.W.max_tuple_default (I.ok.hd hc) (show s.heap.IsTuple a its.toArray from pl) (by simpa using rd) ⟨fun x hx => (by cases hx), fun x hx => (by cases hx)⟩ (by simp [PyData.depthAll]; omega) (fun _ h' tk hk => ?_) fun y ys _ _ _ _ _ e => by cases e
    exact ⟨zv, H, I.kept hk, rzv, kk zv F H (Grow.refl sb) be⟩
  · unfold maxDf.maxD1 at hq; split at hq
    · obtain ⟨hok, hz⟩ := ite_some2 hq
      obtain ⟨h1, h2, h3⟩ := mmOk_spec hok
      obtain ⟨v, rfl, c⟩ := b.one
      obtain ⟨a, vs, rfl, ha, va⟩ := c.lst sb
      rw [Vals.ref1 r]
      obtain ⟨its, rv, pl, _⟩ := I.list (SqL.of ha)
      obtain ⟨as, rd⟩ := Dp.readsAll I _ vs its (DvA.dp _ vs h1 (DvA.mono sb _ _ va)) rv
      refine PySem.W.max_list_default (I.ok.hd hc) pl.isList (by simpa using rd) h3 (by omega) (fun e => by cases e) fun y ys i v h' tk bs e hi hrd hk => ?_
      cases e
      have I2 : Inv X pins σ H { s with heap := h', toks := tk } := I.kept hk
      obtain ⟨x, rx, hx⟩ := item_of I2 sb va rv h3.1 h1 (by simpa using hi) (pick_mem _ _) hrd
      exact ⟨x, H, I2, rx, kk x F H (Grow.refl sb) (by rw [← hz]; exact hx)⟩
    · obtain ⟨hok, hz⟩ := ite_some2 hq
      obtain ⟨h1, h2, h3⟩ := mmOk_spec hok
      obtain ⟨v, rfl, c⟩ := b.one
      obtain ⟨a, vs, rfl, ha, _, va⟩ := c.tup sb
      rw [Vals.ref1 r]
      obtain ⟨its, rv, pl, _⟩ := I.tuple (SqT.of ha)
      obtain ⟨as, rd⟩ := Dp.readsAll I _ vs its (DvA.dp _ vs h1 (DvA.mono sb _ _ va)) rv
      refine PySem.W.max_tuple_default (I.ok.hd hc) (show s.heap.IsTuple a its.toArray from pl) (by simpa using rd) h3 (by omega) (fun e => by cases e) fun y ys i v h' tk bs e hi hrd hk => ?_
      cases e
      have I2 : Inv X pins σ H { s with heap := h', toks := tk } := I.kept hk
      obtain ⟨x, rx, hx⟩ := item_of I2 sb va rv h3.1 h1 (by simpa using hi) (pick_mem _ _) hrd
      exact ⟨x, H, I2, rx, kk x F H (Grow.refl sb) (by rw [← hz]; exact hx)⟩
    · cases hq
end
def eMm (g : List D → D → Option D) (dr : Ev → Option (List D)) (dd : Ev → Option D) : Ev → Option D := fun env => (dr env).bind fun ds => (dd env).bind fun e => g ds e
theorem vmm {X : Cx} {a b : Expr} {dr : Ev → Option (List D)} {db : Ev → Option D} {g : List D → D → Option D} {x : Str} {id : String} {p pos kp : Pos} (hc : CallRK X (.builtin id) ["default"] (rkOf X.K g)) (hm : X.mg x = none) (hv : bootBuiltins x = some (.builtin id)) (ha : PVAB X [a] dr) (hb : PVE X b db) (hg : Gl X x := by rfl) (hn : x ≠ "__name__" := by decide) (hdb : (x == ("__debug__" : Str)) = false := by decide)
    (he : backTo pos (starEach [a] X.env) = (false, eval a X.env) :: backTo pos (starEach [] X.env) := by rfl) (hpl : (backTo pos (starEach [a] X.env)).any (·.1) = false := by rfl)
    (hall : (backToKw pos (keywordEach [⟨some "default", b, kp⟩] X.env)).all (·.1.isSome) = true := by rfl) (hnone : (backToKw pos (keywordEach [⟨some "default", b, kp⟩] X.env)).any (·.1.isNone) = false := by rfl) (hks : (backToKw pos (keywordEach [⟨some "default", b, kp⟩] X.env)).filterMap (·.1) = (["default"] : List Str) := by rfl) :
    PVE X (.Call (.Name x p) [a] [⟨some "default", b, kp⟩] pos) (eMm g dr db) :=
  PE.imp (pe_callBK hc hg hm hv ha (pk_cons hb pk_nil) hn hdb he hpl hall hnone hks) fun σ H Q ⟨H0, F0, env, F, z, rl, ed, k⟩ => by
    obtain ⟨ds, h1, ed⟩ := Option.bind_eq_some_iff.mp ed
    obtain ⟨e, h2, ed⟩ := Option.bind_eq_some_iff.mp ed
    exact ⟨H0, F0, env, F, ds, rl, h1, fun xs F1 H1 g1 b1 => ⟨H0, F0, env, F1, e, rl.grow g1, h2, fun y F2 H2 g2 b2 => ⟨F2, ds, e, z, g2.sub, BwA.grow g2 g1.sub b1, .cons b2 .nil, ed, fun w F' H' g' hw => k w F' H' ((g1.trans g2).trans g') hw⟩⟩⟩
end PV
end

section
set_option maxRecDepth 100000
set_option maxHeartbeats 4000000
namespace PV
open PySem PySem.Spec PyProof.Rows L2
/-! ### enumerate(tuple, start) -/
theorem enum_endC {prog : Program} {w : World} {A : Around} {E : Value → Shared → Prop} {s : Shared} {e it l : Addr} {i : Nat} {c : Int} {items : Array Value} {old : Value} {Q : Option Value → Shared → Prop} (hh : A.handled = none)
    (he : IsEnum s.heap e it c old) (hit : s.heap.IsTupleIter it l i) (hl : s.heap.IsTuple l items) (hx : items[i]? = none)
    (hQ : ∀ h', Heap.ExtBut it s.heap h' → Q none { s with heap := h' }) : wpAny (model prog w) A (pyNext (.ref e)) Q E s := by
  have hT : s.TypeIs (.ref e) "enumerate" := ⟨_, he, rfl⟩
  unfold pyNext
  refine wpAny_bind (wpAny_attempt (wpAny_callSpecial?_slot (name := Str.ofString "__next__") hT PySem.F.slot_enumerate_next
    (wpAny_call_entry PySem.F.slot_enumerate_next hT PySem.F.entry_enumerate_next ?_ (PySem.F.args_enumerate_next_1 _))))
  show wpAny _ _ (field (.ref e) 2 >>= _) _ _ _
  refine wpAny_bind (wpAny_field he rfl (x := .ref it) rfl ?_)
  refine wpAny_bind (wpAny_nextOf_tuple_end hh hit hl hx fun h' x he' hx' => ?_)
  obtain ⟨o, ho, hc⟩ := hx'
  refine wpAny_bind (wpAny_isInstance (T := "StopIteration") (b := true) ⟨o, ho, hc⟩ isSubtype_stop ?_)
  exact wpAny_pure (hQ _ he')
def IteS (K : PySem.W.Frag) (a : Addr) (c : Int) : It :=
  ⟨fun i H => ∃ (xs : List V) (x : V), SqT K H a xs ∧ xs[i]? = some x, fun i H v H' => ∃ T x, v = .ref T ∧ H T = none ∧ H' = upd H T (.tup [.int (c + (i : Nat)), x]) ∧ ∀ xs, SqT K H a xs → xs[i]? = some x, fun i H => ∃ xs : List V, SqT K H a xs ∧ xs.length ≤ i⟩
theorem turn_enumS {P : Program} {w : World} {K : PySem.W.Frag} {elts : List Expr} {kk : Nat} {tpos : Pos} (a e it : Addr) (c : Int) :
    Turn P w K (.Tuple elts kk tpos) (IteS K a c) [e, it] e (fun i h => (∃ old, IsEnum h e it (c + ((i : Nat) : Int)) old) ∧ h.IsTupleIter it a i ∧ e ≠ it ∧ a ≠ it ∧ a ≠ e) where
  mem := by simp
  obj := fun i h st b hb => by
    obtain ⟨⟨old, he⟩, ⟨o, ho, hc, hd⟩, _⟩ := st
    have e' : b = e ∨ b = it := by simpa using hb
    rcases e' with z | z
    · rw [z]; exact ⟨_, he, fun v q => nomatch q⟩
    · rw [z]; exact ⟨o, ho, fun v q => by rw [hd] at q; cases q⟩
  keep := fun i h h' st k => let ⟨⟨old, he⟩, hi, hne⟩ := st; ⟨⟨old, k e (by simp) _ he⟩, hi.at fun o q => k it (by simp) o q, hne⟩
  item := by
    intro X hP hw hK hc i pins s σ H E I hf st hg
    subst hP hw hK
    obtain ⟨⟨old, he⟩, hit, hne, hai, hae⟩ := st
    obtain ⟨xs, x, hq, hx⟩ := hg
    obtain ⟨its, rv, p, hz⟩ := I.tuple hq
    obtain ⟨u, hu, ru⟩ := rv.get hx
    have hel : e < s.heap.objs.size := Heap.lt_size he
    have hil : it < s.heap.objs.size := by obtain ⟨_, q, _⟩ := hit; exact Heap.lt_size q
    have hi : i < its.toArray.size := by simpa using (List.getElem?_eq_some_iff.mp hu).1
    refine wpAny_pyNext_enum_itemC (Draws.tuple (prog := X.prog) (w := X.w) (A := X.A.in1) (show X.A.in1.handled = none from I.ok.hd hc) it a hai its.toArray) he ⟨hit, p⟩ hi hne (by simp only [List.mem_cons, List.not_mem_nil, or_false, not_or]; exact ⟨hne, fun z => hae z.symm⟩) fun x' h' tk hx' ho hit' hT hsz hk => ?_
    have ex : x' = u := by
      rw [show its.toArray[i]? = its[i]? by simp] at hx'
      rw [hu] at hx'; exact (Option.some.inj hx').symm
    subst ex
    refine ⟨_, rfl, wpAny_letOwnedTupleGo_enum (s := { s with heap := h', toks := tk + 1 }) ho fun h'' he' sb => ?_⟩
    have hT2 : h''.get? s.heap.objs.size = some { cls := .type "tuple", data := .seq #[.int (c + (i : Int)) tk, x'] } := (sb.2 _ (Nat.ne_of_gt hel)).trans hT
    have new : ObjOk X.prog X.w (upd H s.heap.objs.size (.tup [.int (c + (i : Nat)), x])) h'' s.heap.objs.size (.tup [.int (c + (i : Nat)), x]) :=
      ⟨by show 2 ≤ sizeLine; decide, [.int (c + (i : Int)) tk, x'], .cons ⟨_, rfl⟩ (.cons ru .nil), ⟨_, hT2, rfl, _, rfl⟩⟩
    have I1 : Inv X pins σ (upd H s.heap.objs.size (.tup [.int (c + (i : Nat)), x])) { s with heap := h'', toks := tk + 1 } :=
      I.turnedNew (ch := [e, it]) (fun b ob hb q => (sb.2 b (fun z => hb (by simp [z]))).trans (hk b ob (fun z => hb (by simp [z])) (fun z => hb (by simp [z])) q)) hf (Nat.le_refl _) new
    refine ⟨.ref s.heap.objs.size, _, I1, rfl, ⟨_, x, rfl, I.hok.fresh (Nat.le_refl _), rfl, fun ys hy => by rw [I.tuple_inj hy hq]; exact hx⟩, ⟨⟨x', ?_⟩, hit'.1.at fun o q => (sb.2 it (Ne.symm hne)).trans q, hne, hai, hae⟩, fun b hb => ?_⟩
    · have e1 : c + ((i + 1 : Nat) : Int) = c + (i : Int) + 1 := by omega
      rw [e1]; exact he'
    · have hb' : b < s.heap.objs.size := by
        have e' : b = e ∨ b = it := by simpa using hb
        rcases e' with z | z
        · rw [z]; exact hel
        · rw [z]; exact hil
      rw [upd_ne (Nat.ne_of_lt hb')]
      exact (hf b hb).1
  done := by
    intro X hP hw hK hc i pins s σ H E I hf st hg
    subst hP hw hK
    obtain ⟨⟨old, he⟩, hit, hne, hai, hae⟩ := st
    obtain ⟨xs, hq, hx⟩ := hg
    obtain ⟨its, rv, p, hz⟩ := I.tuple hq
    obtain ⟨f0, f1, f2, f3, f4, f5⟩ := hf it (by simp)
    have hl := rv.length
    exact enum_endC (I.ok.hd hc) he hit p (by simp; omega) fun h' eb => ⟨rfl, I.turned (t' := s.toks) (fun b o hb q => eb b o hb q) f0 f1 f3 f4 f5⟩
  self := fun A i s Q E st h => let ⟨⟨_, he⟩, _⟩ := st; wpAny_pyIter_enum he h
def iEnumS (K : PySem.W.Frag) (ta : TA) : TI := fun σ H R => ta σ H fun vs H1 => ∃ a xs c, vs = [.ref a, .int c] ∧ SqT K H1 a xs ∧ -1000000 ≤ c ∧ c ≤ 1000000 ∧ R (IteS K a c) H1
theorem pi_enumS {X : Cx} {e e2 : Expr} {ta : TA} {p pos tpos : Pos} {elts : List Expr} {kk : Nat} (hg : Gl X "enumerate") (hm : X.mg "enumerate" = none) (ha : PA X [e, e2] ta) (hs : starEach [e, e2] X.env = (false, eval e X.env) :: starEach [e2] X.env := by rfl) (hpl : (backTo pos (starEach [e2] X.env)).any (·.1) = false := by rfl) :
    PI X (.Tuple elts kk tpos) (.Call (.Name "enumerate" p) [e, e2] [] pos) (iEnumS X.K ta) := by
  refine ⟨fun pins s σ H R I h => ?_⟩
  refine Call_ (ld_blt I hg hm PyProof.Rows.boot_enumerate (PyProof.Rows.callWith_type1 (thn (ha.run pos pins s σ H _ I h) fun us s1 ⟨vs, H1, I1, r1, q1⟩ => ?_) hs hpl))
  obtain ⟨a, xs, c, ex, hq, hc0, hc1, q⟩ := q1
  subst ex
  cases r1 with
  | cons r rr =>
    cases rr with
    | cons r2 rr =>
    cases rr
    cases r
    obtain ⟨tk, rfl⟩ := r2
    obtain ⟨its, rv, p', hz⟩ := I1.tuple hq
    have hal : a < s1.heap.objs.size := by obtain ⟨o, ho, _⟩ := id p'; exact Heap.lt_size ho
    refine enum_begins (begins_tuple a its.toArray) (show s1.heap.IsTuple a its.toArray from p') (by omega) (by omega) fun h' he hit hsz hk => wpAny_pyIter_enum he ?_
    have I2 : Inv X pins σ H1 { s1 with heap := h' } := I1.kept (t' := s1.toks) hk
    refine ⟨s1.heap.objs.size + 1, [s1.heap.objs.size + 1, s1.heap.objs.size], _, _, H1, rfl, I2, turn_enumS a (s1.heap.objs.size + 1) s1.heap.objs.size c, ⟨⟨.none, by simpa using he⟩, ⟨_, hit, rfl, rfl⟩, Nat.succ_ne_self _, Nat.ne_of_lt hal, Nat.ne_of_lt (Nat.lt_succ_of_lt hal)⟩, fun b hb => ?_, q⟩
    have e' : b = s1.heap.objs.size + 1 ∨ b = s1.heap.objs.size := by simpa using hb
    have hle : s1.heap.objs.size ≤ b := by
      rcases e' with z | z
      · rw [z]; exact Nat.le_add_right _ _
      · rw [z]; exact Nat.le_refl _
    exact I1.fpOk hle (I1.hok.fresh hle)
theorem walk_enumS {K : PySem.W.Frag} {a : Addr} {c : Int} {xs : List V} : Walk (IteS K a c) xs.length (fun H => SqT K H a xs) (YPair (fun i => some (.int (c + (i : Nat)))) (fun i => xs[i]?)) := by
  refine ⟨fun i _ hi q => ⟨xs, xs[i], q, by simp [hi]⟩, fun _ q => ⟨xs, q, Nat.le_refl _⟩, fun i H v H' _ q y => ?_⟩
  obtain ⟨T, x, h1, h2, h3, h4⟩ := y
  exact ⟨T, .int (c + (i : Nat)), x, h1, h2, h3, rfl, h4 xs q⟩
def enumS (c : Int) (ds : List D) : List D := (ds.zipIdx).map fun p => .tuple [.int (c + (p.2 : Nat)), p.1]
theorem enumS_length (c : Int) (ds : List D) : (enumS c ds).length = ds.length := by simp [enumS]
theorem enumS_get {c : Int} {ds : List D} {i : Nat} {d : D} (h : ds[i]? = some d) : (enumS c ds)[i]? = some (.tuple [.int (c + (i : Nat)), d]) := by
  simp [enumS, List.getElem?_zipIdx, h]
def enS : List D → Option (List D)
  | [.tuple ds, .int c] => if -1000000 ≤ c ∧ c ≤ 1000000 then some (enumS c ds) else none
  | _ => none
theorem vi_enumS {X : Cx} {a b : Expr} {p pos tpos : Pos} {elts : List Expr} {kk : Nat} {dr : Ev → Option (List D)} (ha : PVA X [a, b] dr) (hm : X.mg "enumerate" = none) (hg : Gl X "enumerate" := by rfl) (hs : starEach [a, b] X.env = (false, eval a X.env) :: starEach [b] X.env := by rfl) (hpl : (backTo pos (starEach [b] X.env)).any (·.1) = false := by rfl) :
    PVI X (.Tuple elts kk tpos) (.Call (.Name "enumerate" p) [a, b] [] pos) (nA enS dr) :=
  PI.imp (pi_enumS hg hm ha hs hpl) fun σ H R ⟨H0, F0, env, F, ds, rl, ed, k⟩ => by
    obtain ⟨d, h1, ed⟩ := Option.bind_eq_some_iff.mp ed
    unfold enS at ed; split at ed
    · obtain ⟨hc, rfl⟩ := ite_some2 ed
      refine ⟨H0, F0, env, F, _, rl, h1, fun xs F1 H1 g1 hd => ?_⟩
      cases hd with
      | cons hd ht =>
        cases ht with
        | cons h2 ht =>
        cases ht
        cases h2
        cases hd with
        | @tup a vs _ q1 q2 =>
          refine ⟨a, vs, _, rfl, SqT.of (g1.sub _ _ q1), hc.1, hc.2, k _ F1 H1 g1 (WalkD.of walk_enumS ((DvA.length q2).trans (enumS_length _ _).symm) (fun F H s1 s2 => SqT.of (s2 _ _ (s1 _ _ q1))) fun i F H x H' s1 s2 hi y => ?_)⟩
          obtain ⟨T, v, u, e1, e2, e3, e4, e5⟩ := y
          cases e4
          have e5 : vs[i]? = some u := e5
          have hl := List.getElem?_eq_getElem (show i < _ by rw [← DvA.length q2]; exact hi)
          obtain ⟨u', e6, e7⟩ := DvA.get q2 hl
          rw [e6] at e5; cases e5
          obtain ⟨F', g, hv⟩ := pair_yld s2 e1 e2 e3 (.int _) (Dv.mono s1 _ _ e7)
          exact ⟨F', _, g, enumS_get hl, hv⟩
    · cases ed
end PV
end

section
set_option maxRecDepth 100000
set_option maxHeartbeats 4000000
namespace PVL
open PySem L2 PV
/-! ### dicts: one-step lemmas -/
theorem xD_ap {t : Bool} {env : Ev} : xD t env = some (.dic t []) := id rfl
theorem sDp_ap {i : Nat} {di dv : Ev → Option D} {env : Ev} : sDp i di dv env = (dv env).bind fun v => (di env).bind fun d => (dput i d v env).map .nx := id rfl
theorem dput_ap {i : Nat} {d v : D} {env : Ev} : dput i d v env = (isDc (gt env i)).bind fun tk => (keyP tk.1 d).bind fun p => if tk.2.length < line then some (st env i (some (.dic tk.1 (putD p d v tk.2)))) else none := id rfl
theorem isDc_d {t : Bool} {kds : List (D × D)} : isDc (some (.dic t kds)) = some (t, kds) := id rfl
theorem eDg_ap {dd : EvD} {di : Ev → Option D} {env : Ev} : eDg dd di env = (dd env).bind fun tk => (di env).bind fun d => (keyP tk.1 d).bind fun p => fnd p tk.2 := id rfl
theorem eDin_ap {n : Bool} {dd : EvD} {di : Ev → Option D} {env : Ev} : eDin n di dd env = (di env).bind fun d => (dd env).bind fun tk => (keyP tk.1 d).map fun p => .bool (n != (fnd p tk.2).isSome) := id rfl
theorem eDg1_ap {dd : EvD} {di : Ev → Option D} {env : Ev} : eDg1 dd di env = (dd env).bind fun tk => (di env).bind fun d => (keyP tk.1 d).map fun p => (fnd p tk.2).getD .none := id rfl
theorem eDg2_ap {dd : EvD} {di dx : Ev → Option D} {env : Ev} : eDg2 dd di dx env = (dd env).bind fun tk => (di env).bind fun d => (dx env).bind fun x => (keyP tk.1 d).map fun p => (fnd p tk.2).getD x := id rfl
theorem dE_ap {da : Ev → Option D} {env : Ev} : dE da env = (da env).bind dicD := id rfl
theorem dicD_d {t : Bool} {kds : List (D × D)} : dicD (.dict ((.none, .bool t) :: kds)) = some (t, kds) := id rfl
theorem dVar_ap {i : Nat} {env : Ev} : dVar i env = (match gt env i with | some (.dic t kds) => some (t, kds) | some (.v d) => dicD d | _ => none) := id rfl
def dv0 : Option SV → Option (Bool × List (D × D))
  | some (.dic t kds) => some (t, kds)
  | some (.v d) => dicD d
  | _ => none
theorem dVar_0 {i : Nat} {env : Ev} : dVar i env = dv0 (gt env i) := id rfl
theorem dv0_d {t : Bool} {kds : List (D × D)} : dv0 (some (.dic t kds)) = some (t, kds) := id rfl
theorem dv0_v {d : D} : dv0 (some (.v d)) = dicD d := id rfl
def fz0 (o : Option SV) (env : Ev) (i : Nat) : Ev := match o with
  | some (.dic t kds) => st env i (some (.v (.dict ((.none, .bool t) :: kds))))
  | _ => env
theorem frzD_0 {i : Nat} {env : Ev} : frzD env i = fz0 (gt env i) env i := id rfl
theorem fz0_d {i : Nat} {env : Ev} {t : Bool} {kds : List (D × D)} : fz0 (some (.dic t kds)) env i = st env i (some (.v (.dict ((.none, .bool t) :: kds)))) := id rfl
theorem fz0_v {i : Nat} {env : Ev} {d : D} : fz0 (some (.v d)) env i = env := id rfl
theorem iKy_ap {da : Ev → Option D} {env : Ev} : iKy da env = (da env).bind fun d => (dicD d).map fun tk => tk.2.map Prod.fst := id rfl
theorem eMm_ap {g : List D → D → Option D} {dr : Ev → Option (List D)} {dd : Ev → Option D} {env : Ev} : eMm g dr dd env = (dr env).bind fun ds => (dd env).bind fun e => g ds e := id rfl
theorem minDf_n {e : D} : minDf [.list []] e = some e := id rfl
theorem maxDf_n {e : D} : maxDf [.list []] e = some e := id rfl
theorem minDf_l {xs : List Int} {e : D} (h : 0 < xs.length) : minDf [iL xs] e = some (.int (mn xs)) := by
  match xs, h with
  | x :: r, _ => exact minD_l (xs := x :: r) (by simp)
theorem maxDf_l {xs : List Int} {e : D} (h : 0 < xs.length) : maxDf [iL xs] e = some (.int (mx xs)) := by
  match xs, h with
  | x :: r, _ => exact maxD_l (xs := x :: r) (by simp)
/-! ### tables with tuples of ints as keys -/
def kT (l : List (List Int)) (v : List Int → D) : List (D × D) := l.map fun k => (iT k, v k)
def pkT (k : List Int) : D → Bool := fun e => decide (tKs e = some (k.map Sum.inl))
theorem tKl_iT : ∀ k : List Int, tKl (k.map PyData.int) = some (k.map Sum.inl)
  | [] => rfl
  | x :: r => by
    show (tK (.int x)).bind _ = _
    show (tKl (r.map PyData.int)).map _ = _
    rw [tKl_iT r]; rfl
theorem tKs_iT (k : List Int) : tKs (iT k) = some (k.map Sum.inl) := tKl_iT k
theorem keyP_iT {k : List Int} : keyP true (iT k) = some (pkT k) := by
  show (tKs (iT k)).map _ = _
  rw [tKs_iT]; rfl
theorem inl_inj {a b : List Int} : (a.map Sum.inl : List Key) = b.map Sum.inl ↔ a = b := by
  constructor
  · intro h
    induction a generalizing b with
    | nil => cases b with
      | nil => rfl
      | cons => simp at h
    | cons x r ih => cases b with
      | nil => simp at h
      | cons y s =>
        simp only [List.map_cons, List.cons.injEq] at h
        rw [Sum.inl.inj h.1, ih h.2]
  · rintro rfl; rfl
theorem pkT_iT (k a : List Int) : pkT k (iT a) = decide (a = k) := by
  unfold pkT
  rw [tKs_iT]
  exact decide_eq_decide.mpr (by rw [Option.some.injEq]; exact inl_inj)
theorem fnd_kT {k : List Int} {v : List Int → D} : ∀ {l : List (List Int)}, fnd (pkT k) (kT l v) = if k ∈ l then some (v k) else none
  | [] => rfl
  | a :: r => by
    show (if pkT k (iT a) = true then some (v a) else fnd (pkT k) (kT r v)) = _
    rw [pkT_iT, fnd_kT (l := r)]
    by_cases h : a = k
    · subst h; simp
    · have : ¬ k = a := fun e => h e.symm
      simp [h, this]
theorem any_kT {k : List Int} {v : List Int → D} : ∀ {l : List (List Int)}, ((kT l v).any fun kv => pkT k kv.1) = decide (k ∈ l)
  | [] => rfl
  | a :: r => by
    show (pkT k (iT a) || ((kT r v).any fun kv => pkT k kv.1)) = _
    rw [pkT_iT, any_kT (l := r)]
    by_cases h : a = k
    · subst h; simp
    · have : ¬ k = a := fun e => h e.symm
      simp [h, this]
theorem putD_kT {k : List Int} {v : List Int → D} {l : List (List Int)} (h : k ∉ l) : putD (pkT k) (iT k) (v k) (kT l v) = kT (l ++ [k]) v := by
  unfold putD
  rw [any_kT, decide_eq_false h, if_neg (by decide)]
  simp [kT]
theorem kT_len (l : List (List Int)) (v : List Int → D) : (kT l v).length = l.length := by simp [kT]
theorem kT_congr {l : List (List Int)} {v w : List Int → D} (h : ∀ k ∈ l, v k = w k) : kT l v = kT l w := List.map_congr_left fun k hk => by rw [h k hk]
theorem kT_keys (l : List (List Int)) (v : List Int → D) : (kT l v).map Prod.fst = l.map iT := by unfold kT; rw [List.map_map]; rfl
theorem iT2 {x y : Int} : PyData.tuple [.int x, .int y] = iT [x, y] := id rfl
theorem sortDX_T {l : List (List Int)} {v : List Int → D} : sortDX [.dict ((.none, .bool true) :: kT l v)] = sortX [.list (l.map iT)] := by
  show sortX [.list ((kT l v).map Prod.fst)] = _
  rw [kT_keys]
end PVL
end

section
set_option maxRecDepth 100000
set_option maxHeartbeats 4000000
namespace PVL
open PySem L2 PV
theorem dle_iT (a b : List Int) : dle (iT a) (iT b) = !lxL b a := by
  exact congrArg (fun c => !c) (toks_lx b a)
theorem srt_asc : ∀ {l : List (List Int)}, l.Pairwise (fun a b => lxL b a = false) → srtB dle (l.map iT) = l.map iT
  | [], _ => rfl
  | a :: r, h => by
    obtain ⟨h1, h2⟩ := List.pairwise_cons.mp h
    show insB dle (iT a) (srtB dle (r.map iT)) = _
    rw [srt_asc h2]
    cases r with
    | nil => rfl
    | cons b s =>
      show (if dle (iT a) (iT b) = true then _ else _) = _
      rw [dle_iT, h1 b (by simp)]; rfl
theorem sortX_asc {l : List (List Int)} (hl : l.length ≤ 1000000) (hn : ∀ a ∈ l, a ≠ []) (h : l.Pairwise (fun a b => lxL b a = false)) : sortX [.list (l.map iT)] = some (l.map iT) := by
  have ok : srtOk (l.map iT) = true := by
    unfold srtOk
    rw [gd_okD (gd_LiT l)]
    have h1 : alikeL (l.map iT) = true := List.all_eq_true.mpr fun d hd => List.all_eq_true.mpr fun e he => by
      obtain ⟨a, _, rfl⟩ := List.mem_map.mp hd
      obtain ⟨b, _, rfl⟩ := List.mem_map.mp he
      exact alike_iT a b
    have h2 : (l.map iT).all isTupNeD = true := List.all_eq_true.mpr fun d hd => by
      obtain ⟨a, ha, rfl⟩ := List.mem_map.mp hd
      have := hn a ha
      match a, this with
      | x :: r, _ => rfl
    rw [h1, h2, decide_eq_true (show (l.map iT).length ≤ line from PVL.le_line (by simpa using hl))]; rfl
  match l, ok, h with
  | [], _, _ => rfl
  | a :: r, ok, h =>
    show (if srtOk ((a :: r).map iT) = true then some (srtB dle ((a :: r).map iT)) else none) = _
    rw [if_pos ok, srt_asc h]
end PVL
end

section
set_option maxRecDepth 100000
set_option maxHeartbeats 4000000
namespace K75
open PySem PySem.Spec PyProof.Rows L2 PV PVL
def topS (i : Nat) : Stmt := PySem.Challenge.pw_soundsjoined_k75_whole_rows_aligned_in_p.main.body.getD i (.Pass ⟨0, 0, 0, 0⟩)
abbrev s_flow_swaps : Stmt := topS 1
abbrev N_flow_swaps : List Str := ["first", "second", "most", "rows", "one", "before", "row", "index", "other"]
theorem sc_flow_swaps : FnScope N_flow_swaps ["first", "second"] (defScope s_flow_swaps) := ⟨rfl, rfl, rfl, by decide +kernel, rfl, by decide +kernel, by decide +kernel⟩
abbrev s_steps_table : Stmt := topS 2
abbrev N_steps_table : List Str := ["first", "second", "m", "n", "sums", "i", "j", "later", "place"]
theorem sc_steps_table : FnScope N_steps_table ["first", "second"] (defScope s_steps_table) := ⟨rfl, rfl, rfl, by decide +kernel, rfl, by decide +kernel, by decide +kernel⟩
abbrev s_aligned : Stmt := topS 3
abbrev N_aligned : List Str := ["first", "second"]
theorem sc_aligned : FnScope N_aligned ["first", "second"] (defScope s_aligned) := ⟨rfl, rfl, rfl, by decide +kernel, rfl, by decide +kernel, by decide +kernel⟩
abbrev s_aligned_way : Stmt := topS 4
abbrev N_aligned_way : List Str := ["first", "second", "sums", "way", "rest", "later", "i", "j", "place"]
theorem sc_aligned_way : FnScope N_aligned_way ["first", "second"] (defScope s_aligned_way) := ⟨rfl, rfl, rfl, by decide +kernel, rfl, by decide +kernel, by decide +kernel⟩
abbrev s_closest_turn : Stmt := topS 5
abbrev N_closest_turn : List Str := ["first", "second", "n", "sums", "many", "turned", "one", "other"]
theorem sc_closest_turn : FnScope N_closest_turn ["first", "second"] (defScope s_closest_turn) := ⟨rfl, rfl, rfl, by decide +kernel, rfl, by decide +kernel, by decide +kernel⟩
abbrev s_runs_of : Stmt := topS 7
abbrev N_runs_of : List Str := ["word", "found", "letter"]
theorem sc_runs_of : FnScope N_runs_of ["word"] (defScope s_runs_of) := ⟨rfl, rfl, rfl, by decide +kernel, rfl, by decide +kernel, by decide +kernel⟩
abbrev s_said_of : Stmt := topS 8
abbrev N_said_of : List Str := ["word", "number", "run"]
theorem sc_said_of : FnScope N_said_of ["word"] (defScope s_said_of) := ⟨rfl, rfl, rfl, by decide +kernel, rfl, by decide +kernel, by decide +kernel⟩
abbrev s__law_mixed : Stmt := topS 10
abbrev N__law_mixed : List Str := ["script", "k", "cell", "first", "second", "third"]
theorem sc__law_mixed : FnScope N__law_mixed ["script", "k"] (defScope s__law_mixed) := ⟨rfl, rfl, rfl, by decide +kernel, rfl, by decide +kernel, by decide +kernel⟩
abbrev s__law_row : Stmt := topS 11
abbrev N__law_row : List Str := ["script", "many", "big", "row", "k"]
theorem sc__law_row : FnScope N__law_row ["script", "many"] (defScope s__law_row) := ⟨rfl, rfl, rfl, by decide +kernel, rfl, by decide +kernel, by decide +kernel⟩
abbrev s__law_is_int : Stmt := topS 12
abbrev N__law_is_int : List Str := ["value"]
theorem sc__law_is_int : FnScope N__law_is_int ["value"] (defScope s__law_is_int) := ⟨rfl, rfl, rfl, by decide +kernel, rfl, by decide +kernel, by decide +kernel⟩
abbrev s__law_like : Stmt := topS 13
abbrev N__law_like : List Str := ["value", "due", "k"]
theorem sc__law_like : FnScope N__law_like ["value", "due"] (defScope s__law_like) := ⟨rfl, rfl, rfl, by decide +kernel, rfl, by decide +kernel, by decide +kernel⟩
abbrev s__law_after : Stmt := topS 14
abbrev N__law_after : List Str := ["rests", "place", "i", "j", "one"]
theorem sc__law_after : FnScope N__law_after ["rests", "place"] (defScope s__law_after) := ⟨rfl, rfl, rfl, by decide +kernel, rfl, by decide +kernel, by decide +kernel⟩
abbrev s__law_rests : Stmt := topS 15
abbrev N__law_rests : List Str := ["first", "second", "rests", "i", "j"]
theorem sc__law_rests : FnScope N__law_rests ["first", "second"] (defScope s__law_rests) := ⟨rfl, rfl, rfl, by decide +kernel, rfl, by decide +kernel, by decide +kernel⟩
abbrev s__law_way_right : Stmt := topS 16
abbrev N__law_way_right : List Str := ["first", "second", "rests", "i", "j", "due", "after", "way", "turn", "least", "whole", "one"]
theorem sc__law_way_right : FnScope N__law_way_right ["first", "second"] (defScope s__law_way_right) := ⟨rfl, rfl, rfl, by decide +kernel, rfl, by decide +kernel, by decide +kernel⟩
abbrev s__law_plain : Stmt := topS 17
abbrev N__law_plain : List Str := ["numbers", "k"]
theorem sc__law_plain : FnScope N__law_plain ["numbers"] (defScope s__law_plain) := ⟨rfl, rfl, rfl, by decide +kernel, rfl, by decide +kernel, by decide +kernel⟩
abbrev s__law_repeated : Stmt := topS 18
abbrev N__law_repeated : List Str := ["row", "at", "numbers", "longer", "k"]
theorem sc__law_repeated : FnScope N__law_repeated ["row", "at", "numbers"] (defScope s__law_repeated) := ⟨rfl, rfl, rfl, by decide +kernel, rfl, by decide +kernel, by decide +kernel⟩
abbrev s__law_moved_right : Stmt := topS 19
abbrev N__law_moved_right : List Str := ["row", "first", "second", "total", "way", "plain", "other", "longer", "k", "t", "up", "by", "one", "two", "number"]
theorem sc__law_moved_right : FnScope N__law_moved_right ["row", "first", "second"] (defScope s__law_moved_right) := ⟨rfl, rfl, rfl, by decide +kernel, rfl, by decide +kernel, by decide +kernel⟩
abbrev s__law_apart : Stmt := topS 20
abbrev N__law_apart : List Str := ["first", "second", "k"]
theorem sc__law_apart : FnScope N__law_apart ["first", "second"] (defScope s__law_apart) := ⟨rfl, rfl, rfl, by decide +kernel, rfl, by decide +kernel, by decide +kernel⟩
abbrev s__law_turn_right : Stmt := topS 21
abbrev N__law_turn_right : List Str := ["first", "second", "by", "told", "sums", "turned", "other", "k"]
theorem sc__law_turn_right : FnScope N__law_turn_right ["first", "second", "by"] (defScope s__law_turn_right) := ⟨rfl, rfl, rfl, by decide +kernel, rfl, by decide +kernel, by decide +kernel⟩
abbrev s_law : Stmt := topS 22
abbrev N_law : List Str := ["script", "row", "limit", "first", "second", "size", "marks", "others", "k", "place"]
theorem sc_law : FnScope N_law ["script"] (defScope s_law) := ⟨rfl, rfl, rfl, by decide +kernel, rfl, by decide +kernel, by decide +kernel⟩
/-- the defs as they stand -/
structure Defs (K : PySem.W.Frag) (mg : Str → Option Value) : Prop where
  f_flow_swaps : FnS K mg "flow_swaps" s_flow_swaps
  f_steps_table : FnS K mg "steps_table" s_steps_table
  f_aligned : FnS K mg "aligned" s_aligned
  f_aligned_way : FnS K mg "aligned_way" s_aligned_way
  f_closest_turn : FnS K mg "closest_turn" s_closest_turn
  f_runs_of : FnS K mg "runs_of" s_runs_of
  f_said_of : FnS K mg "said_of" s_said_of
  f__law_mixed : FnS K mg "_law_mixed" s__law_mixed
  f__law_row : FnS K mg "_law_row" s__law_row
  f__law_is_int : FnS K mg "_law_is_int" s__law_is_int
  f__law_like : FnS K mg "_law_like" s__law_like
  f__law_after : FnS K mg "_law_after" s__law_after
  f__law_rests : FnS K mg "_law_rests" s__law_rests
  f__law_way_right : FnS K mg "_law_way_right" s__law_way_right
  f__law_plain : FnS K mg "_law_plain" s__law_plain
  f__law_repeated : FnS K mg "_law_repeated" s__law_repeated
  f__law_moved_right : FnS K mg "_law_moved_right" s__law_moved_right
  f__law_apart : FnS K mg "_law_apart" s__law_apart
  f__law_turn_right : FnS K mg "_law_turn_right" s__law_turn_right
  f_law : FnS K mg "law" s_law
-- flow_swaps: freeze row at line 10
def b_flow_swaps_1 : Ev → Option Out :=
  sApp 6 (e2 addD (eA minD (aCons (e2 ixD (eVar 5) (eVar 7)) (aCons (e2 ixD (eVar 5) (e2 subD (eVar 7) (eC (.int 1)))) aNil))) (eA absD (aCons (e2 subD (eVar 4) (eVar 8)) aNil)))
def b_flow_swaps_2 : Ev → Option Out :=
  sSeq (sSet 5 (xV (e2 ixD (bVar 3) (e1 negD (eC (.int 1)))))) <|
  sSeq (sSet 6 (xO (nLst (aCons (eVar 2) aNil)))) <|
  sSeq (sFor [7, 8] (nA enS (aCons (eVar 1) (aCons (eC (.int 1)) aNil))) (gLen 2 (gT (gsCons (gN 7) (gsCons (gN 8) gsNil)))) b_flow_swaps_1) <|
  sPre (fun env => frz env 6) (sApp 3 (eVar 6))
def den_flow_swaps : Ev → Option Out :=
  sSeq (sSet 2 (xV (e2 mulD (eA lenD (aCons (eVar 0) aNil)) (e2 addD (eA maxD (aCons (e2 addD (e2 addD (eVar 0) (eVar 1)) (eTup (aCons (eC (.int 0)) aNil))) aNil)) (eC (.int 1)))))) <|
  sSeq (sSet 3 (xO (nLst (aCons (e2 addD (eLst (nLst (aCons (eC (.int 0)) aNil))) (eLst (n2 repLD (eLst (nLst (aCons (eVar 2) aNil))) (eA lenD (aCons (eVar 1) aNil))))) aNil)))) <|
  sSeq (sFor [4, 5, 6, 7, 8] (iSeq (eVar 0)) (gN 4) b_flow_swaps_2) <|
  sRet (e2 ixD (e2 ixD (bVar 3) (e1 negD (eC (.int 1)))) (e1 negD (eC (.int 1))))
def F_flow_swaps : List D → Option D := runD 9 2 den_flow_swaps
theorem fa_flow_swaps (x0 x1 : D) : F_flow_swaps [x0, x1] = (den_flow_swaps [some (.v x0), some (.v x1), none, none, none, none, none, none, none]).bind outV := rfl
theorem ok_flow_swaps {P : Program} {w : World} {K : PySem.W.Frag} {mg : Str → Option Value} {base : Heap} (Df : Defs K mg) (T : Std mg) : FnG P w K mg base 1 "flow_swaps" ["first", "second"] F_flow_swaps :=
  fng (k := 0) Df.f_flow_swaps sc_flow_swaps (fun f fd F => F.bindsN fun _ _ _ _ _ _ us hl => match us, hl with | [_, _], _ => rfl) rfl fun f cdv A outer s0 H E hr => by
    have nd := sc_flow_swaps.nd
    refine vs_cons ?_ ?_
    refine vs_set 2 nd ?_
    refine PE.xv ?_
    refine vop o_mul ?_ ?_
    refine PE.toB ?_
    refine vcall (c_len) T.len bb_len ?_
    refine vab_cons ?_ ?_
    refine PE.toB (ve 0)
    refine vab_nil
    refine PE.toB ?_
    refine vop o_add ?_ ?_
    refine PE.toB ?_
    refine vcall (c_max rfl hr) T.max bb_max ?_
    refine vab_cons ?_ ?_
    refine PE.toB ?_
    refine vop o_add ?_ ?_
    refine PE.toB ?_
    refine vop o_add ?_ ?_
    refine PE.toB (ve 0)
    refine PE.toB (ve 1)
    refine PE.toB ?_
    refine vtup ?_
    refine va_cons ?_ ?_
    refine vc_int
    refine va_nil
    refine vab_nil
    refine PE.toB ?_
    refine vc_int
    refine vs_cons ?_ ?_
    refine vs_set 3 nd ?_
    refine PE.xo ?_
    refine vlst ?_
    refine va_cons ?_ ?_
    refine vop o_add ?_ ?_
    refine PE.nB ?_
    refine vlst ?_
    refine va_cons ?_ ?_
    refine vc_int
    refine va_nil
    refine PE.nB ?_
    refine vopN on_rep ?_ ?_
    refine PE.nB ?_
    refine vlst ?_
    refine va_cons ?_ ?_
    refine ve 2
    refine va_nil
    refine PE.toB ?_
    refine vcall (c_len) T.len bb_len ?_
    refine vab_cons ?_ ?_
    refine PE.toB (ve 1)
    refine vab_nil
    refine va_nil
    refine vs_cons ?_ ?_
    refine vs_for (ks := [4]) [4, 5, 6, 7, 8] PassesOwn.never rfl ?_ ?_ ?_
    refine vi_seq ?_
    refine ve 0
    refine vg 4 nd
    refine vs_cons ?_ ?_
    refine vs_set 5 nd ?_
    refine PE.xv ?_
    refine vix i_ix ?_ ?_
    refine vb 3
    refine PE.toB ?_
    refine vun o_neg ?_
    refine PE.toB ?_
    refine vc_int
    refine vs_cons ?_ ?_
    refine vs_set 6 nd ?_
    refine PE.xo ?_
    refine vlst ?_
    refine va_cons ?_ ?_
    refine ve 2
    refine va_nil
    refine vs_cons ?_ ?_
    refine vs_for (ks := [7, 8]) [7, 8] PassesOwn.never rfl ?_ ?_ ?_
    refine vi_enumS ?_ T.enumerate
    refine va_cons ?_ ?_
    refine ve 1
    refine va_cons ?_ ?_
    refine vc_int
    refine va_nil
    refine vgt (is := [7, 8]) rfl ?_
    refine vgs_cons (is := [7]) (js := [8]) ?_ ?_
    refine vg 7 nd
    refine vgs_cons (is := [8]) (js := []) ?_ ?_
    refine vg 8 nd
    refine vgs_nil
    refine vs_one ?_
    refine vs_app 6 ?_
    refine vop o_add ?_ ?_
    refine PE.toB ?_
    refine vcall (c_min rfl hr) T.min bb_min ?_
    refine vab_cons ?_ ?_
    refine PE.toB ?_
    refine vix i_ix ?_ ?_
    refine PE.toB (ve 5)
    refine PE.toB (ve 7)
    refine vab_cons ?_ ?_
    refine PE.toB ?_
    refine vix i_ix ?_ ?_
    refine PE.toB (ve 5)
    refine PE.toB ?_
    refine vop o_sub ?_ ?_
    refine PE.toB (ve 7)
    refine PE.toB ?_
    refine vc_int
    refine vab_nil
    refine PE.toB ?_
    refine vcall (c_abs) T.abs bb_abs ?_
    refine vab_cons ?_ ?_
    refine PE.toB ?_
    refine vop o_sub ?_ ?_
    refine PE.toB (ve 4)
    refine PE.toB (ve 8)
    refine vab_nil
    refine vs_one ?_
    refine vs_frz 6 ?_
    refine vs_app 3 ?_
    refine ve 6
    refine vs_one ?_
    refine vs_ret ?_
    refine vix i_ix ?_ ?_
    refine PE.toB ?_
    refine vix i_ix ?_ ?_
    refine vb 3
    refine PE.toB ?_
    refine vun o_neg ?_
    refine PE.toB ?_
    refine vc_int
    refine PE.toB ?_
    refine vun o_neg ?_
    refine PE.toB ?_
    refine vc_int
-- steps_table: freeze sums at line 19
def c_steps_table_1 : Ev → Option (List D) :=
  nLc [8] (iSeq (eTup (aCons (eTup (aCons (eVar 5) (aCons (e2 addD (eVar 6) (eC (.int 1))) aNil))) (aCons (eTup (aCons (e2 addD (eVar 5) (eC (.int 1))) (aCons (eVar 6) aNil))) (aCons (eTup (aCons (e2 addD (eVar 5) (eC (.int 1))) (aCons (e2 addD (eVar 6) (eC (.int 1))) aNil))) aNil))))) (gN 8) (t1 isB (eDin false (eVar 8) (dVar 4))) (eDg (dVar 4) (eVar 8))
def b_steps_table_1 : Ev → Option Out :=
  sSeq (sSet 7 (xN false c_steps_table_1)) <|
  sDp 4 (eTup (aCons (eVar 5) (aCons (eVar 6) aNil))) (e2 addD (eA absD (aCons (e2 subD (e2 ixD (eVar 0) (eVar 5)) (e2 ixD (eVar 1) (eVar 6))) aNil)) (eMm minDf (aCons (eVar 7) aNil) (eC (.int 0))))
def b_steps_table_2 : Ev → Option Out :=
  sFor [6, 7] (nA rg3 (aCons (e2 subD (eVar 3) (eC (.int 1))) (aCons (e1 negD (eC (.int 1))) (aCons (e1 negD (eC (.int 1))) aNil)))) (gN 6) b_steps_table_1
def den_steps_table : Ev → Option Out :=
  sSeq (sPar 2 3 (xV (eA lenD (aCons (eVar 0) aNil))) (xV (eA lenD (aCons (eVar 1) aNil)))) <|
  sSeq (sSet 4 (xD true)) <|
  sSeq (sFor [5, 6, 7] (nA rg3 (aCons (e2 subD (eVar 2) (eC (.int 1))) (aCons (e1 negD (eC (.int 1))) (aCons (e1 negD (eC (.int 1))) aNil)))) (gN 5) b_steps_table_2) <|
  sPre (fun env => frzD env 4) (sRet (eVar 4))
def F_steps_table : List D → Option D := runD 9 2 den_steps_table
theorem fa_steps_table (x0 x1 : D) : F_steps_table [x0, x1] = (den_steps_table [some (.v x0), some (.v x1), none, none, none, none, none, none, none]).bind outV := rfl
theorem ok_steps_table {P : Program} {w : World} {K : PySem.W.Frag} {mg : Str → Option Value} {base : Heap} (Df : Defs K mg) (T : Std mg) : FnG P w K mg base 1 "steps_table" ["first", "second"] F_steps_table :=
  fng (k := 0) Df.f_steps_table sc_steps_table (fun f fd F => F.bindsN fun _ _ _ _ _ _ us hl => match us, hl with | [_, _], _ => rfl) rfl fun f cdv A outer s0 H E hr => by
    have nd := sc_steps_table.nd
    refine vs_cons ?_ ?_
    refine vs_par 2 3 rfl nd ?_ ?_
    refine PE.xv ?_
    refine vcall (c_len) T.len bb_len ?_
    refine vab_cons ?_ ?_
    refine PE.toB (ve 0)
    refine vab_nil
    refine PE.xv ?_
    refine vcall (c_len) T.len bb_len ?_
    refine vab_cons ?_ ?_
    refine PE.toB (ve 1)
    refine vab_nil
    refine vs_cons ?_ ?_
    refine vs_set 4 nd ?_
    refine vx_dnew true
    refine vs_cons ?_ ?_
    refine vs_for (ks := [5]) [5, 6, 7] PassesOwn.never rfl ?_ ?_ ?_
    refine vi_rg3 ?_ T.range
    refine vab_cons ?_ ?_
    refine PE.toB ?_
    refine vop o_sub ?_ ?_
    refine PE.toB (ve 2)
    refine PE.toB ?_
    refine vc_int
    refine vab_cons ?_ ?_
    refine PE.toB ?_
    refine vun o_neg ?_
    refine PE.toB ?_
    refine vc_int
    refine vab_cons ?_ ?_
    refine PE.toB ?_
    refine vun o_neg ?_
    refine PE.toB ?_
    refine vc_int
    refine vab_nil
    refine vg 5 nd
    refine vs_one ?_
    refine vs_for (ks := [6]) [6, 7] PassesOwn.never rfl ?_ ?_ ?_
    refine vi_rg3 ?_ T.range
    refine vab_cons ?_ ?_
    refine PE.toB ?_
    refine vop o_sub ?_ ?_
    refine PE.toB (ve 3)
    refine PE.toB ?_
    refine vc_int
    refine vab_cons ?_ ?_
    refine PE.toB ?_
    refine vun o_neg ?_
    refine PE.toB ?_
    refine vc_int
    refine vab_cons ?_ ?_
    refine PE.toB ?_
    refine vun o_neg ?_
    refine PE.toB ?_
    refine vc_int
    refine vab_nil
    refine vg 6 nd
    refine vs_cons ?_ ?_
    refine vs_setLc (is := [8]) [("place", 8)] [8] 7 false rfl nd ?_ ?_ ?_ ?_ ?_
    refine vi_seq ?_
    refine vtup ?_
    refine va_cons ?_ ?_
    refine vtup ?_
    refine va_cons ?_ ?_
    refine ve 5
    refine va_cons ?_ ?_
    refine vop o_add ?_ ?_
    refine PE.toB (ve 6)
    refine PE.toB ?_
    refine vc_int
    refine va_nil
    refine va_cons ?_ ?_
    refine vtup ?_
    refine va_cons ?_ ?_
    refine vop o_add ?_ ?_
    refine PE.toB (ve 5)
    refine PE.toB ?_
    refine vc_int
    refine va_cons ?_ ?_
    refine ve 6
    refine va_nil
    refine va_cons ?_ ?_
    refine vtup ?_
    refine va_cons ?_ ?_
    refine vop o_add ?_ ?_
    refine PE.toB (ve 5)
    refine PE.toB ?_
    refine vc_int
    refine va_cons ?_ ?_
    refine vop o_add ?_ ?_
    refine PE.toB (ve 6)
    refine PE.toB ?_
    refine vc_int
    refine va_nil
    refine va_nil
    refine blkOk_by (by kernel_rfl)
    intro _ _ _ _ _
    refine vg 8 nd
    intro _ _ _ _ _
    refine vts_one ?_
    refine vdinT hr ?_ ?_
    refine ve 8
    refine vd 4
    intro _ _ _ _ _
    refine vdget hr ?_ ?_ (fun _ _ => rfl)
    refine vd 4
    refine ve 8
    refine vs_one ?_
    refine vs_dput 4 hr ?_ ?_
    refine vtup ?_
    refine va_cons ?_ ?_
    refine ve 5
    refine va_cons ?_ ?_
    refine ve 6
    refine va_nil
    refine vop o_add ?_ ?_
    refine PE.toB ?_
    refine vcall (c_abs) T.abs bb_abs ?_
    refine vab_cons ?_ ?_
    refine PE.toB ?_
    refine vop o_sub ?_ ?_
    refine PE.toB ?_
    refine vix i_ix ?_ ?_
    refine PE.toB (ve 0)
    refine PE.toB (ve 5)
    refine PE.toB ?_
    refine vix i_ix ?_ ?_
    refine PE.toB (ve 1)
    refine PE.toB (ve 6)
    refine vab_nil
    refine PE.toB ?_
    refine vmm (ck_min rfl hr) T.min bb_min ?_ ?_
    refine vab_cons ?_ ?_
    refine PE.toB (ve 7)
    refine vab_nil
    refine vc_int
    refine vs_one ?_
    refine vs_frzD 4 ?_
    refine vs_ret ?_
    refine ve 4
def den_aligned : Ev → Option Out :=
  sRet (eIf (tAn (t1 truD (eVar 0)) (t1 truD (eVar 1))) (eDg (dE (eA F_steps_table (aCons (eVar 0) (aCons (eVar 1) aNil)))) (eTup (aCons (eC (.int 0)) (aCons (eC (.int 0)) aNil)))) (eC (.int 0)))
def F_aligned : List D → Option D := runD 2 2 den_aligned
theorem fa_aligned (x0 x1 : D) : F_aligned [x0, x1] = (den_aligned [some (.v x0), some (.v x1)]).bind outV := rfl
theorem ok_aligned {P : Program} {w : World} {K : PySem.W.Frag} {mg : Str → Option Value} {base : Heap} (Df : Defs K mg) (T : Std mg) : FnG P w K mg base 2 "aligned" ["first", "second"] F_aligned :=
  fng (k := 1) Df.f_aligned sc_aligned (fun f fd F => F.bindsN fun _ _ _ _ _ _ us hl => match us, hl with | [_, _], _ => rfl) rfl fun f cdv A outer s0 H E hr => by
    have nd := sc_aligned.nd
    refine vs_one ?_
    refine vs_ret ?_
    refine ve_if ?_ ?_ ?_
    refine PW.pt ?_
    refine vw_and ?_ ?_
    refine vtru ?_
    refine PE.toB (ve 0)
    refine vw_and1 ?_
    refine vtru ?_
    refine PE.toB (ve 1)
    refine vdget hr ?_ ?_ (fun _ _ => rfl)
    refine vdE ?_
    refine vcl (ok_steps_table Df T) hr ?_
    refine va_cons ?_ ?_
    refine ve 0
    refine va_cons ?_ ?_
    refine ve 1
    refine va_nil
    refine vtup ?_
    refine va_cons ?_ ?_
    refine vc_int
    refine va_cons ?_ ?_
    refine vc_int
    refine va_nil
    refine vc_int
def c_aligned_way_1 : Ev → Option (List D) :=
  nLc [8] (iSeq (eTup (aCons (eTup (aCons (eVar 6) (aCons (e2 addD (eVar 7) (eC (.int 1))) aNil))) (aCons (eTup (aCons (e2 addD (eVar 6) (eC (.int 1))) (aCons (eVar 7) aNil))) (aCons (eTup (aCons (e2 addD (eVar 6) (eC (.int 1))) (aCons (e2 addD (eVar 7) (eC (.int 1))) aNil))) aNil))))) (gN 8) (t1 isB (e2 eqD (eDg1 (dVar 2) (eVar 8)) (eVar 4))) (eVar 8)
def b_aligned_way_1 : Ev → Option Out :=
  sSeq (sAsg (gLen 2 (gT (gsCons (gN 6) (gsCons (gN 7) gsNil)))) (e2 ixD (eVar 3) (e1 negD (eC (.int 1))))) <|
  sSeq (sSet 4 (xV (e2 subD (eDg (dVar 2) (eTup (aCons (eVar 6) (aCons (eVar 7) aNil)))) (eA absD (aCons (e2 subD (e2 ixD (eVar 0) (eVar 6)) (e2 ixD (eVar 1) (eVar 7))) aNil))))) <|
  sSeq (sSet 5 (xN false c_aligned_way_1)) <|
  sSet 3 (xV (e2 addD (eVar 3) (eTup (aCons (e2 ixD (eVar 5) (eC (.int 0))) aNil))))
def t_aligned_way_1 : Ev → Option Bool :=
  t1 isB (e2 neD (e2 ixD (eVar 3) (e1 negD (eC (.int 1)))) (eTup (aCons (e2 subD (eA lenD (aCons (eVar 0) aNil)) (eC (.int 1))) (aCons (e2 subD (eA lenD (aCons (eVar 1) aNil)) (eC (.int 1))) aNil))))
def den_aligned_way : Ev → Option Out :=
  sSeq (sIf (tOr' (tNo (t1 truD (eVar 0))) (tNo (t1 truD (eVar 1)))) (sRet (eTup aNil)) sNil) <|
  sSeq (sSet 2 (xV (eA F_steps_table (aCons (eVar 0) (aCons (eVar 1) aNil))))) <|
  sSeq (sSet 3 (xV (eTup (aCons (eTup (aCons (eC (.int 0)) (aCons (eC (.int 0)) aNil))) aNil)))) <|
  sSeq (sWhile 1000000 [4, 5, 6, 7] t_aligned_way_1 b_aligned_way_1) <|
  sRet (eVar 3)
def F_aligned_way : List D → Option D := runD 9 2 den_aligned_way
theorem fa_aligned_way (x0 x1 : D) : F_aligned_way [x0, x1] = (den_aligned_way [some (.v x0), some (.v x1), none, none, none, none, none, none, none]).bind outV := rfl
theorem ok_aligned_way {P : Program} {w : World} {K : PySem.W.Frag} {mg : Str → Option Value} {base : Heap} (Df : Defs K mg) (T : Std mg) : FnG P w K mg base 2 "aligned_way" ["first", "second"] F_aligned_way :=
  fng (k := 1) Df.f_aligned_way sc_aligned_way (fun f fd F => F.bindsN fun _ _ _ _ _ _ us hl => match us, hl with | [_, _], _ => rfl) rfl fun f cdv A outer s0 H E hr => by
    have nd := sc_aligned_way.nd
    refine vs_cons ?_ ?_
    refine vs_if ?_ ?_ ?_
    refine PW.pt ?_
    refine vw_or ?_ ?_
    refine vt_not ?_
    refine vtru ?_
    refine PE.toB (ve 0)
    refine vw_or1 ?_
    refine vt_not ?_
    refine vtru ?_
    refine PE.toB (ve 1)
    refine vs_one ?_
    refine vs_ret ?_
    refine vtup ?_
    refine va_nil
    refine vs_nil
    refine vs_cons ?_ ?_
    refine vs_set 2 nd ?_
    refine PE.xv ?_
    refine vcl (ok_steps_table Df T) hr ?_
    refine va_cons ?_ ?_
    refine ve 0
    refine va_cons ?_ ?_
    refine ve 1
    refine va_nil
    refine vs_cons ?_ ?_
    refine vs_set 3 nd ?_
    refine PE.xv ?_
    refine vtup ?_
    refine va_cons ?_ ?_
    refine vtup ?_
    refine va_cons ?_ ?_
    refine vc_int
    refine va_cons ?_ ?_
    refine vc_int
    refine va_nil
    refine va_nil
    refine vs_cons ?_ ?_
    refine vs_while 1000000 [4, 5, 6, 7] PassesOwn.never ?_ ?_
    refine vcmpT (o_ne hr) ?_ ?_
    refine PE.toB ?_
    refine vix i_ix ?_ ?_
    refine PE.toB (ve 3)
    refine PE.toB ?_
    refine vun o_neg ?_
    refine PE.toB ?_
    refine vc_int
    refine PE.toB ?_
    refine vtup ?_
    refine va_cons ?_ ?_
    refine vop o_sub ?_ ?_
    refine PE.toB ?_
    refine vcall (c_len) T.len bb_len ?_
    refine vab_cons ?_ ?_
    refine PE.toB (ve 0)
    refine vab_nil
    refine PE.toB ?_
    refine vc_int
    refine va_cons ?_ ?_
    refine vop o_sub ?_ ?_
    refine PE.toB ?_
    refine vcall (c_len) T.len bb_len ?_
    refine vab_cons ?_ ?_
    refine PE.toB (ve 1)
    refine vab_nil
    refine PE.toB ?_
    refine vc_int
    refine va_nil
    refine vs_cons ?_ ?_
    refine vs_asg (is := [6, 7]) ?_ ?_
    refine vix i_ix ?_ ?_
    refine PE.toB (ve 3)
    refine PE.toB ?_
    refine vun o_neg ?_
    refine PE.toB ?_
    refine vc_int
    refine vgt (is := [6, 7]) rfl ?_
    refine vgs_cons (is := [6]) (js := [7]) ?_ ?_
    refine vg 6 nd
    refine vgs_cons (is := [7]) (js := []) ?_ ?_
    refine vg 7 nd
    refine vgs_nil
    refine vs_cons ?_ ?_
    refine vs_set 4 nd ?_
    refine PE.xv ?_
    refine vop o_sub ?_ ?_
    refine PE.toB ?_
    refine vdget hr ?_ ?_ (fun _ _ => rfl)
    refine vd 2
    refine vtup ?_
    refine va_cons ?_ ?_
    refine ve 6
    refine va_cons ?_ ?_
    refine ve 7
    refine va_nil
    refine PE.toB ?_
    refine vcall (c_abs) T.abs bb_abs ?_
    refine vab_cons ?_ ?_
    refine PE.toB ?_
    refine vop o_sub ?_ ?_
    refine PE.toB ?_
    refine vix i_ix ?_ ?_
    refine PE.toB (ve 0)
    refine PE.toB (ve 6)
    refine PE.toB ?_
    refine vix i_ix ?_ ?_
    refine PE.toB (ve 1)
    refine PE.toB (ve 7)
    refine vab_nil
    refine vs_cons ?_ ?_
    refine vs_setLc (is := [8]) [("place", 8)] [8] 5 false rfl nd ?_ ?_ ?_ ?_ ?_
    refine vi_seq ?_
    refine vtup ?_
    refine va_cons ?_ ?_
    refine vtup ?_
    refine va_cons ?_ ?_
    refine ve 6
    refine va_cons ?_ ?_
    refine vop o_add ?_ ?_
    refine PE.toB (ve 7)
    refine PE.toB ?_
    refine vc_int
    refine va_nil
    refine va_cons ?_ ?_
    refine vtup ?_
    refine va_cons ?_ ?_
    refine vop o_add ?_ ?_
    refine PE.toB (ve 6)
    refine PE.toB ?_
    refine vc_int
    refine va_cons ?_ ?_
    refine ve 7
    refine va_nil
    refine va_cons ?_ ?_
    refine vtup ?_
    refine va_cons ?_ ?_
    refine vop o_add ?_ ?_
    refine PE.toB (ve 6)
    refine PE.toB ?_
    refine vc_int
    refine va_cons ?_ ?_
    refine vop o_add ?_ ?_
    refine PE.toB (ve 7)
    refine PE.toB ?_
    refine vc_int
    refine va_nil
    refine va_nil
    refine blkOk_by (by kernel_rfl)
    intro _ _ _ _ _
    refine vg 8 nd
    intro _ _ _ _ _
    refine vts_one ?_
    refine vcmpT (o_eq hr) ?_ ?_
    refine PE.toB ?_
    refine vdget1 hr ?_ ?_ ⟨rfl, rfl, rfl, rfl⟩
    refine vd 2
    refine ve 8
    refine PE.toB (ve 4)
    intro _ _ _ _ _
    refine ve 8
    refine vs_one ?_
    refine vs_set 3 nd ?_
    refine PE.xv ?_
    refine vop o_add ?_ ?_
    refine PE.toB (ve 3)
    refine PE.toB ?_
    refine vtup ?_
    refine va_cons ?_ ?_
    refine vix i_ix ?_ ?_
    refine PE.toB (ve 5)
    refine PE.toB ?_
    refine vc_int
    refine va_nil
    refine vs_one ?_
    refine vs_ret ?_
    refine ve 3
def c_closest_turn_1 : Ev → Option (List D) :=
  nLc [6, 7] (nA zipD (aCons (eVar 0) (aCons (eVar 5) aNil))) (gLen 2 (gT (gsCons (gN 6) (gsCons (gN 7) gsNil)))) tTrue (eA absD (aCons (e2 subD (eVar 6) (eVar 7)) aNil))
def b_closest_turn_1 : Ev → Option Out :=
  sSeq (sSet 5 (xV (e2 addD (eSl slD (eVar 1) (pI (eVar 4)) pN) (eSl slD (eVar 1) pN (pI (eVar 4)))))) <|
  sApp 3 (eTup (aCons (eA sumD (aCons (eLst c_closest_turn_1) aNil)) (aCons (eVar 4) aNil)))
def den_closest_turn : Ev → Option Out :=
  sSeq (sSet 2 (xV (eA lenD (aCons (eVar 1) aNil)))) <|
  sSeq (sSet 3 (xO (nLst aNil))) <|
  sSeq (sFor [4, 5] (nA rg1 (aCons (eA maxD (aCons (eVar 2) (aCons (eC (.int 1)) aNil))) aNil)) (gN 4) b_closest_turn_1) <|
  sRet (eA minD (aCons (bVar 3) aNil))
def F_closest_turn : List D → Option D := runD 8 2 den_closest_turn
theorem fa_closest_turn (x0 x1 : D) : F_closest_turn [x0, x1] = (den_closest_turn [some (.v x0), some (.v x1), none, none, none, none, none, none]).bind outV := rfl
theorem ok_closest_turn {P : Program} {w : World} {K : PySem.W.Frag} {mg : Str → Option Value} {base : Heap} (Df : Defs K mg) (T : Std mg) : FnG P w K mg base 1 "closest_turn" ["first", "second"] F_closest_turn :=
  fng (k := 0) Df.f_closest_turn sc_closest_turn (fun f fd F => F.bindsN fun _ _ _ _ _ _ us hl => match us, hl with | [_, _], _ => rfl) rfl fun f cdv A outer s0 H E hr => by
    have nd := sc_closest_turn.nd
    refine vs_cons ?_ ?_
    refine vs_set 2 nd ?_
    refine PE.xv ?_
    refine vcall (c_len) T.len bb_len ?_
    refine vab_cons ?_ ?_
    refine PE.toB (ve 1)
    refine vab_nil
    refine vs_cons ?_ ?_
    refine vs_set 3 nd ?_
    refine PE.xo ?_
    refine vlst ?_
    refine va_nil
    refine vs_cons ?_ ?_
    refine vs_for (ks := [4]) [4, 5] PassesOwn.never rfl ?_ ?_ ?_
    refine vi_rg1 ?_ T.range
    refine vab_cons ?_ ?_
    refine PE.toB ?_
    refine vcall (c_max rfl hr) T.max bb_max ?_
    refine vab_cons ?_ ?_
    refine PE.toB (ve 2)
    refine vab_cons ?_ ?_
    refine PE.toB ?_
    refine vc_int
    refine vab_nil
    refine vab_nil
    refine vg 4 nd
    refine vs_cons ?_ ?_
    refine vs_set 5 nd ?_
    refine PE.xv ?_
    refine vop o_add ?_ ?_
    refine PE.toB ?_
    refine vslice s_sl ?_ ?_ ?_
    refine PE.toB (ve 1)
    refine vp_some ?_
    refine ve 4
    refine vp_none
    refine PE.toB ?_
    refine vslice s_sl ?_ ?_ ?_
    refine PE.toB (ve 1)
    refine vp_none
    refine vp_some ?_
    refine ve 4
    refine vs_one ?_
    refine vs_app 3 ?_
    refine vtup ?_
    refine va_cons ?_ ?_
    refine vcall (c_sum rfl) T.sum bb_sum ?_
    refine vab_cons ?_ ?_
    refine PE.nB ?_
    refine vlc (is := [6, 7]) [("one", 6), ("other", 7)] [6, 7] rfl nd ?_ ?_ ?_ ?_ ?_
    refine vi_zip ?_ T.zip
    refine va_cons ?_ ?_
    refine ve 0
    refine va_cons ?_ ?_
    refine ve 5
    refine va_nil
    refine blkOk_by (by kernel_rfl)
    intro _ _ _ _ _
    refine vgt (is := [6, 7]) rfl ?_
    refine vgs_cons (is := [6]) (js := [7]) ?_ ?_
    refine vg 6 nd
    refine vgs_cons (is := [7]) (js := []) ?_ ?_
    refine vg 7 nd
    refine vgs_nil
    intro _ _ _ _ _
    refine vts_nil
    intro _ _ _ _ _
    refine vcall (c_abs) T.abs bb_abs ?_
    refine vab_cons ?_ ?_
    refine PE.toB ?_
    refine vop o_sub ?_ ?_
    refine PE.toB (ve 6)
    refine PE.toB (ve 7)
    refine vab_nil
    refine vab_nil
    refine va_cons ?_ ?_
    refine ve 4
    refine va_nil
    refine vs_one ?_
    refine vs_ret ?_
    refine vcall (c_min rfl hr) T.min bb_min ?_
    refine vab_cons ?_ ?_
    refine vb 3
    refine vab_nil
-- runs_of: freeze found at line 48
def b_runs_of_1 : Ev → Option Out :=
  sIf (tAn (t1 truD (bVar 1)) (t1 isB (e2 eqD (e2 ixD (e2 ixD (bVar 1) (e1 negD (eC (.int 1)))) (eC (.int 1))) (eVar 2)))) (sAsg (setIx 1 (e1 negD (eC (.int 1)))) (eTup (aCons (e2 addD (e2 ixD (e2 ixD (bVar 1) (e1 negD (eC (.int 1)))) (eC (.int 0))) (eC (.int 1))) (aCons (eVar 2) aNil)))) (sApp 1 (eTup (aCons (eC (.int 1)) (aCons (eVar 2) aNil))))
def den_runs_of : Ev → Option Out :=
  sSeq (sSet 1 (xO (nLst aNil))) <|
  sSeq (sFor [2] (iSeq (eVar 0)) (gN 2) b_runs_of_1) <|
  sPre (fun env => frz env 1) (sRet (eVar 1))
def F_runs_of : List D → Option D := runD 3 1 den_runs_of
theorem fa_runs_of (x0 : D) : F_runs_of [x0] = (den_runs_of [some (.v x0), none, none]).bind outV := rfl
theorem ok_runs_of {P : Program} {w : World} {K : PySem.W.Frag} {mg : Str → Option Value} {base : Heap} (Df : Defs K mg) (T : Std mg) : FnG P w K mg base 1 "runs_of" ["word"] F_runs_of :=
  fng (k := 0) Df.f_runs_of sc_runs_of (fun f fd F => F.bindsN fun _ _ _ _ _ _ us hl => match us, hl with | [_], _ => rfl) rfl fun f cdv A outer s0 H E hr => by
    have nd := sc_runs_of.nd
    refine vs_cons ?_ ?_
    refine vs_set 1 nd ?_
    refine PE.xo ?_
    refine vlst ?_
    refine va_nil
    refine vs_cons ?_ ?_
    refine vs_for (ks := [2]) [2] PassesOwn.never rfl ?_ ?_ ?_
    refine vi_seq ?_
    refine ve 0
    refine vg 2 nd
    refine vs_one ?_
    refine vs_if ?_ ?_ ?_
    refine PW.pt ?_
    refine vw_and ?_ ?_
    refine vtru ?_
    refine vb 1
    refine vw_and1 ?_
    refine vcmpT (o_eq hr) ?_ ?_
    refine PE.toB ?_
    refine vix i_ix ?_ ?_
    refine PE.toB ?_
    refine vix i_ix ?_ ?_
    refine vb 1
    refine PE.toB ?_
    refine vun o_neg ?_
    refine PE.toB ?_
    refine vc_int
    refine PE.toB ?_
    refine vc_int
    refine PE.toB (ve 2)
    refine vs_one ?_
    refine vs_setIx ?_ ?_
    refine vtup ?_
    refine va_cons ?_ ?_
    refine vop o_add ?_ ?_
    refine PE.toB ?_
    refine vix i_ix ?_ ?_
    refine PE.toB ?_
    refine vix i_ix ?_ ?_
    refine vb 1
    refine PE.toB ?_
    refine vun o_neg ?_
    refine PE.toB ?_
    refine vc_int
    refine PE.toB ?_
    refine vc_int
    refine PE.toB ?_
    refine vc_int
    refine va_cons ?_ ?_
    refine ve 2
    refine va_nil
    refine vg_ix 1 ?_
    refine vun o_neg ?_
    refine PE.toB ?_
    refine vc_int
    refine vs_one ?_
    refine vs_app 1 ?_
    refine vtup ?_
    refine va_cons ?_ ?_
    refine vc_int
    refine va_cons ?_ ?_
    refine ve 2
    refine va_nil
    refine vs_one ?_
    refine vs_frz 1 ?_
    refine vs_ret ?_
    refine ve 1
def c_said_of_1 : Ev → Option (List D) :=
  nLc2 [2, 1] (iSeq (eA F_runs_of (aCons (eVar 0) aNil))) (gN 2) tTrue (iSeq (eVar 2)) [1] (gN 1) tTrue (eVar 1)
def den_said_of : Ev → Option Out :=
  sRet (eA tupOfD (aCons (eLst c_said_of_1) aNil))
def F_said_of : List D → Option D := runD 3 1 den_said_of
theorem fa_said_of (x0 : D) : F_said_of [x0] = (den_said_of [some (.v x0), none, none]).bind outV := rfl
theorem ok_said_of {P : Program} {w : World} {K : PySem.W.Frag} {mg : Str → Option Value} {base : Heap} (Df : Defs K mg) (T : Std mg) : FnG P w K mg base 2 "said_of" ["word"] F_said_of :=
  fng (k := 1) Df.f_said_of sc_said_of (fun f fd F => F.bindsN fun _ _ _ _ _ _ us hl => match us, hl with | [_], _ => rfl) rfl fun f cdv A outer s0 H E hr => by
    have nd := sc_said_of.nd
    refine vs_one ?_
    refine vs_ret ?_
    refine vty c_tup T.tuple bb_tuple ?_
    refine vab_cons ?_ ?_
    refine PE.nB ?_
    refine vlc2 (is := [2]) (is1 := [1]) [("run", 2), ("number", 1)] [2, 1] [1] rfl nd ?_ ?_ ?_ ?_ ?_ ?_ ?_ ?_
    refine vi_seq ?_
    refine vcl (ok_runs_of Df T) hr ?_
    refine va_cons ?_ ?_
    refine ve 0
    refine va_nil
    refine blkOk_by (by kernel_rfl)
    intro _ _ _ _ _
    refine vg 2 nd
    intro _ _ _ _ _
    refine vts_nil
    intro _ _ _ _ _
    refine vi_seq ?_
    refine ve 2
    intro _ _ _ _ _
    refine vg 1 nd
    intro _ _ _ _ _
    refine vts_nil
    intro _ _ _ _ _
    refine ve 1
    refine vab_nil
theorem ok__law_mixed {P : Program} {w : World} {K : PySem.W.Frag} {mg : Str → Option Value} {base : Heap} (Df : Defs K mg) (T : Std mg) : FnG P w K mg base 1 "_law_mixed" ["script", "k"] F__law_mixed :=
  fng (k := 0) Df.f__law_mixed sc__law_mixed (fun f fd F => F.bindsN fun _ _ _ _ _ _ us hl => match us, hl with | [_, _], _ => rfl) rfl fun f cdv A outer s0 H E hr => by
    have nd := sc__law_mixed.nd
    refine vs_cons ?_ ?_
    refine vs_set 2 nd ?_
    refine PE.xv ?_
    refine vc_int
    refine vs_cons ?_ ?_
    refine vs_if ?_ ?_ ?_
    refine vcmpT (o_gt hr) ?_ ?_
    refine PE.toB ?_
    refine vcall (c_len) T.len bb_len ?_
    refine vab_cons ?_ ?_
    refine PE.toB (ve 0)
    refine vab_nil
    refine PE.toB ?_
    refine vc_int
    refine vs_one ?_
    refine vs_set 2 nd ?_
    refine PE.xv ?_
    refine vix i_ix ?_ ?_
    refine PE.toB (ve 0)
    refine PE.toB ?_
    refine vop o_mod ?_ ?_
    refine PE.toB (ve 1)
    refine PE.toB ?_
    refine vcall (c_len) T.len bb_len ?_
    refine vab_cons ?_ ?_
    refine PE.toB (ve 0)
    refine vab_nil
    refine vs_nil
    refine vs_cons ?_ ?_
    refine vs_set 3 nd ?_
    refine PE.xv ?_
    refine vop o_mod ?_ ?_
    refine PE.toB ?_
    refine vty c_int T.int bb_int ?_
    refine vab_cons ?_ ?_
    refine PE.toB ?_
    refine vop o_add ?_ ?_
    refine PE.toB ?_
    refine vop o_add ?_ ?_
    refine PE.toB ?_
    refine vop o_mul ?_ ?_
    refine PE.toB (ve 2)
    refine PE.toB ?_
    refine vc_int
    refine PE.toB ?_
    refine vop o_mul ?_ ?_
    refine PE.toB (ve 1)
    refine PE.toB ?_
    refine vc_int
    refine PE.toB ?_
    refine vc_int
    refine vab_nil
    refine PE.toB ?_
    refine vc_int
    refine vs_cons ?_ ?_
    refine vs_set 4 nd ?_
    refine PE.xv ?_
    refine vop o_mod ?_ ?_
    refine PE.toB ?_
    refine vty c_int T.int bb_int ?_
    refine vab_cons ?_ ?_
    refine PE.toB ?_
    refine vop o_add ?_ ?_
    refine PE.toB ?_
    refine vop o_add ?_ ?_
    refine PE.toB ?_
    refine vop o_mul ?_ ?_
    refine PE.toB (ve 3)
    refine PE.toB (ve 3)
    refine PE.toB ?_
    refine vop o_fdiv ?_ ?_
    refine PE.toB (ve 3)
    refine PE.toB ?_
    refine vc_int
    refine PE.toB ?_
    refine vop o_mul ?_ ?_
    refine PE.toB (ve 1)
    refine PE.toB ?_
    refine vc_int
    refine vab_nil
    refine PE.toB ?_
    refine vc_int
    refine vs_cons ?_ ?_
    refine vs_set 5 nd ?_
    refine PE.xv ?_
    refine vop o_mod ?_ ?_
    refine PE.toB ?_
    refine vty c_int T.int bb_int ?_
    refine vab_cons ?_ ?_
    refine PE.toB ?_
    refine vop o_add ?_ ?_
    refine PE.toB ?_
    refine vop o_add ?_ ?_
    refine PE.toB ?_
    refine vop o_mul ?_ ?_
    refine PE.toB (ve 4)
    refine PE.toB (ve 4)
    refine PE.toB ?_
    refine vop o_fdiv ?_ ?_
    refine PE.toB (ve 4)
    refine PE.toB ?_
    refine vc_int
    refine PE.toB ?_
    refine vc_int
    refine vab_nil
    refine PE.toB ?_
    refine vc_int
    refine vs_one ?_
    refine vs_ret ?_
    refine vop o_mod ?_ ?_
    refine PE.toB ?_
    refine vop o_fdiv ?_ ?_
    refine PE.toB (ve 5)
    refine PE.toB ?_
    refine vc_int
    refine PE.toB ?_
    refine vc_int
-- _law_row: freeze row at line 71
theorem ok__law_row {P : Program} {w : World} {K : PySem.W.Frag} {mg : Str → Option Value} {base : Heap} (Df : Defs K mg) (T : Std mg) : FnG P w K mg base 2 "_law_row" ["script", "many"] F__law_row :=
  fng (k := 1) Df.f__law_row sc__law_row (fun f fd F => F.bindsN fun _ _ _ _ _ _ us hl => match us, hl with | [_, _], _ => rfl) rfl fun f cdv A outer s0 H E hr => by
    have nd := sc__law_row.nd
    refine vs_cons ?_ ?_
    refine vs_set 2 nd ?_
    refine PE.xv ?_
    refine vc_int
    refine vs_cons ?_ ?_
    refine vs_if ?_ ?_ ?_
    refine PW.pt ?_
    refine vw_and ?_ ?_
    refine vcmpT (o_gt hr) ?_ ?_
    refine PE.toB ?_
    refine vcall (c_len) T.len bb_len ?_
    refine vab_cons ?_ ?_
    refine PE.toB (ve 0)
    refine vab_nil
    refine PE.toB ?_
    refine vc_int
    refine vw_and1 ?_
    refine vcmpT (o_ge hr) ?_ ?_
    refine PE.toB ?_
    refine vix i_ix ?_ ?_
    refine PE.toB (ve 0)
    refine PE.toB ?_
    refine vc_int
    refine PE.toB ?_
    refine vop o_pow ?_ ?_
    refine PE.toB ?_
    refine vc_int
    refine PE.toB ?_
    refine vc_int
    refine vs_one ?_
    refine vs_set 2 nd ?_
    refine PE.xv ?_
    refine vix i_ix ?_ ?_
    refine PE.toB (ve 0)
    refine PE.toB ?_
    refine vc_int
    refine vs_nil
    refine vs_cons ?_ ?_
    refine vs_set 3 nd ?_
    refine PE.xo ?_
    refine vlst ?_
    refine va_nil
    refine vs_cons ?_ ?_
    refine vs_for (ks := [4]) [4] PassesOwn.never rfl ?_ ?_ ?_
    refine vi_rg1 ?_ T.range
    refine vab_cons ?_ ?_
    refine PE.toB (ve 1)
    refine vab_nil
    refine vg 4 nd
    refine vs_one ?_
    refine vs_if ?_ ?_ ?_
    refine vcmpT (o_gt hr) ?_ ?_
    refine PE.toB (ve 2)
    refine PE.toB ?_
    refine vc_int
    refine vs_cons ?_ ?_
    refine vs_app 3 ?_
    refine vop o_mod ?_ ?_
    refine PE.toB ?_
    refine vty c_int T.int bb_int ?_
    refine vab_cons ?_ ?_
    refine PE.toB (ve 2)
    refine vab_nil
    refine PE.toB ?_
    refine vc_int
    refine vs_one ?_
    refine vs_set 2 nd ?_
    refine PE.xv ?_
    refine vop o_fdiv ?_ ?_
    refine PE.toB (ve 2)
    refine PE.toB ?_
    refine vc_int
    refine vs_one ?_
    refine vs_app 3 ?_
    refine vcl (ok__law_mixed Df T) hr ?_
    refine va_cons ?_ ?_
    refine ve 0
    refine va_cons ?_ ?_
    refine ve 4
    refine va_nil
    refine vs_one ?_
    refine vs_frz 3 ?_
    refine vs_ret ?_
    refine ve 3
theorem ok__law_is_int {P : Program} {w : World} {K : PySem.W.Frag} {mg : Str → Option Value} {base : Heap} (Df : Defs K mg) (T : Std mg) : FnG P w K mg base 1 "_law_is_int" ["value"] F__law_is_int :=
  fng (k := 0) Df.f__law_is_int sc__law_is_int (fun f fd F => F.bindsN fun _ _ _ _ _ _ us hl => match us, hl with | [_], _ => rfl) rfl fun f cdv A outer s0 H E hr => by
    have nd := sc__law_is_int.nd
    refine vs_one ?_
    refine vs_ret ?_
    refine ve_and ?_ ?_
    refine vis ?_ T.isinstance T.«int» bb_int
    refine PE.toB (ve 0)
    refine ve_one ?_
    refine ve_not ?_
    refine PE.toB ?_
    refine vis ?_ T.isinstance T.«bool» bb_bool
    refine PE.toB (ve 0)
theorem ok__law_like {P : Program} {w : World} {K : PySem.W.Frag} {mg : Str → Option Value} {base : Heap} (Df : Defs K mg) (T : Std mg) : ∀ n, FnG P w K mg base (1 + 1 + n) "_law_like" ["value", "due"] (F__law_like n)
  | 0 => fng_none Df.f__law_like (fun f fd F => F.bindsN fun _ _ _ _ _ _ us hl => match us, hl with | [_, _], _ => rfl) _
  | n + 1 => fng (k := 1 + 1 + n) Df.f__law_like sc__law_like (fun f fd F => F.bindsN fun _ _ _ _ _ _ us hl => match us, hl with | [_, _], _ => rfl) rfl fun f cdv A outer s0 H E hr => by
    have Gs : FnG P w K mg base (1 + 1 + n) "_law_like" ["value", "due"] (F__law_like n) := ok__law_like Df T n
    have nd := sc__law_like.nd
    refine vs_cons ?_ ?_
    refine vs_if ?_ ?_ ?_
    refine vcmpT (o_is) ?_ ?_
    refine PE.toB (ve 1)
    refine PE.toB ?_
    refine vc_non
    refine vs_one ?_
    refine vs_ret ?_
    refine vcmp (o_is) ?_ ?_
    refine PE.toB (ve 0)
    refine PE.toB ?_
    refine vc_non
    refine vs_nil
    refine vs_cons ?_ ?_
    refine vs_if ?_ ?_ ?_
    refine vtru ?_
    refine PE.toB ?_
    refine vis ?_ T.isinstance T.«bool» bb_bool
    refine PE.toB (ve 1)
    refine vs_one ?_
    refine vs_ret ?_
    refine ve_and ?_ ?_
    refine vis ?_ T.isinstance T.«bool» bb_bool
    refine PE.toB (ve 0)
    refine ve_one ?_
    refine vcmp (o_eq hr) ?_ ?_
    refine PE.toB (ve 0)
    refine PE.toB (ve 1)
    refine vs_nil
    refine vs_cons ?_ ?_
    refine vs_if ?_ ?_ ?_
    refine vtru ?_
    refine PE.toB ?_
    refine vis ?_ T.isinstance T.«tuple» bb_tuple
    refine PE.toB (ve 1)
    refine vs_cons ?_ ?_
    refine vs_if ?_ ?_ ?_
    refine PW.pt ?_
    refine vw_or ?_ ?_
    refine vt_not ?_
    refine vtru ?_
    refine PE.toB ?_
    refine vis ?_ T.isinstance T.«tuple» bb_tuple
    refine PE.toB (ve 0)
    refine vw_or1 ?_
    refine vcmpT (o_ne hr) ?_ ?_
    refine PE.toB ?_
    refine vcall (c_len) T.len bb_len ?_
    refine vab_cons ?_ ?_
    refine PE.toB (ve 0)
    refine vab_nil
    refine PE.toB ?_
    refine vcall (c_len) T.len bb_len ?_
    refine vab_cons ?_ ?_
    refine PE.toB (ve 1)
    refine vab_nil
    refine vs_one ?_
    refine vs_ret ?_
    refine vc_bl
    refine vs_nil
    refine vs_one ?_
    refine vs_ret ?_
    refine vcall (c_all rfl) T.all bb_all ?_
    refine vab_cons ?_ ?_
    refine PE.nB ?_
    refine vlc (is := [2]) [("k", 2)] [2] rfl nd ?_ ?_ ?_ ?_ ?_
    refine vi_rg1 ?_ T.range
    refine vab_cons ?_ ?_
    refine PE.toB ?_
    refine vcall (c_len) T.len bb_len ?_
    refine vab_cons ?_ ?_
    refine PE.toB (ve 1)
    refine vab_nil
    refine vab_nil
    refine blkOk_by (by kernel_rfl)
    intro _ _ _ _ _
    refine vg 2 nd
    intro _ _ _ _ _
    refine vts_nil
    intro _ _ _ _ _
    refine vcl Gs hr ?_ (hkj := by omega)
    refine va_cons ?_ ?_
    refine vix i_ix ?_ ?_
    refine PE.toB (ve 0)
    refine PE.toB (ve 2)
    refine va_cons ?_ ?_
    refine vix i_ix ?_ ?_
    refine PE.toB (ve 1)
    refine PE.toB (ve 2)
    refine va_nil
    refine vab_nil
    refine vs_nil
    refine vs_cons ?_ ?_
    refine vs_if ?_ ?_ ?_
    refine vtru ?_
    refine PE.toB ?_
    refine vis ?_ T.isinstance T.«str» bb_str
    refine PE.toB (ve 1)
    refine vs_one ?_
    refine vs_ret ?_
    refine ve_and ?_ ?_
    refine vis ?_ T.isinstance T.«str» bb_str
    refine PE.toB (ve 0)
    refine ve_one ?_
    refine vcmp (o_eq hr) ?_ ?_
    refine PE.toB (ve 0)
    refine PE.toB (ve 1)
    refine vs_nil
    refine vs_one ?_
    refine vs_ret ?_
    refine ve_and ?_ ?_
    refine vcl (ok__law_is_int Df T) hr ?_ (hkj := by omega)
    refine va_cons ?_ ?_
    refine ve 0
    refine va_nil
    refine ve_one ?_
    refine vcmp (o_eq hr) ?_ ?_
    refine PE.toB (ve 0)
    refine PE.toB (ve 1)
def c__law_after_1 : Ev → Option (List D) :=
  nLc [4] (iSeq (eTup (aCons (eTup (aCons (eVar 2) (aCons (e2 addD (eVar 3) (eC (.int 1))) aNil))) (aCons (eTup (aCons (e2 addD (eVar 2) (eC (.int 1))) (aCons (eVar 3) aNil))) (aCons (eTup (aCons (e2 addD (eVar 2) (eC (.int 1))) (aCons (e2 addD (eVar 3) (eC (.int 1))) aNil))) aNil))))) (gN 4) (t1 isB (eDin false (eVar 4) (dVar 0))) (eVar 4)
def den__law_after : Ev → Option Out :=
  sSeq (sAsg (gLen 2 (gT (gsCons (gN 2) (gsCons (gN 3) gsNil)))) (eVar 1)) <|
  sRet (eLst c__law_after_1)
def F__law_after : List D → Option D := runD 5 2 den__law_after
theorem fa__law_after (x0 x1 : D) : F__law_after [x0, x1] = (den__law_after [some (.v x0), some (.v x1), none, none, none]).bind outV := rfl
theorem ok__law_after {P : Program} {w : World} {K : PySem.W.Frag} {mg : Str → Option Value} {base : Heap} (Df : Defs K mg) (T : Std mg) : FnG P w K mg base 1 "_law_after" ["rests", "place"] F__law_after :=
  fng (k := 0) Df.f__law_after sc__law_after (fun f fd F => F.bindsN fun _ _ _ _ _ _ us hl => match us, hl with | [_, _], _ => rfl) rfl fun f cdv A outer s0 H E hr => by
    have nd := sc__law_after.nd
    refine vs_cons ?_ ?_
    refine vs_asg (is := [2, 3]) ?_ ?_
    refine ve 1
    refine vgt (is := [2, 3]) rfl ?_
    refine vgs_cons (is := [2]) (js := [3]) ?_ ?_
    refine vg 2 nd
    refine vgs_cons (is := [3]) (js := []) ?_ ?_
    refine vg 3 nd
    refine vgs_nil
    refine vs_one ?_
    refine vs_ret ?_
    refine PE.ofN ?_
    refine vlc (is := [4]) [("one", 4)] [4] rfl nd ?_ ?_ ?_ ?_ ?_
    refine vi_seq ?_
    refine vtup ?_
    refine va_cons ?_ ?_
    refine vtup ?_
    refine va_cons ?_ ?_
    refine ve 2
    refine va_cons ?_ ?_
    refine vop o_add ?_ ?_
    refine PE.toB (ve 3)
    refine PE.toB ?_
    refine vc_int
    refine va_nil
    refine va_cons ?_ ?_
    refine vtup ?_
    refine va_cons ?_ ?_
    refine vop o_add ?_ ?_
    refine PE.toB (ve 2)
    refine PE.toB ?_
    refine vc_int
    refine va_cons ?_ ?_
    refine ve 3
    refine va_nil
    refine va_cons ?_ ?_
    refine vtup ?_
    refine va_cons ?_ ?_
    refine vop o_add ?_ ?_
    refine PE.toB (ve 2)
    refine PE.toB ?_
    refine vc_int
    refine va_cons ?_ ?_
    refine vop o_add ?_ ?_
    refine PE.toB (ve 3)
    refine PE.toB ?_
    refine vc_int
    refine va_nil
    refine va_nil
    refine blkOk_by (by kernel_rfl)
    intro _ _ _ _ _
    refine vg 4 nd
    intro _ _ _ _ _
    refine vts_one ?_
    refine vdinT hr ?_ ?_
    refine ve 4
    refine vd 0
    intro _ _ _ _ _
    refine ve 4
-- _law_rests: freeze rests at line 94
def b__law_rests_1 : Ev → Option Out :=
  sDp 2 (eTup (aCons (eVar 3) (aCons (eVar 4) aNil))) (eA F_aligned (aCons (eSl slD (eVar 0) (pI (eVar 3)) pN) (aCons (eSl slD (eVar 1) (pI (eVar 4)) pN) aNil)))
def b__law_rests_2 : Ev → Option Out :=
  sFor [4] (nA rg1 (aCons (eA lenD (aCons (eVar 1) aNil)) aNil)) (gN 4) b__law_rests_1
def den__law_rests : Ev → Option Out :=
  sSeq (sSet 2 (xD true)) <|
  sSeq (sFor [3, 4] (nA rg1 (aCons (eA lenD (aCons (eVar 0) aNil)) aNil)) (gN 3) b__law_rests_2) <|
  sPre (fun env => frzD env 2) (sRet (eVar 2))
def F__law_rests : List D → Option D := runD 5 2 den__law_rests
theorem fa__law_rests (x0 x1 : D) : F__law_rests [x0, x1] = (den__law_rests [some (.v x0), some (.v x1), none, none, none]).bind outV := rfl
theorem ok__law_rests {P : Program} {w : World} {K : PySem.W.Frag} {mg : Str → Option Value} {base : Heap} (Df : Defs K mg) (T : Std mg) : FnG P w K mg base 3 "_law_rests" ["first", "second"] F__law_rests :=
  fng (k := 2) Df.f__law_rests sc__law_rests (fun f fd F => F.bindsN fun _ _ _ _ _ _ us hl => match us, hl with | [_, _], _ => rfl) rfl fun f cdv A outer s0 H E hr => by
    have nd := sc__law_rests.nd
    refine vs_cons ?_ ?_
    refine vs_set 2 nd ?_
    refine vx_dnew true
    refine vs_cons ?_ ?_
    refine vs_for (ks := [3]) [3, 4] PassesOwn.never rfl ?_ ?_ ?_
    refine vi_rg1 ?_ T.range
    refine vab_cons ?_ ?_
    refine PE.toB ?_
    refine vcall (c_len) T.len bb_len ?_
    refine vab_cons ?_ ?_
    refine PE.toB (ve 0)
    refine vab_nil
    refine vab_nil
    refine vg 3 nd
    refine vs_one ?_
    refine vs_for (ks := [4]) [4] PassesOwn.never rfl ?_ ?_ ?_
    refine vi_rg1 ?_ T.range
    refine vab_cons ?_ ?_
    refine PE.toB ?_
    refine vcall (c_len) T.len bb_len ?_
    refine vab_cons ?_ ?_
    refine PE.toB (ve 1)
    refine vab_nil
    refine vab_nil
    refine vg 4 nd
    refine vs_one ?_
    refine vs_dput 2 hr ?_ ?_
    refine vtup ?_
    refine va_cons ?_ ?_
    refine ve 3
    refine va_cons ?_ ?_
    refine ve 4
    refine va_nil
    refine vcl (ok_aligned Df T) hr ?_
    refine va_cons ?_ ?_
    refine vslice s_sl ?_ ?_ ?_
    refine PE.toB (ve 0)
    refine vp_some ?_
    refine ve 3
    refine vp_none
    refine va_cons ?_ ?_
    refine vslice s_sl ?_ ?_ ?_
    refine PE.toB (ve 1)
    refine vp_some ?_
    refine ve 4
    refine vp_none
    refine va_nil
    refine vs_one ?_
    refine vs_frzD 2 ?_
    refine vs_ret ?_
    refine ve 2
def c__law_way_right_1 : Ev → Option (List D) :=
  nLc [11] (iSeq (eVar 6)) (gN 11) tTrue (eDg (dVar 2) (eVar 11))
def b__law_way_right_1 : Ev → Option Out :=
  sSeq (sSet 5 (xV (eA absD (aCons (e2 subD (e2 ixD (eVar 0) (eVar 3)) (e2 ixD (eVar 1) (eVar 4))) aNil)))) <|
  sSeq (sSet 6 (xV (eA F__law_after (aCons (eVar 2) (aCons (eTup (aCons (eVar 3) (aCons (eVar 4) aNil))) aNil))))) <|
  sSeq (sIf (t1 isB (e2 gtD (eA lenD (aCons (eVar 6) aNil)) (eC (.int 0)))) (sSet 5 (xV (e2 addD (eVar 5) (eA minD (aCons (eLst c__law_way_right_1) aNil))))) sNil) <|
  sIf (tNo (t1 truD (eA (F__law_like 12) (aCons (eDg (dVar 2) (eTup (aCons (eVar 3) (aCons (eVar 4) aNil)))) (aCons (eVar 5) aNil))))) (sRet (eC (.bool false))) sNil
def c__law_way_right_2 : Ev → Option (List D) :=
  nLc [11] (iSeq (eVar 6)) (gN 11) tTrue (eDg (dVar 2) (eVar 11))
def c__law_way_right_3 : Ev → Option (List D) :=
  nLc [11] (iSeq (eVar 6)) (gN 11) (t1 isB (e2 eqD (eDg (dVar 2) (eVar 11)) (eVar 9))) (eVar 11)
def b__law_way_right_2 : Ev → Option Out :=
  sSeq (sSet 6 (xV (eA F__law_after (aCons (eVar 2) (aCons (e2 ixD (bVar 7) (e1 negD (eC (.int 1)))) aNil))))) <|
  sIf (t1 isB (e2 gtD (eA lenD (aCons (eVar 6) aNil)) (eC (.int 0)))) (sSeq (sSet 9 (xV (eA minD (aCons (eLst c__law_way_right_2) aNil)))) <|
  sApp 7 (e2 ixD (eLst c__law_way_right_3) (eC (.int 0)))) sNil
def b__law_way_right_3 : Ev → Option Out :=
  sSeq (sSet 10 (xV (e2 subD (e2 addD (eA F_aligned (aCons (eSl slD (eVar 0) pN (pI (e2 addD (eVar 3) (eC (.int 1))))) (aCons (eSl slD (eVar 1) pN (pI (e2 addD (eVar 4) (eC (.int 1))))) aNil))) (eDg (dVar 2) (eTup (aCons (eVar 3) (aCons (eVar 4) aNil))))) (eA absD (aCons (e2 subD (e2 ixD (eVar 0) (eVar 3)) (e2 ixD (eVar 1) (eVar 4))) aNil))))) <|
  sIf (tOr' (t1 isB (e2 ltD (eVar 10) (eDg (dVar 2) (eTup (aCons (eC (.int 0)) (aCons (eC (.int 0)) aNil)))))) (tAn (t1 isB (e2 inD (eTup (aCons (eVar 3) (aCons (eVar 4) aNil))) (bVar 7))) (t1 isB (e2 gtD (eVar 10) (eDg (dVar 2) (eTup (aCons (eC (.int 0)) (aCons (eC (.int 0)) aNil)))))))) (sRet (eC (.bool false))) sNil
def den__law_way_right : Ev → Option Out :=
  sSeq (sSet 2 (xV (eA F__law_rests (aCons (eVar 0) (aCons (eVar 1) aNil))))) <|
  sSeq (sFor [3, 4, 5, 6] (iSeq (eLst (nA sortDX (aCons (eVar 2) aNil)))) (gLen 2 (gT (gsCons (gN 3) (gsCons (gN 4) gsNil)))) b__law_way_right_1) <|
  sSeq (sSet 7 (xO (nLst (aCons (eTup (aCons (eC (.int 0)) (aCons (eC (.int 0)) aNil))) aNil)))) <|
  sSeq (sFor [6, 8, 9] (nA rg1 (aCons (e2 addD (eA lenD (aCons (eVar 0) aNil)) (eA lenD (aCons (eVar 1) aNil))) aNil)) (gN 8) b__law_way_right_2) <|
  sSeq (sIf (tNo (t1 truD (eA (F__law_like 12) (aCons (eA F_aligned_way (aCons (eVar 0) (aCons (eVar 1) aNil))) (aCons (eA tupOfD (aCons (bVar 7) aNil)) aNil))))) (sRet (eC (.bool false))) sNil) <|
  sSeq (sFor [3, 4, 10] (iSeq (eLst (nA sortDX (aCons (eVar 2) aNil)))) (gLen 2 (gT (gsCons (gN 3) (gsCons (gN 4) gsNil)))) b__law_way_right_3) <|
  sRet (eC (.bool true))
def F__law_way_right : List D → Option D := runD 12 2 den__law_way_right
theorem fa__law_way_right (x0 x1 : D) : F__law_way_right [x0, x1] = (den__law_way_right [some (.v x0), some (.v x1), none, none, none, none, none, none, none, none, none, none]).bind outV := rfl
theorem ok__law_way_right {P : Program} {w : World} {K : PySem.W.Frag} {mg : Str → Option Value} {base : Heap} (Df : Defs K mg) (T : Std mg) : FnG P w K mg base 15 "_law_way_right" ["first", "second"] F__law_way_right :=
  fng (k := 14) Df.f__law_way_right sc__law_way_right (fun f fd F => F.bindsN fun _ _ _ _ _ _ us hl => match us, hl with | [_, _], _ => rfl) rfl fun f cdv A outer s0 H E hr => by
    have nd := sc__law_way_right.nd
    refine vs_cons ?_ ?_
    refine vs_set 2 nd ?_
    refine PE.xv ?_
    refine vcl (ok__law_rests Df T) hr ?_
    refine va_cons ?_ ?_
    refine ve 0
    refine va_cons ?_ ?_
    refine ve 1
    refine va_nil
    refine vs_cons ?_ ?_
    refine vs_for (ks := [3, 4]) [3, 4, 5, 6] PassesOwn.never rfl ?_ ?_ ?_
    refine vi_seq ?_
    refine PE.ofN ?_
    refine vcallN (cn_sortDX hr rfl) T.sorted bb_sorted ?_
    refine vab_cons ?_ ?_
    refine PE.toB ?_
    refine ve 2
    refine vab_nil
    refine vgt (is := [3, 4]) rfl ?_
    refine vgs_cons (is := [3]) (js := [4]) ?_ ?_
    refine vg 3 nd
    refine vgs_cons (is := [4]) (js := []) ?_ ?_
    refine vg 4 nd
    refine vgs_nil
    refine vs_cons ?_ ?_
    refine vs_set 5 nd ?_
    refine PE.xv ?_
    refine vcall (c_abs) T.abs bb_abs ?_
    refine vab_cons ?_ ?_
    refine PE.toB ?_
    refine vop o_sub ?_ ?_
    refine PE.toB ?_
    refine vix i_ix ?_ ?_
    refine PE.toB (ve 0)
    refine PE.toB (ve 3)
    refine PE.toB ?_
    refine vix i_ix ?_ ?_
    refine PE.toB (ve 1)
    refine PE.toB (ve 4)
    refine vab_nil
    refine vs_cons ?_ ?_
    refine vs_set 6 nd ?_
    refine PE.xv ?_
    refine vcl (ok__law_after Df T) hr ?_
    refine va_cons ?_ ?_
    refine ve 2
    refine va_cons ?_ ?_
    refine vtup ?_
    refine va_cons ?_ ?_
    refine ve 3
    refine va_cons ?_ ?_
    refine ve 4
    refine va_nil
    refine va_nil
    refine vs_cons ?_ ?_
    refine vs_if ?_ ?_ ?_
    refine vcmpT (o_gt hr) ?_ ?_
    refine PE.toB ?_
    refine vcall (c_len) T.len bb_len ?_
    refine vab_cons ?_ ?_
    refine PE.toB (ve 6)
    refine vab_nil
    refine PE.toB ?_
    refine vc_int
    refine vs_one ?_
    refine vs_set 5 nd ?_
    refine PE.xv ?_
    refine vop o_add ?_ ?_
    refine PE.toB (ve 5)
    refine PE.toB ?_
    refine vcall (c_min rfl hr) T.min bb_min ?_
    refine vab_cons ?_ ?_
    refine PE.nB ?_
    refine vlc (is := [11]) [("one", 11)] [11] rfl nd ?_ ?_ ?_ ?_ ?_
    refine vi_seq ?_
    refine ve 6
    refine blkOk_by (by kernel_rfl)
    intro _ _ _ _ _
    refine vg 11 nd
    intro _ _ _ _ _
    refine vts_nil
    intro _ _ _ _ _
    refine vdget hr ?_ ?_ (fun _ _ => rfl)
    refine vd 2
    refine ve 11
    refine vab_nil
    refine vs_nil
    refine vs_one ?_
    refine vs_if ?_ ?_ ?_
    refine vt_not ?_
    refine vtru ?_
    refine PE.toB ?_
    refine vcl (ok__law_like Df T 12) hr ?_
    refine va_cons ?_ ?_
    refine vdget hr ?_ ?_ (fun _ _ => rfl)
    refine vd 2
    refine vtup ?_
    refine va_cons ?_ ?_
    refine ve 3
    refine va_cons ?_ ?_
    refine ve 4
    refine va_nil
    refine va_cons ?_ ?_
    refine ve 5
    refine va_nil
    refine vs_one ?_
    refine vs_ret ?_
    refine vc_bl
    refine vs_nil
    refine vs_cons ?_ ?_
    refine vs_set 7 nd ?_
    refine PE.xo ?_
    refine vlst ?_
    refine va_cons ?_ ?_
    refine vtup ?_
    refine va_cons ?_ ?_
    refine vc_int
    refine va_cons ?_ ?_
    refine vc_int
    refine va_nil
    refine va_nil
    refine vs_cons ?_ ?_
    refine vs_for (ks := [8]) [6, 8, 9] PassesOwn.never rfl ?_ ?_ ?_
    refine vi_rg1 ?_ T.range
    refine vab_cons ?_ ?_
    refine PE.toB ?_
    refine vop o_add ?_ ?_
    refine PE.toB ?_
    refine vcall (c_len) T.len bb_len ?_
    refine vab_cons ?_ ?_
    refine PE.toB (ve 0)
    refine vab_nil
    refine PE.toB ?_
    refine vcall (c_len) T.len bb_len ?_
    refine vab_cons ?_ ?_
    refine PE.toB (ve 1)
    refine vab_nil
    refine vab_nil
    refine vg 8 nd
    refine vs_cons ?_ ?_
    refine vs_set 6 nd ?_
    refine PE.xv ?_
    refine vcl (ok__law_after Df T) hr ?_
    refine va_cons ?_ ?_
    refine ve 2
    refine va_cons ?_ ?_
    refine vix i_ix ?_ ?_
    refine vb 7
    refine PE.toB ?_
    refine vun o_neg ?_
    refine PE.toB ?_
    refine vc_int
    refine va_nil
    refine vs_one ?_
    refine vs_if ?_ ?_ ?_
    refine vcmpT (o_gt hr) ?_ ?_
    refine PE.toB ?_
    refine vcall (c_len) T.len bb_len ?_
    refine vab_cons ?_ ?_
    refine PE.toB (ve 6)
    refine vab_nil
    refine PE.toB ?_
    refine vc_int
    refine vs_cons ?_ ?_
    refine vs_set 9 nd ?_
    refine PE.xv ?_
    refine vcall (c_min rfl hr) T.min bb_min ?_
    refine vab_cons ?_ ?_
    refine PE.nB ?_
    refine vlc (is := [11]) [("one", 11)] [11] rfl nd ?_ ?_ ?_ ?_ ?_
    refine vi_seq ?_
    refine ve 6
    refine blkOk_by (by kernel_rfl)
    intro _ _ _ _ _
    refine vg 11 nd
    intro _ _ _ _ _
    refine vts_nil
    intro _ _ _ _ _
    refine vdget hr ?_ ?_ (fun _ _ => rfl)
    refine vd 2
    refine ve 11
    refine vab_nil
    refine vs_one ?_
    refine vs_app 7 ?_
    refine vix i_ix ?_ ?_
    refine PE.nB ?_
    refine vlc (is := [11]) [("one", 11)] [11] rfl nd ?_ ?_ ?_ ?_ ?_
    refine vi_seq ?_
    refine ve 6
    refine blkOk_by (by kernel_rfl)
    intro _ _ _ _ _
    refine vg 11 nd
    intro _ _ _ _ _
    refine vts_one ?_
    refine vcmpT (o_eq hr) ?_ ?_
    refine PE.toB ?_
    refine vdget hr ?_ ?_ (fun _ _ => rfl)
    refine vd 2
    refine ve 11
    refine PE.toB (ve 9)
    intro _ _ _ _ _
    refine ve 11
    refine PE.toB ?_
    refine vc_int
    refine vs_nil
    refine vs_cons ?_ ?_
    refine vs_if ?_ ?_ ?_
    refine vt_not ?_
    refine vtru ?_
    refine PE.toB ?_
    refine vcl (ok__law_like Df T 12) hr ?_
    refine va_cons ?_ ?_
    refine vcl (ok_aligned_way Df T) hr ?_
    refine va_cons ?_ ?_
    refine ve 0
    refine va_cons ?_ ?_
    refine ve 1
    refine va_nil
    refine va_cons ?_ ?_
    refine vty c_tup T.tuple bb_tuple ?_
    refine vab_cons ?_ ?_
    refine vb 7
    refine vab_nil
    refine va_nil
    refine vs_one ?_
    refine vs_ret ?_
    refine vc_bl
    refine vs_nil
    refine vs_cons ?_ ?_
    refine vs_for (ks := [3, 4]) [3, 4, 10] PassesOwn.never rfl ?_ ?_ ?_
    refine vi_seq ?_
    refine PE.ofN ?_
    refine vcallN (cn_sortDX hr rfl) T.sorted bb_sorted ?_
    refine vab_cons ?_ ?_
    refine PE.toB ?_
    refine ve 2
    refine vab_nil
    refine vgt (is := [3, 4]) rfl ?_
    refine vgs_cons (is := [3]) (js := [4]) ?_ ?_
    refine vg 3 nd
    refine vgs_cons (is := [4]) (js := []) ?_ ?_
    refine vg 4 nd
    refine vgs_nil
    refine vs_cons ?_ ?_
    refine vs_set 10 nd ?_
    refine PE.xv ?_
    refine vop o_sub ?_ ?_
    refine PE.toB ?_
    refine vop o_add ?_ ?_
    refine PE.toB ?_
    refine vcl (ok_aligned Df T) hr ?_
    refine va_cons ?_ ?_
    refine vslice s_sl ?_ ?_ ?_
    refine PE.toB (ve 0)
    refine vp_none
    refine vp_some ?_
    refine vop o_add ?_ ?_
    refine PE.toB (ve 3)
    refine PE.toB ?_
    refine vc_int
    refine va_cons ?_ ?_
    refine vslice s_sl ?_ ?_ ?_
    refine PE.toB (ve 1)
    refine vp_none
    refine vp_some ?_
    refine vop o_add ?_ ?_
    refine PE.toB (ve 4)
    refine PE.toB ?_
    refine vc_int
    refine va_nil
    refine PE.toB ?_
    refine vdget hr ?_ ?_ (fun _ _ => rfl)
    refine vd 2
    refine vtup ?_
    refine va_cons ?_ ?_
    refine ve 3
    refine va_cons ?_ ?_
    refine ve 4
    refine va_nil
    refine PE.toB ?_
    refine vcall (c_abs) T.abs bb_abs ?_
    refine vab_cons ?_ ?_
    refine PE.toB ?_
    refine vop o_sub ?_ ?_
    refine PE.toB ?_
    refine vix i_ix ?_ ?_
    refine PE.toB (ve 0)
    refine PE.toB (ve 3)
    refine PE.toB ?_
    refine vix i_ix ?_ ?_
    refine PE.toB (ve 1)
    refine PE.toB (ve 4)
    refine vab_nil
    refine vs_one ?_
    refine vs_if ?_ ?_ ?_
    refine PW.pt ?_
    refine vw_or ?_ ?_
    refine vcmpT (o_lt hr) ?_ ?_
    refine PE.toB (ve 10)
    refine PE.toB ?_
    refine vdget hr ?_ ?_ (fun _ _ => rfl)
    refine vd 2
    refine vtup ?_
    refine va_cons ?_ ?_
    refine vc_int
    refine va_cons ?_ ?_
    refine vc_int
    refine va_nil
    refine vw_or1 ?_
    refine PW.pt ?_
    refine vw_and ?_ ?_
    refine vcmpT (o_in hr) ?_ ?_
    refine PE.toB ?_
    refine vtup ?_
    refine va_cons ?_ ?_
    refine ve 3
    refine va_cons ?_ ?_
    refine ve 4
    refine va_nil
    refine vb 7
    refine vw_and1 ?_
    refine vcmpT (o_gt hr) ?_ ?_
    refine PE.toB (ve 10)
    refine PE.toB ?_
    refine vdget hr ?_ ?_ (fun _ _ => rfl)
    refine vd 2
    refine vtup ?_
    refine va_cons ?_ ?_
    refine vc_int
    refine va_cons ?_ ?_
    refine vc_int
    refine va_nil
    refine vs_one ?_
    refine vs_ret ?_
    refine vc_bl
    refine vs_nil
    refine vs_one ?_
    refine vs_ret ?_
    refine vc_bl
def c__law_plain_1 : Ev → Option (List D) :=
  nLc [1] (nA rg1 (aCons (eA lenD (aCons (eVar 0) aNil)) aNil)) (gN 1) (tOr' (t1 isB (e2 eqD (eVar 1) (eC (.int 0)))) (t1 isB (e2 neD (e2 ixD (eVar 0) (eVar 1)) (e2 ixD (eVar 0) (e2 subD (eVar 1) (eC (.int 1))))))) (e2 ixD (eVar 0) (eVar 1))
def den__law_plain : Ev → Option Out :=
  sRet (eA tupOfD (aCons (eLst c__law_plain_1) aNil))
def F__law_plain : List D → Option D := runD 2 1 den__law_plain
theorem fa__law_plain (x0 : D) : F__law_plain [x0] = (den__law_plain [some (.v x0), none]).bind outV := rfl
theorem ok__law_plain {P : Program} {w : World} {K : PySem.W.Frag} {mg : Str → Option Value} {base : Heap} (Df : Defs K mg) (T : Std mg) : FnG P w K mg base 1 "_law_plain" ["numbers"] F__law_plain :=
  fng (k := 0) Df.f__law_plain sc__law_plain (fun f fd F => F.bindsN fun _ _ _ _ _ _ us hl => match us, hl with | [_], _ => rfl) rfl fun f cdv A outer s0 H E hr => by
    have nd := sc__law_plain.nd
    refine vs_one ?_
    refine vs_ret ?_
    refine vty c_tup T.tuple bb_tuple ?_
    refine vab_cons ?_ ?_
    refine PE.nB ?_
    refine vlc (is := [1]) [("k", 1)] [1] rfl nd ?_ ?_ ?_ ?_ ?_
    refine vi_rg1 ?_ T.range
    refine vab_cons ?_ ?_
    refine PE.toB ?_
    refine vcall (c_len) T.len bb_len ?_
    refine vab_cons ?_ ?_
    refine PE.toB (ve 0)
    refine vab_nil
    refine vab_nil
    refine blkOk_by (by kernel_rfl)
    intro _ _ _ _ _
    refine vg 1 nd
    intro _ _ _ _ _
    refine vts_one ?_
    refine PW.pt ?_
    refine vw_or ?_ ?_
    refine vcmpT (o_eq hr) ?_ ?_
    refine PE.toB (ve 1)
    refine PE.toB ?_
    refine vc_int
    refine vw_or1 ?_
    refine vcmpT (o_ne hr) ?_ ?_
    refine PE.toB ?_
    refine vix i_ix ?_ ?_
    refine PE.toB (ve 0)
    refine PE.toB (ve 1)
    refine PE.toB ?_
    refine vix i_ix ?_ ?_
    refine PE.toB (ve 0)
    refine PE.toB ?_
    refine vop o_sub ?_ ?_
    refine PE.toB (ve 1)
    refine PE.toB ?_
    refine vc_int
    intro _ _ _ _ _
    refine vix i_ix ?_ ?_
    refine PE.toB (ve 0)
    refine PE.toB (ve 1)
    refine vab_nil
def b__law_repeated_1 : Ev → Option Out :=
  sSet 3 (xV (e2 addD (eVar 3) (e2 mulD (eTup (aCons (e2 ixD (eVar 2) (eVar 4)) aNil)) (e2 addD (eC (.int 1)) (e2 modD (eA intD (aCons (e2 ixD (eVar 0) (e2 addD (eVar 1) (eVar 4))) aNil)) (eC (.int 3)))))))
def den__law_repeated : Ev → Option Out :=
  sSeq (sSet 3 (xV (eTup aNil))) <|
  sSeq (sFor [4] (nA rg1 (aCons (eA lenD (aCons (eVar 2) aNil)) aNil)) (gN 4) b__law_repeated_1) <|
  sRet (eVar 3)
def F__law_repeated : List D → Option D := runD 5 3 den__law_repeated
theorem fa__law_repeated (x0 x1 x2 : D) : F__law_repeated [x0, x1, x2] = (den__law_repeated [some (.v x0), some (.v x1), some (.v x2), none, none]).bind outV := rfl
theorem ok__law_repeated {P : Program} {w : World} {K : PySem.W.Frag} {mg : Str → Option Value} {base : Heap} (Df : Defs K mg) (T : Std mg) : FnG P w K mg base 1 "_law_repeated" ["row", "at", "numbers"] F__law_repeated :=
  fng (k := 0) Df.f__law_repeated sc__law_repeated (fun f fd F => F.bindsN fun _ _ _ _ _ _ us hl => match us, hl with | [_, _, _], _ => rfl) rfl fun f cdv A outer s0 H E hr => by
    have nd := sc__law_repeated.nd
    refine vs_cons ?_ ?_
    refine vs_set 3 nd ?_
    refine PE.xv ?_
    refine vtup ?_
    refine va_nil
    refine vs_cons ?_ ?_
    refine vs_for (ks := [4]) [4] PassesOwn.never rfl ?_ ?_ ?_
    refine vi_rg1 ?_ T.range
    refine vab_cons ?_ ?_
    refine PE.toB ?_
    refine vcall (c_len) T.len bb_len ?_
    refine vab_cons ?_ ?_
    refine PE.toB (ve 2)
    refine vab_nil
    refine vab_nil
    refine vg 4 nd
    refine vs_one ?_
    refine vs_set 3 nd ?_
    refine PE.xv ?_
    refine vop o_add ?_ ?_
    refine PE.toB (ve 3)
    refine PE.toB ?_
    refine vop o_mul ?_ ?_
    refine PE.toB ?_
    refine vtup ?_
    refine va_cons ?_ ?_
    refine vix i_ix ?_ ?_
    refine PE.toB (ve 2)
    refine PE.toB (ve 4)
    refine va_nil
    refine PE.toB ?_
    refine vop o_add ?_ ?_
    refine PE.toB ?_
    refine vc_int
    refine PE.toB ?_
    refine vop o_mod ?_ ?_
    refine PE.toB ?_
    refine vty c_int T.int bb_int ?_
    refine vab_cons ?_ ?_
    refine PE.toB ?_
    refine vix i_ix ?_ ?_
    refine PE.toB (ve 0)
    refine PE.toB ?_
    refine vop o_add ?_ ?_
    refine PE.toB (ve 1)
    refine PE.toB (ve 4)
    refine vab_nil
    refine PE.toB ?_
    refine vc_int
    refine vs_one ?_
    refine vs_ret ?_
    refine ve 3
def c__law_moved_right_1 : Ev → Option (List D) :=
  nLc [14] (iSeq (eVar 1)) (gN 14) tTrue (e2 addD (e2 mulD (eVar 11) (eVar 14)) (eVar 10))
def c__law_moved_right_2 : Ev → Option (List D) :=
  nLc [14] (iSeq (eVar 2)) (gN 14) tTrue (e2 addD (e2 mulD (eVar 11) (eVar 14)) (eVar 10))
def b__law_moved_right_1 : Ev → Option Out :=
  sSeq (sPar 12 13 (xV (eA tupOfD (aCons (eLst c__law_moved_right_1) aNil))) (xV (eA tupOfD (aCons (eLst c__law_moved_right_2) aNil)))) <|
  sIf (tNo (t1 truD (eA (F__law_like 12) (aCons (eTup (aCons (eA F_aligned (aCons (eVar 12) (aCons (eVar 13) aNil))) (aCons (eA F_aligned_way (aCons (eVar 12) (aCons (eVar 13) aNil))) aNil))) (aCons (eTup (aCons (e2 mulD (eA absD (aCons (eVar 11) aNil)) (eVar 3)) (aCons (eVar 4) aNil))) aNil))))) (sRet (eC (.bool false))) sNil
def den__law_moved_right : Ev → Option Out :=
  sSeq (sPar 3 4 (xV (eA F_aligned (aCons (eVar 1) (aCons (eVar 2) aNil)))) (xV (eA F_aligned_way (aCons (eVar 1) (aCons (eVar 2) aNil))))) <|
  sSeq (sPar 5 6 (xV (eA F__law_plain (aCons (eVar 1) aNil))) (xV (eA F__law_plain (aCons (eVar 2) aNil)))) <|
  sSeq (sIf (tOr' (t1 isB (e2 neD (e2 eqD (eVar 3) (eC (.int 0))) (e2 eqD (eVar 5) (eVar 6)))) (tOr' (t1 isB (e2 neD (eSl (stepD 2) (eA F_said_of (aCons (eVar 1) aNil)) (pI (eC (.int 1))) pN) (eVar 5))) (t1 isB (e2 neD (eSl (stepD 2) (eA F_said_of (aCons (eVar 2) aNil)) (pI (eC (.int 1))) pN) (eVar 6))))) (sRet (eC (.bool false))) sNil) <|
  sSeq (sSet 7 (xV (eA F__law_repeated (aCons (eVar 0) (aCons (eC (.int 32)) (aCons (eVar 1) aNil)))))) <|
  sSeq (sIf (tAn (t1 isB (e2 ltD (eA lenD (aCons (eVar 7) aNil)) (eC (.int 9)))) (t1 isB (e2 ltD (eA F_aligned (aCons (eVar 7) (aCons (eVar 2) aNil))) (eVar 3)))) (sRet (eC (.bool false))) sNil) <|
  sSeq (sPar 8 9 (xV (e2 subD (e2 modD (eA intD (aCons (e2 ixD (eVar 0) (eC (.int 28))) aNil)) (eC (.int 2001))) (eC (.int 1000)))) (xV (e2 addD (eC (.int 1)) (e2 modD (eA intD (aCons (e2 ixD (eVar 0) (eC (.int 29))) aNil)) (eC (.int 9)))))) <|
  sSeq (sFor [10, 11, 12, 13] (iSeq (eTup (aCons (eTup (aCons (eVar 8) (aCons (eC (.int 1)) aNil))) (aCons (eTup (aCons (eC (.int 0)) (aCons (e1 negD (eC (.int 1))) aNil))) (aCons (eTup (aCons (eVar 8) (aCons (eVar 9) aNil))) (aCons (eTup (aCons (eC (.int 0)) (aCons (e1 negD (eVar 9)) aNil))) aNil)))))) (gLen 2 (gT (gsCons (gN 10) (gsCons (gN 11) gsNil)))) b__law_moved_right_1) <|
  sRet (eC (.bool true))
def F__law_moved_right : List D → Option D := runD 15 3 den__law_moved_right
theorem fa__law_moved_right (x0 x1 x2 : D) : F__law_moved_right [x0, x1, x2] = (den__law_moved_right [some (.v x0), some (.v x1), some (.v x2), none, none, none, none, none, none, none, none, none, none, none, none]).bind outV := rfl
theorem ok__law_moved_right {P : Program} {w : World} {K : PySem.W.Frag} {mg : Str → Option Value} {base : Heap} (Df : Defs K mg) (T : Std mg) : FnG P w K mg base 15 "_law_moved_right" ["row", "first", "second"] F__law_moved_right :=
  fng (k := 14) Df.f__law_moved_right sc__law_moved_right (fun f fd F => F.bindsN fun _ _ _ _ _ _ us hl => match us, hl with | [_, _, _], _ => rfl) rfl fun f cdv A outer s0 H E hr => by
    have nd := sc__law_moved_right.nd
    refine vs_cons ?_ ?_
    refine vs_par 3 4 rfl nd ?_ ?_
    refine PE.xv ?_
    refine vcl (ok_aligned Df T) hr ?_
    refine va_cons ?_ ?_
    refine ve 1
    refine va_cons ?_ ?_
    refine ve 2
    refine va_nil
    refine PE.xv ?_
    refine vcl (ok_aligned_way Df T) hr ?_
    refine va_cons ?_ ?_
    refine ve 1
    refine va_cons ?_ ?_
    refine ve 2
    refine va_nil
    refine vs_cons ?_ ?_
    refine vs_par 5 6 rfl nd ?_ ?_
    refine PE.xv ?_
    refine vcl (ok__law_plain Df T) hr ?_
    refine va_cons ?_ ?_
    refine ve 1
    refine va_nil
    refine PE.xv ?_
    refine vcl (ok__law_plain Df T) hr ?_
    refine va_cons ?_ ?_
    refine ve 2
    refine va_nil
    refine vs_cons ?_ ?_
    refine vs_if ?_ ?_ ?_
    refine PW.pt ?_
    refine vw_or ?_ ?_
    refine vcmpT (o_ne hr) ?_ ?_
    refine PE.toB ?_
    refine vcmp (o_eq hr) ?_ ?_
    refine PE.toB (ve 3)
    refine PE.toB ?_
    refine vc_int
    refine PE.toB ?_
    refine vcmp (o_eq hr) ?_ ?_
    refine PE.toB (ve 5)
    refine PE.toB (ve 6)
    refine vw_or ?_ ?_
    refine vcmpT (o_ne hr) ?_ ?_
    refine PE.toB ?_
    refine vstepP ?_ ?_ ?_
    refine PE.toB ?_
    refine vcl (ok_said_of Df T) hr ?_
    refine va_cons ?_ ?_
    refine ve 1
    refine va_nil
    refine vp_some ?_
    refine vc_int
    refine vp_none
    refine PE.toB (ve 5)
    refine vw_or1 ?_
    refine vcmpT (o_ne hr) ?_ ?_
    refine PE.toB ?_
    refine vstepP ?_ ?_ ?_
    refine PE.toB ?_
    refine vcl (ok_said_of Df T) hr ?_
    refine va_cons ?_ ?_
    refine ve 2
    refine va_nil
    refine vp_some ?_
    refine vc_int
    refine vp_none
    refine PE.toB (ve 6)
    refine vs_one ?_
    refine vs_ret ?_
    refine vc_bl
    refine vs_nil
    refine vs_cons ?_ ?_
    refine vs_set 7 nd ?_
    refine PE.xv ?_
    refine vcl (ok__law_repeated Df T) hr ?_
    refine va_cons ?_ ?_
    refine ve 0
    refine va_cons ?_ ?_
    refine vc_int
    refine va_cons ?_ ?_
    refine ve 1
    refine va_nil
    refine vs_cons ?_ ?_
    refine vs_if ?_ ?_ ?_
    refine PW.pt ?_
    refine vw_and ?_ ?_
    refine vcmpT (o_lt hr) ?_ ?_
    refine PE.toB ?_
    refine vcall (c_len) T.len bb_len ?_
    refine vab_cons ?_ ?_
    refine PE.toB (ve 7)
    refine vab_nil
    refine PE.toB ?_
    refine vc_int
    refine vw_and1 ?_
    refine vcmpT (o_lt hr) ?_ ?_
    refine PE.toB ?_
    refine vcl (ok_aligned Df T) hr ?_
    refine va_cons ?_ ?_
    refine ve 7
    refine va_cons ?_ ?_
    refine ve 2
    refine va_nil
    refine PE.toB (ve 3)
    refine vs_one ?_
    refine vs_ret ?_
    refine vc_bl
    refine vs_nil
    refine vs_cons ?_ ?_
    refine vs_par 8 9 rfl nd ?_ ?_
    refine PE.xv ?_
    refine vop o_sub ?_ ?_
    refine PE.toB ?_
    refine vop o_mod ?_ ?_
    refine PE.toB ?_
    refine vty c_int T.int bb_int ?_
    refine vab_cons ?_ ?_
    refine PE.toB ?_
    refine vix i_ix ?_ ?_
    refine PE.toB (ve 0)
    refine PE.toB ?_
    refine vc_int
    refine vab_nil
    refine PE.toB ?_
    refine vc_int
    refine PE.toB ?_
    refine vc_int
    refine PE.xv ?_
    refine vop o_add ?_ ?_
    refine PE.toB ?_
    refine vc_int
    refine PE.toB ?_
    refine vop o_mod ?_ ?_
    refine PE.toB ?_
    refine vty c_int T.int bb_int ?_
    refine vab_cons ?_ ?_
    refine PE.toB ?_
    refine vix i_ix ?_ ?_
    refine PE.toB (ve 0)
    refine PE.toB ?_
    refine vc_int
    refine vab_nil
    refine PE.toB ?_
    refine vc_int
    refine vs_cons ?_ ?_
    refine vs_for (ks := [10, 11]) [10, 11, 12, 13] PassesOwn.never rfl ?_ ?_ ?_
    refine vi_seq ?_
    refine vtup ?_
    refine va_cons ?_ ?_
    refine vtup ?_
    refine va_cons ?_ ?_
    refine ve 8
    refine va_cons ?_ ?_
    refine vc_int
    refine va_nil
    refine va_cons ?_ ?_
    refine vtup ?_
    refine va_cons ?_ ?_
    refine vc_int
    refine va_cons ?_ ?_
    refine vun o_neg ?_
    refine PE.toB ?_
    refine vc_int
    refine va_nil
    refine va_cons ?_ ?_
    refine vtup ?_
    refine va_cons ?_ ?_
    refine ve 8
    refine va_cons ?_ ?_
    refine ve 9
    refine va_nil
    refine va_cons ?_ ?_
    refine vtup ?_
    refine va_cons ?_ ?_
    refine vc_int
    refine va_cons ?_ ?_
    refine vun o_neg ?_
    refine PE.toB (ve 9)
    refine va_nil
    refine va_nil
    refine vgt (is := [10, 11]) rfl ?_
    refine vgs_cons (is := [10]) (js := [11]) ?_ ?_
    refine vg 10 nd
    refine vgs_cons (is := [11]) (js := []) ?_ ?_
    refine vg 11 nd
    refine vgs_nil
    refine vs_cons ?_ ?_
    refine vs_par 12 13 rfl nd ?_ ?_
    refine PE.xv ?_
    refine vty c_tup T.tuple bb_tuple ?_
    refine vab_cons ?_ ?_
    refine PE.nB ?_
    refine vlc (is := [14]) [("number", 14)] [14] rfl nd ?_ ?_ ?_ ?_ ?_
    refine vi_seq ?_
    refine ve 1
    refine blkOk_by (by kernel_rfl)
    intro _ _ _ _ _
    refine vg 14 nd
    intro _ _ _ _ _
    refine vts_nil
    intro _ _ _ _ _
    refine vop o_add ?_ ?_
    refine PE.toB ?_
    refine vop o_mul ?_ ?_
    refine PE.toB (ve 11)
    refine PE.toB (ve 14)
    refine PE.toB (ve 10)
    refine vab_nil
    refine PE.xv ?_
    refine vty c_tup T.tuple bb_tuple ?_
    refine vab_cons ?_ ?_
    refine PE.nB ?_
    refine vlc (is := [14]) [("number", 14)] [14] rfl nd ?_ ?_ ?_ ?_ ?_
    refine vi_seq ?_
    refine ve 2
    refine blkOk_by (by kernel_rfl)
    intro _ _ _ _ _
    refine vg 14 nd
    intro _ _ _ _ _
    refine vts_nil
    intro _ _ _ _ _
    refine vop o_add ?_ ?_
    refine PE.toB ?_
    refine vop o_mul ?_ ?_
    refine PE.toB (ve 11)
    refine PE.toB (ve 14)
    refine PE.toB (ve 10)
    refine vab_nil
    refine vs_one ?_
    refine vs_if ?_ ?_ ?_
    refine vt_not ?_
    refine vtru ?_
    refine PE.toB ?_
    refine vcl (ok__law_like Df T 12) hr ?_
    refine va_cons ?_ ?_
    refine vtup ?_
    refine va_cons ?_ ?_
    refine vcl (ok_aligned Df T) hr ?_
    refine va_cons ?_ ?_
    refine ve 12
    refine va_cons ?_ ?_
    refine ve 13
    refine va_nil
    refine va_cons ?_ ?_
    refine vcl (ok_aligned_way Df T) hr ?_
    refine va_cons ?_ ?_
    refine ve 12
    refine va_cons ?_ ?_
    refine ve 13
    refine va_nil
    refine va_nil
    refine va_cons ?_ ?_
    refine vtup ?_
    refine va_cons ?_ ?_
    refine vop o_mul ?_ ?_
    refine PE.toB ?_
    refine vcall (c_abs) T.abs bb_abs ?_
    refine vab_cons ?_ ?_
    refine PE.toB (ve 11)
    refine vab_nil
    refine PE.toB (ve 3)
    refine va_cons ?_ ?_
    refine ve 4
    refine va_nil
    refine va_nil
    refine vs_one ?_
    refine vs_ret ?_
    refine vc_bl
    refine vs_nil
    refine vs_one ?_
    refine vs_ret ?_
    refine vc_bl
def c__law_apart_1 : Ev → Option (List D) :=
  nLc [2] (nA rg1 (aCons (eA lenD (aCons (eVar 0) aNil)) aNil)) (gN 2) tTrue (eA absD (aCons (e2 subD (e2 ixD (eVar 0) (eVar 2)) (e2 ixD (eVar 1) (eVar 2))) aNil))
def den__law_apart : Ev → Option Out :=
  sRet (eA sumD (aCons (eLst c__law_apart_1) aNil))
def F__law_apart : List D → Option D := runD 3 2 den__law_apart
theorem fa__law_apart (x0 x1 : D) : F__law_apart [x0, x1] = (den__law_apart [some (.v x0), some (.v x1), none]).bind outV := rfl
theorem ok__law_apart {P : Program} {w : World} {K : PySem.W.Frag} {mg : Str → Option Value} {base : Heap} (Df : Defs K mg) (T : Std mg) : FnG P w K mg base 1 "_law_apart" ["first", "second"] F__law_apart :=
  fng (k := 0) Df.f__law_apart sc__law_apart (fun f fd F => F.bindsN fun _ _ _ _ _ _ us hl => match us, hl with | [_, _], _ => rfl) rfl fun f cdv A outer s0 H E hr => by
    have nd := sc__law_apart.nd
    refine vs_one ?_
    refine vs_ret ?_
    refine vcall (c_sum rfl) T.sum bb_sum ?_
    refine vab_cons ?_ ?_
    refine PE.nB ?_
    refine vlc (is := [2]) [("k", 2)] [2] rfl nd ?_ ?_ ?_ ?_ ?_
    refine vi_rg1 ?_ T.range
    refine vab_cons ?_ ?_
    refine PE.toB ?_
    refine vcall (c_len) T.len bb_len ?_
    refine vab_cons ?_ ?_
    refine PE.toB (ve 0)
    refine vab_nil
    refine vab_nil
    refine blkOk_by (by kernel_rfl)
    intro _ _ _ _ _
    refine vg 2 nd
    intro _ _ _ _ _
    refine vts_nil
    intro _ _ _ _ _
    refine vcall (c_abs) T.abs bb_abs ?_
    refine vab_cons ?_ ?_
    refine PE.toB ?_
    refine vop o_sub ?_ ?_
    refine PE.toB ?_
    refine vix i_ix ?_ ?_
    refine PE.toB (ve 0)
    refine PE.toB (ve 2)
    refine PE.toB ?_
    refine vix i_ix ?_ ?_
    refine PE.toB (ve 1)
    refine PE.toB (ve 2)
    refine vab_nil
    refine vab_nil
def c__law_turn_right_1 : Ev → Option (List D) :=
  nLc [7] (nA rg1 (aCons (eA lenD (aCons (eVar 0) aNil)) aNil)) (gN 7) tTrue (eA F__law_apart (aCons (eVar 0) (aCons (e2 addD (eSl slD (eVar 1) (pI (eVar 7)) pN) (eSl slD (eVar 1) pN (pI (eVar 7)))) aNil)))
def den__law_turn_right : Ev → Option Out :=
  sSeq (sSet 3 (xV (eA F_closest_turn (aCons (eVar 0) (aCons (eVar 1) aNil))))) <|
  sSeq (sIf (tOr' (tNo (t1 truD (e1 (isiD' "tuple") (eVar 3)))) (tOr' (t1 isB (e2 neD (eA lenD (aCons (eVar 3) aNil)) (eC (.int 2)))) (tOr' (tNo (t1 truD (eA F__law_is_int (aCons (e2 ixD (eVar 3) (eC (.int 0))) aNil)))) (tNo (t1 truD (eA F__law_is_int (aCons (e2 ixD (eVar 3) (eC (.int 1))) aNil))))))) (sRet (eC (.bool false))) sNil) <|
  sSeq (sSet 4 (xN false c__law_turn_right_1)) <|
  sSeq (sIf (t1 isB (e2 neD (eVar 3) (eTup (aCons (eA minD (aCons (eVar 4) aNil)) (aCons (e2 indexD (eVar 4) (eA minD (aCons (eVar 4) aNil))) aNil))))) (sRet (eC (.bool false))) sNil) <|
  sSeq (sSet 5 (xV (e2 addD (eSl slD (eVar 1) (pI (e2 ixD (eVar 3) (eC (.int 1)))) pN) (eSl slD (eVar 1) pN (pI (e2 ixD (eVar 3) (eC (.int 1)))))))) <|
  sSeq (sSet 6 (xV (e2 addD (eSl slD (eVar 1) (pI (eVar 2)) pN) (eSl slD (eVar 1) pN (pI (eVar 2)))))) <|
  sSeq (sIf (tOr' (t1 isB (e2 neD (e2 ixD (eA F_closest_turn (aCons (eVar 1) (aCons (eVar 0) aNil))) (eC (.int 0))) (e2 ixD (eVar 3) (eC (.int 0))))) (t1 isB (e2 neD (e2 ixD (eA F_closest_turn (aCons (eVar 0) (aCons (eVar 6) aNil))) (eC (.int 0))) (e2 ixD (eVar 3) (eC (.int 0)))))) (sRet (eC (.bool false))) sNil) <|
  sRet (e2 leD (eA F_aligned (aCons (eVar 0) (aCons (eVar 5) aNil))) (e2 ixD (eVar 3) (eC (.int 0))))
def F__law_turn_right : List D → Option D := runD 8 3 den__law_turn_right
theorem fa__law_turn_right (x0 x1 x2 : D) : F__law_turn_right [x0, x1, x2] = (den__law_turn_right [some (.v x0), some (.v x1), some (.v x2), none, none, none, none, none]).bind outV := rfl
theorem ok__law_turn_right {P : Program} {w : World} {K : PySem.W.Frag} {mg : Str → Option Value} {base : Heap} (Df : Defs K mg) (T : Std mg) : FnG P w K mg base 3 "_law_turn_right" ["first", "second", "by"] F__law_turn_right :=
  fng (k := 2) Df.f__law_turn_right sc__law_turn_right (fun f fd F => F.bindsN fun _ _ _ _ _ _ us hl => match us, hl with | [_, _, _], _ => rfl) rfl fun f cdv A outer s0 H E hr => by
    have nd := sc__law_turn_right.nd
    refine vs_cons ?_ ?_
    refine vs_set 3 nd ?_
    refine PE.xv ?_
    refine vcl (ok_closest_turn Df T) hr ?_
    refine va_cons ?_ ?_
    refine ve 0
    refine va_cons ?_ ?_
    refine ve 1
    refine va_nil
    refine vs_cons ?_ ?_
    refine vs_if ?_ ?_ ?_
    refine PW.pt ?_
    refine vw_or ?_ ?_
    refine vt_not ?_
    refine vtru ?_
    refine PE.toB ?_
    refine vis ?_ T.isinstance T.«tuple» bb_tuple
    refine PE.toB (ve 3)
    refine vw_or ?_ ?_
    refine vcmpT (o_ne hr) ?_ ?_
    refine PE.toB ?_
    refine vcall (c_len) T.len bb_len ?_
    refine vab_cons ?_ ?_
    refine PE.toB (ve 3)
    refine vab_nil
    refine PE.toB ?_
    refine vc_int
    refine vw_or ?_ ?_
    refine vt_not ?_
    refine vtru ?_
    refine PE.toB ?_
    refine vcl (ok__law_is_int Df T) hr ?_
    refine va_cons ?_ ?_
    refine vix i_ix ?_ ?_
    refine PE.toB (ve 3)
    refine PE.toB ?_
    refine vc_int
    refine va_nil
    refine vw_or1 ?_
    refine vt_not ?_
    refine vtru ?_
    refine PE.toB ?_
    refine vcl (ok__law_is_int Df T) hr ?_
    refine va_cons ?_ ?_
    refine vix i_ix ?_ ?_
    refine PE.toB (ve 3)
    refine PE.toB ?_
    refine vc_int
    refine va_nil
    refine vs_one ?_
    refine vs_ret ?_
    refine vc_bl
    refine vs_nil
    refine vs_cons ?_ ?_
    refine vs_setLc (is := [7]) [("k", 7)] [7] 4 false rfl nd ?_ ?_ ?_ ?_ ?_
    refine vi_rg1 ?_ T.range
    refine vab_cons ?_ ?_
    refine PE.toB ?_
    refine vcall (c_len) T.len bb_len ?_
    refine vab_cons ?_ ?_
    refine PE.toB (ve 0)
    refine vab_nil
    refine vab_nil
    refine blkOk_by (by kernel_rfl)
    intro _ _ _ _ _
    refine vg 7 nd
    intro _ _ _ _ _
    refine vts_nil
    intro _ _ _ _ _
    refine vcl (ok__law_apart Df T) hr ?_
    refine va_cons ?_ ?_
    refine ve 0
    refine va_cons ?_ ?_
    refine vop o_add ?_ ?_
    refine PE.toB ?_
    refine vslice s_sl ?_ ?_ ?_
    refine PE.toB (ve 1)
    refine vp_some ?_
    refine ve 7
    refine vp_none
    refine PE.toB ?_
    refine vslice s_sl ?_ ?_ ?_
    refine PE.toB (ve 1)
    refine vp_none
    refine vp_some ?_
    refine ve 7
    refine va_nil
    refine vs_cons ?_ ?_
    refine vs_if ?_ ?_ ?_
    refine vcmpT (o_ne hr) ?_ ?_
    refine PE.toB (ve 3)
    refine PE.toB ?_
    refine vtup ?_
    refine va_cons ?_ ?_
    refine vcall (c_min rfl hr) T.min bb_min ?_
    refine vab_cons ?_ ?_
    refine PE.toB (ve 4)
    refine vab_nil
    refine va_cons ?_ ?_
    refine vindex hr ?_ ?_
    refine PE.toB (ve 4)
    refine PE.toB ?_
    refine vcall (c_min rfl hr) T.min bb_min ?_
    refine vab_cons ?_ ?_
    refine PE.toB (ve 4)
    refine vab_nil
    refine va_nil
    refine vs_one ?_
    refine vs_ret ?_
    refine vc_bl
    refine vs_nil
    refine vs_cons ?_ ?_
    refine vs_set 5 nd ?_
    refine PE.xv ?_
    refine vop o_add ?_ ?_
    refine PE.toB ?_
    refine vslice s_sl ?_ ?_ ?_
    refine PE.toB (ve 1)
    refine vp_some ?_
    refine vix i_ix ?_ ?_
    refine PE.toB (ve 3)
    refine PE.toB ?_
    refine vc_int
    refine vp_none
    refine PE.toB ?_
    refine vslice s_sl ?_ ?_ ?_
    refine PE.toB (ve 1)
    refine vp_none
    refine vp_some ?_
    refine vix i_ix ?_ ?_
    refine PE.toB (ve 3)
    refine PE.toB ?_
    refine vc_int
    refine vs_cons ?_ ?_
    refine vs_set 6 nd ?_
    refine PE.xv ?_
    refine vop o_add ?_ ?_
    refine PE.toB ?_
    refine vslice s_sl ?_ ?_ ?_
    refine PE.toB (ve 1)
    refine vp_some ?_
    refine ve 2
    refine vp_none
    refine PE.toB ?_
    refine vslice s_sl ?_ ?_ ?_
    refine PE.toB (ve 1)
    refine vp_none
    refine vp_some ?_
    refine ve 2
    refine vs_cons ?_ ?_
    refine vs_if ?_ ?_ ?_
    refine PW.pt ?_
    refine vw_or ?_ ?_
    refine vcmpT (o_ne hr) ?_ ?_
    refine PE.toB ?_
    refine vix i_ix ?_ ?_
    refine PE.toB ?_
    refine vcl (ok_closest_turn Df T) hr ?_
    refine va_cons ?_ ?_
    refine ve 1
    refine va_cons ?_ ?_
    refine ve 0
    refine va_nil
    refine PE.toB ?_
    refine vc_int
    refine PE.toB ?_
    refine vix i_ix ?_ ?_
    refine PE.toB (ve 3)
    refine PE.toB ?_
    refine vc_int
    refine vw_or1 ?_
    refine vcmpT (o_ne hr) ?_ ?_
    refine PE.toB ?_
    refine vix i_ix ?_ ?_
    refine PE.toB ?_
    refine vcl (ok_closest_turn Df T) hr ?_
    refine va_cons ?_ ?_
    refine ve 0
    refine va_cons ?_ ?_
    refine ve 6
    refine va_nil
    refine PE.toB ?_
    refine vc_int
    refine PE.toB ?_
    refine vix i_ix ?_ ?_
    refine PE.toB (ve 3)
    refine PE.toB ?_
    refine vc_int
    refine vs_one ?_
    refine vs_ret ?_
    refine vc_bl
    refine vs_nil
    refine vs_one ?_
    refine vs_ret ?_
    refine vcmp (o_le hr) ?_ ?_
    refine PE.toB ?_
    refine vcl (ok_aligned Df T) hr ?_
    refine va_cons ?_ ?_
    refine ve 0
    refine va_cons ?_ ?_
    refine ve 5
    refine va_nil
    refine PE.toB ?_
    refine vix i_ix ?_ ?_
    refine PE.toB (ve 3)
    refine PE.toB ?_
    refine vc_int
def c_law_1 : Ev → Option (List D) :=
  nLc [8] (nA rg1 (aCons (e2 addD (eC (.int 1)) (e2 modD (eA intD (aCons (e2 ixD (eVar 1) (eC (.int 0))) aNil)) (eC (.int 8)))) aNil)) (gN 8) tTrue (e2 modD (eA intD (aCons (e2 ixD (eVar 1) (e2 addD (eC (.int 3)) (eVar 8))) aNil)) (eVar 2))
def c_law_2 : Ev → Option (List D) :=
  nLc [8] (nA rg1 (aCons (e2 addD (eC (.int 1)) (e2 modD (eA intD (aCons (e2 ixD (eVar 1) (eC (.int 1))) aNil)) (eC (.int 8)))) aNil)) (gN 8) tTrue (e2 modD (eA intD (aCons (e2 ixD (eVar 1) (e2 addD (eC (.int 11)) (eVar 8))) aNil)) (eVar 2))
def c_law_3 : Ev → Option (List D) :=
  nLc [9] (nA rg1 (aCons (eC (.int 13)) aNil)) (gN 9) (t1 isB (e2 eqD (e2 modD (eA intD (aCons (e2 ixD (eVar 1) (e2 addD (eC (.int 40)) (eVar 9))) aNil)) (eC (.int 2))) (eC (.int 0)))) (eVar 9)
def c_law_4 : Ev → Option (List D) :=
  nLc [9] (nA rg1 (aCons (eC (.int 13)) aNil)) (gN 9) (t1 isB (e2 eqD (e2 modD (eA intD (aCons (e2 ixD (eVar 1) (e2 addD (eC (.int 53)) (eVar 9))) aNil)) (eC (.int 3))) (eC (.int 0)))) (eVar 9)
def den_law : Ev → Option Out :=
  sSeq (sSet 1 (xV (eA F__law_row (aCons (eVar 0) (aCons (eC (.int 66)) aNil))))) <|
  sSeq (sSet 2 (xV (e2 ixD (eTup (aCons (eC (.int 2)) (aCons (eC (.int 4)) (aCons (eC (.int 10)) (aCons (eC (.int 10)) aNil))))) (e2 modD (eA intD (aCons (e2 ixD (eVar 1) (eC (.int 2))) aNil)) (eC (.int 4)))))) <|
  sSeq (sSet 3 (xV (eA tupOfD (aCons (eLst c_law_1) aNil)))) <|
  sSeq (sSet 4 (xV (eA tupOfD (aCons (eLst c_law_2) aNil)))) <|
  sSeq (sIf (t1 isB (e2 eqD (e2 modD (eA intD (aCons (e2 ixD (eVar 1) (eC (.int 19))) aNil)) (eC (.int 3))) (eC (.int 0)))) (sSet 4 (xV (eSl slD (eA F__law_repeated (aCons (eVar 1) (aCons (eC (.int 20)) (aCons (eVar 3) aNil)))) pN (pI (eC (.int 8)))))) sNil) <|
  sSeq (sIf (tOr' (tNo (t1 truD (eA F__law_way_right (aCons (eVar 3) (aCons (eVar 4) aNil))))) (tNo (t1 truD (eA F__law_moved_right (aCons (eVar 1) (aCons (eVar 3) (aCons (eVar 4) aNil))))))) (sRet (eC (.bool false))) sNil) <|
  sSeq (sSet 5 (xV (eA minD (aCons (eA lenD (aCons (eVar 3) aNil)) (aCons (eA lenD (aCons (eVar 4) aNil)) aNil))))) <|
  sSeq (sIf (tNo (t1 truD (eA F__law_turn_right (aCons (eSl slD (eVar 3) pN (pI (eVar 5))) (aCons (eSl slD (eVar 4) pN (pI (eVar 5))) (aCons (e2 modD (eA intD (aCons (e2 ixD (eVar 1) (eC (.int 30))) aNil)) (eVar 5)) aNil)))))) (sRet (eC (.bool false))) sNil) <|
  sSeq (sSet 6 (xV (eSl slD (eA tupOfD (aCons (eLst c_law_3) aNil)) pN (pI (eC (.int 8)))))) <|
  sSeq (sSet 7 (xV (eSl slD (eA tupOfD (aCons (eLst c_law_4) aNil)) pN (pI (eA lenD (aCons (eVar 6) aNil)))))) <|
  sRet (eOr (e2 eqD (eA lenD (aCons (eVar 7) aNil)) (eC (.int 0))) (e2 leD (eA F_aligned (aCons (eVar 6) (aCons (eVar 7) aNil))) (eA F_flow_swaps (aCons (eVar 6) (aCons (eVar 7) aNil)))))
def F_law : List D → Option D := runD 10 1 den_law
theorem fa_law (x0 : D) : F_law [x0] = (den_law [some (.v x0), none, none, none, none, none, none, none, none, none]).bind outV := rfl
theorem body_law {P : Program} {w : World} {K : PySem.W.Frag} {mg : Str → Option Value} {base : Heap} (Df : Defs K mg) (T : Std mg) (f : Addr) (cdv : Value) (A : Around) (outer : List Env) (s0 : Shared) (H : Hp) (E : XK) (hr : Room 15 (A.deeper (envOfC ("law" : Str) (defScope s_law) s0.heap.objs.size f cdv))) :
    PVSs (cxOf CX0 P w K mg base N_law ("law" : Str) (defScope s_law) f cdv A outer s0 H E).nox (defBody s_law) den_law := by
  have nd := sc_law.nd
  refine vs_cons ?_ ?_
  refine vs_set 1 nd ?_
  refine PE.xv ?_
  refine vcl (ok__law_row Df T) hr ?_
  refine va_cons ?_ ?_
  refine ve 0
  refine va_cons ?_ ?_
  refine vc_int
  refine va_nil
  refine vs_cons ?_ ?_
  refine vs_set 2 nd ?_
  refine PE.xv ?_
  refine vix i_ix ?_ ?_
  refine PE.toB ?_
  refine vtup ?_
  refine va_cons ?_ ?_
  refine vc_int
  refine va_cons ?_ ?_
  refine vc_int
  refine va_cons ?_ ?_
  refine vc_int
  refine va_cons ?_ ?_
  refine vc_int
  refine va_nil
  refine PE.toB ?_
  refine vop o_mod ?_ ?_
  refine PE.toB ?_
  refine vty c_int T.int bb_int ?_
  refine vab_cons ?_ ?_
  refine PE.toB ?_
  refine vix i_ix ?_ ?_
  refine PE.toB (ve 1)
  refine PE.toB ?_
  refine vc_int
  refine vab_nil
  refine PE.toB ?_
  refine vc_int
  refine vs_cons ?_ ?_
  refine vs_set 3 nd ?_
  refine PE.xv ?_
  refine vty c_tup T.tuple bb_tuple ?_
  refine vab_cons ?_ ?_
  refine PE.nB ?_
  refine vlc (is := [8]) [("k", 8)] [8] rfl nd ?_ ?_ ?_ ?_ ?_
  refine vi_rg1 ?_ T.range
  refine vab_cons ?_ ?_
  refine PE.toB ?_
  refine vop o_add ?_ ?_
  refine PE.toB ?_
  refine vc_int
  refine PE.toB ?_
  refine vop o_mod ?_ ?_
  refine PE.toB ?_
  refine vty c_int T.int bb_int ?_
  refine vab_cons ?_ ?_
  refine PE.toB ?_
  refine vix i_ix ?_ ?_
  refine PE.toB (ve 1)
  refine PE.toB ?_
  refine vc_int
  refine vab_nil
  refine PE.toB ?_
  refine vc_int
  refine vab_nil
  refine blkOk_by (by kernel_rfl)
  intro _ _ _ _ _
  refine vg 8 nd
  intro _ _ _ _ _
  refine vts_nil
  intro _ _ _ _ _
  refine vop o_mod ?_ ?_
  refine PE.toB ?_
  refine vty c_int T.int bb_int ?_
  refine vab_cons ?_ ?_
  refine PE.toB ?_
  refine vix i_ix ?_ ?_
  refine PE.toB (ve 1)
  refine PE.toB ?_
  refine vop o_add ?_ ?_
  refine PE.toB ?_
  refine vc_int
  refine PE.toB (ve 8)
  refine vab_nil
  refine PE.toB (ve 2)
  refine vab_nil
  refine vs_cons ?_ ?_
  refine vs_set 4 nd ?_
  refine PE.xv ?_
  refine vty c_tup T.tuple bb_tuple ?_
  refine vab_cons ?_ ?_
  refine PE.nB ?_
  refine vlc (is := [8]) [("k", 8)] [8] rfl nd ?_ ?_ ?_ ?_ ?_
  refine vi_rg1 ?_ T.range
  refine vab_cons ?_ ?_
  refine PE.toB ?_
  refine vop o_add ?_ ?_
  refine PE.toB ?_
  refine vc_int
  refine PE.toB ?_
  refine vop o_mod ?_ ?_
  refine PE.toB ?_
  refine vty c_int T.int bb_int ?_
  refine vab_cons ?_ ?_
  refine PE.toB ?_
  refine vix i_ix ?_ ?_
  refine PE.toB (ve 1)
  refine PE.toB ?_
  refine vc_int
  refine vab_nil
  refine PE.toB ?_
  refine vc_int
  refine vab_nil
  refine blkOk_by (by kernel_rfl)
  intro _ _ _ _ _
  refine vg 8 nd
  intro _ _ _ _ _
  refine vts_nil
  intro _ _ _ _ _
  refine vop o_mod ?_ ?_
  refine PE.toB ?_
  refine vty c_int T.int bb_int ?_
  refine vab_cons ?_ ?_
  refine PE.toB ?_
  refine vix i_ix ?_ ?_
  refine PE.toB (ve 1)
  refine PE.toB ?_
  refine vop o_add ?_ ?_
  refine PE.toB ?_
  refine vc_int
  refine PE.toB (ve 8)
  refine vab_nil
  refine PE.toB (ve 2)
  refine vab_nil
  refine vs_cons ?_ ?_
  refine vs_if ?_ ?_ ?_
  refine vcmpT (o_eq hr) ?_ ?_
  refine PE.toB ?_
  refine vop o_mod ?_ ?_
  refine PE.toB ?_
  refine vty c_int T.int bb_int ?_
  refine vab_cons ?_ ?_
  refine PE.toB ?_
  refine vix i_ix ?_ ?_
  refine PE.toB (ve 1)
  refine PE.toB ?_
  refine vc_int
  refine vab_nil
  refine PE.toB ?_
  refine vc_int
  refine PE.toB ?_
  refine vc_int
  refine vs_one ?_
  refine vs_set 4 nd ?_
  refine PE.xv ?_
  refine vslice s_sl ?_ ?_ ?_
  refine PE.toB ?_
  refine vcl (ok__law_repeated Df T) hr ?_
  refine va_cons ?_ ?_
  refine ve 1
  refine va_cons ?_ ?_
  refine vc_int
  refine va_cons ?_ ?_
  refine ve 3
  refine va_nil
  refine vp_none
  refine vp_some ?_
  refine vc_int
  refine vs_nil
  refine vs_cons ?_ ?_
  refine vs_if ?_ ?_ ?_
  refine PW.pt ?_
  refine vw_or ?_ ?_
  refine vt_not ?_
  refine vtru ?_
  refine PE.toB ?_
  refine vcl (ok__law_way_right Df T) hr ?_
  refine va_cons ?_ ?_
  refine ve 3
  refine va_cons ?_ ?_
  refine ve 4
  refine va_nil
  refine vw_or1 ?_
  refine vt_not ?_
  refine vtru ?_
  refine PE.toB ?_
  refine vcl (ok__law_moved_right Df T) hr ?_
  refine va_cons ?_ ?_
  refine ve 1
  refine va_cons ?_ ?_
  refine ve 3
  refine va_cons ?_ ?_
  refine ve 4
  refine va_nil
  refine vs_one ?_
  refine vs_ret ?_
  refine vc_bl
  refine vs_nil
  refine vs_cons ?_ ?_
  refine vs_set 5 nd ?_
  refine PE.xv ?_
  refine vcall (c_min rfl hr) T.min bb_min ?_
  refine vab_cons ?_ ?_
  refine PE.toB ?_
  refine vcall (c_len) T.len bb_len ?_
  refine vab_cons ?_ ?_
  refine PE.toB (ve 3)
  refine vab_nil
  refine vab_cons ?_ ?_
  refine PE.toB ?_
  refine vcall (c_len) T.len bb_len ?_
  refine vab_cons ?_ ?_
  refine PE.toB (ve 4)
  refine vab_nil
  refine vab_nil
  refine vs_cons ?_ ?_
  refine vs_if ?_ ?_ ?_
  refine vt_not ?_
  refine vtru ?_
  refine PE.toB ?_
  refine vcl (ok__law_turn_right Df T) hr ?_
  refine va_cons ?_ ?_
  refine vslice s_sl ?_ ?_ ?_
  refine PE.toB (ve 3)
  refine vp_none
  refine vp_some ?_
  refine ve 5
  refine va_cons ?_ ?_
  refine vslice s_sl ?_ ?_ ?_
  refine PE.toB (ve 4)
  refine vp_none
  refine vp_some ?_
  refine ve 5
  refine va_cons ?_ ?_
  refine vop o_mod ?_ ?_
  refine PE.toB ?_
  refine vty c_int T.int bb_int ?_
  refine vab_cons ?_ ?_
  refine PE.toB ?_
  refine vix i_ix ?_ ?_
  refine PE.toB (ve 1)
  refine PE.toB ?_
  refine vc_int
  refine vab_nil
  refine PE.toB (ve 5)
  refine va_nil
  refine vs_one ?_
  refine vs_ret ?_
  refine vc_bl
  refine vs_nil
  refine vs_cons ?_ ?_
  refine vs_set 6 nd ?_
  refine PE.xv ?_
  refine vslice s_sl ?_ ?_ ?_
  refine PE.toB ?_
  refine vty c_tup T.tuple bb_tuple ?_
  refine vab_cons ?_ ?_
  refine PE.nB ?_
  refine vlc (is := [9]) [("place", 9)] [9] rfl nd ?_ ?_ ?_ ?_ ?_
  refine vi_rg1 ?_ T.range
  refine vab_cons ?_ ?_
  refine PE.toB ?_
  refine vc_int
  refine vab_nil
  refine blkOk_by (by kernel_rfl)
  intro _ _ _ _ _
  refine vg 9 nd
  intro _ _ _ _ _
  refine vts_one ?_
  refine vcmpT (o_eq hr) ?_ ?_
  refine PE.toB ?_
  refine vop o_mod ?_ ?_
  refine PE.toB ?_
  refine vty c_int T.int bb_int ?_
  refine vab_cons ?_ ?_
  refine PE.toB ?_
  refine vix i_ix ?_ ?_
  refine PE.toB (ve 1)
  refine PE.toB ?_
  refine vop o_add ?_ ?_
  refine PE.toB ?_
  refine vc_int
  refine PE.toB (ve 9)
  refine vab_nil
  refine PE.toB ?_
  refine vc_int
  refine PE.toB ?_
  refine vc_int
  intro _ _ _ _ _
  refine ve 9
  refine vab_nil
  refine vp_none
  refine vp_some ?_
  refine vc_int
  refine vs_cons ?_ ?_
  refine vs_set 7 nd ?_
  refine PE.xv ?_
  refine vslice s_sl ?_ ?_ ?_
  refine PE.toB ?_
  refine vty c_tup T.tuple bb_tuple ?_
  refine vab_cons ?_ ?_
  refine PE.nB ?_
  refine vlc (is := [9]) [("place", 9)] [9] rfl nd ?_ ?_ ?_ ?_ ?_
  refine vi_rg1 ?_ T.range
  refine vab_cons ?_ ?_
  refine PE.toB ?_
  refine vc_int
  refine vab_nil
  refine blkOk_by (by kernel_rfl)
  intro _ _ _ _ _
  refine vg 9 nd
  intro _ _ _ _ _
  refine vts_one ?_
  refine vcmpT (o_eq hr) ?_ ?_
  refine PE.toB ?_
  refine vop o_mod ?_ ?_
  refine PE.toB ?_
  refine vty c_int T.int bb_int ?_
  refine vab_cons ?_ ?_
  refine PE.toB ?_
  refine vix i_ix ?_ ?_
  refine PE.toB (ve 1)
  refine PE.toB ?_
  refine vop o_add ?_ ?_
  refine PE.toB ?_
  refine vc_int
  refine PE.toB (ve 9)
  refine vab_nil
  refine PE.toB ?_
  refine vc_int
  refine PE.toB ?_
  refine vc_int
  intro _ _ _ _ _
  refine ve 9
  refine vab_nil
  refine vp_none
  refine vp_some ?_
  refine vcall (c_len) T.len bb_len ?_
  refine vab_cons ?_ ?_
  refine PE.toB (ve 6)
  refine vab_nil
  refine vs_one ?_
  refine vs_ret ?_
  refine ve_or ?_ ?_
  refine vcmp (o_eq hr) ?_ ?_
  refine PE.toB ?_
  refine vcall (c_len) T.len bb_len ?_
  refine vab_cons ?_ ?_
  refine PE.toB (ve 7)
  refine vab_nil
  refine PE.toB ?_
  refine vc_int
  refine ve_one ?_
  refine vcmp (o_le hr) ?_ ?_
  refine PE.toB ?_
  refine vcl (ok_aligned Df T) hr ?_
  refine va_cons ?_ ?_
  refine ve 6
  refine va_cons ?_ ?_
  refine ve 7
  refine va_nil
  refine PE.toB ?_
  refine vcl (ok_flow_swaps Df T) hr ?_
  refine va_cons ?_ ?_
  refine ve 6
  refine va_cons ?_ ?_
  refine ve 7
  refine va_nil
end K75
end

section
set_option maxRecDepth 100000
set_option maxHeartbeats 4000000
namespace K75
open PySem L2 PV PVL
/-! ### ways -/
/-- the least sum from a, b steps before the end -/
def Dt (u : Nat → Nat → Int) : Nat → Nat → Int
  | 0, 0 => u 0 0
  | 0, b + 1 => u 0 (b + 1) + Dt u 0 b
  | a + 1, 0 => u (a + 1) 0 + Dt u a 0
  | a + 1, b + 1 => u (a + 1) (b + 1) + min (min (Dt u (a + 1) b) (Dt u a (b + 1))) (Dt u a b)
/-- the least sum of a way from i, j to p, q -/
def S (w : Nat → Nat → Int) (p q i j : Nat) : Int := Dt (fun a b => w (p - a) (q - b)) (p - i) (q - j)
theorem Dt_congr {u v : Nat → Nat → Int} : ∀ (a b : Nat), (∀ x y, x ≤ a → y ≤ b → u x y = v x y) → Dt u a b = Dt v a b
  | 0, 0, h => by
    simp only [Dt]
    exact h 0 0 (Nat.le_refl _) (Nat.le_refl _)
  | 0, b + 1, h => by
    simp only [Dt]
    rw [h 0 (b + 1) (Nat.le_refl _) (Nat.le_refl _), Dt_congr 0 b fun x y hx hy => h x y hx (by omega)]
  | a + 1, 0, h => by
    simp only [Dt]
    rw [h (a + 1) 0 (Nat.le_refl _) (Nat.le_refl _), Dt_congr a 0 fun x y hx hy => h x y (by omega) hy]
  | a + 1, b + 1, h => by
    simp only [Dt]
    rw [h (a + 1) (b + 1) (Nat.le_refl _) (Nat.le_refl _), Dt_congr (a + 1) b fun x y hx hy => h x y hx (by omega), Dt_congr a (b + 1) fun x y hx hy => h x y (by omega) hy, Dt_congr a b fun x y hx hy => h x y (by omega) (by omega)]
theorem S_end (w : Nat → Nat → Int) (p q : Nat) : S w p q p q = w p q := by unfold S; simp [Dt]
theorem S_row {w : Nat → Nat → Int} {p q j : Nat} (h : j < q) : S w p q p j = w p j + S w p q p (j + 1) := by
  unfold S
  obtain ⟨b, hb⟩ : ∃ b, q - j = b + 1 := ⟨q - j - 1, by omega⟩
  rw [Nat.sub_self, hb, show q - (j + 1) = b by omega]
  simp only [Dt]
  rw [show p - 0 = p by omega, show q - (b + 1) = j by omega]
theorem S_col {w : Nat → Nat → Int} {p q i : Nat} (h : i < p) : S w p q i q = w i q + S w p q (i + 1) q := by
  unfold S
  obtain ⟨b, hb⟩ : ∃ b, p - i = b + 1 := ⟨p - i - 1, by omega⟩
  rw [Nat.sub_self, hb, show p - (i + 1) = b by omega]
  simp only [Dt]
  rw [show q - 0 = q by omega, show p - (b + 1) = i by omega]
theorem S_in {w : Nat → Nat → Int} {p q i j : Nat} (h : i < p) (h2 : j < q) : S w p q i j = w i j + min (min (S w p q i (j + 1)) (S w p q (i + 1) j)) (S w p q (i + 1) (j + 1)) := by
  unfold S
  obtain ⟨a, ha⟩ : ∃ b, p - i = b + 1 := ⟨p - i - 1, by omega⟩
  obtain ⟨b, hb⟩ : ∃ b, q - j = b + 1 := ⟨q - j - 1, by omega⟩
  rw [ha, hb, show p - (i + 1) = a by omega, show q - (j + 1) = b by omega]
  simp only [Dt]
  rw [show p - (a + 1) = i by omega, show q - (b + 1) = j by omega]
/-- where a way goes on -/
def nx (p q : Nat) (k : List Int) : List (List Int) := match k with
  | [i, j] => [[i, j + 1], [i + 1, j], [i + 1, j + 1]].filter fun z => decide (z.getD 0 0 ≤ (p : Int)) && decide (z.getD 1 0 ≤ (q : Int))
  | _ => []
/-- the value at a place -/
def vS (w : Nat → Nat → Int) (p q : Nat) (k : List Int) : Int := S w p q (k.getD 0 0).toNat (k.getD 1 0).toNat
/-- one step law for all places -/
theorem S_step (w : Nat → Nat → Int) {p q i j : Nat} (hi : i ≤ p) (hj : j ≤ q) : S w p q i j = w i j + (if (nx p q [(i : Int), (j : Int)]).length = 0 then 0 else mn ((nx p q [(i : Int), (j : Int)]).map (vS w p q))) := by
  unfold nx
  have c1 : ((i : Int) + 1).toNat = i + 1 := by omega
  have c2 : ((j : Int) + 1).toNat = j + 1 := by omega
  have c3 : ((i : Int)).toNat = i := by omega
  have c4 : ((j : Int)).toNat = j := by omega
  by_cases e1 : i = p
  · by_cases e2 : j = q
    · subst e1 e2
      have f1 : ¬ ((i : Int) + 1 ≤ (i : Int)) := by omega
      have f2 : ¬ ((j : Int) + 1 ≤ (j : Int)) := by omega
      simp [List.filter, f1, f2, S_end]
    · subst e1
      have f1 : ¬ ((i : Int) + 1 ≤ (i : Int)) := by omega
      have f2 : (j : Int) + 1 ≤ (q : Int) := by omega
      rw [S_row (by omega)]
      simp [List.filter, f1, f2, mn, vS, c1, c2, c3, c4]
  · by_cases e2 : j = q
    · subst e2
      have f1 : (i : Int) + 1 ≤ (p : Int) := by omega
      have f2 : ¬ ((j : Int) + 1 ≤ (j : Int)) := by omega
      have f3 : (j : Int) ≤ (j : Int) := by omega
      rw [S_col (by omega)]
      simp [List.filter, f1, f2, mn, vS, c1, c2, c3, c4]
    · have f1 : (i : Int) + 1 ≤ (p : Int) := by omega
      have f2 : (j : Int) + 1 ≤ (q : Int) := by omega
      have f3 : (i : Int) ≤ (p : Int) := by omega
      have f4 : (j : Int) ≤ (q : Int) := by omega
      rw [S_in (by omega) (by omega)]
      simp [List.filter, f1, f2, f3, f4, mn, vS, c1, c2, c3, c4]
/-- a way and its sum -/
inductive Way (w : Nat → Nat → Int) (p q : Nat) : Nat → Nat → Int → Prop
  | stop : Way w p q p q (w p q)
  | right {i j : Nat} {c : Int} : Way w p q i (j + 1) c → Way w p q i j (w i j + c)
  | down {i j : Nat} {c : Int} : Way w p q (i + 1) j c → Way w p q i j (w i j + c)
  | both {i j : Nat} {c : Int} : Way w p q (i + 1) (j + 1) c → Way w p q i j (w i j + c)
theorem Way.le {w : Nat → Nat → Int} {p q i j : Nat} {c : Int} (h : Way w p q i j c) : i ≤ p ∧ j ≤ q := by
  induction h with
  | stop => exact ⟨Nat.le_refl _, Nat.le_refl _⟩
  | right _ ih => omega
  | down _ ih => omega
  | both _ ih => omega
theorem Way.min {w : Nat → Nat → Int} {p q i j : Nat} {c : Int} (h : Way w p q i j c) : S w p q i j ≤ c := by
  induction h with
  | stop => rw [S_end]; omega
  | @right i j c h ih =>
    have := h.le
    by_cases e : i = p
    · subst e; rw [S_row (by omega)]; omega
    · rw [S_in (by omega) (by omega)]; omega
  | @down i j c h ih =>
    have := h.le
    by_cases e : j = q
    · subst e; rw [S_col (by omega)]; omega
    · rw [S_in (by omega) (by omega)]; omega
  | @both i j c h ih =>
    have := h.le
    rw [S_in (by omega) (by omega)]; omega
theorem way_ex (w : Nat → Nat → Int) (p q : Nat) : ∀ (n i j : Nat), p - i + (q - j) ≤ n → i ≤ p → j ≤ q → Way w p q i j (S w p q i j)
  | n, i, j, hn, hi, hj => by
    by_cases e1 : i = p
    · by_cases e2 : j = q
      · subst e1 e2; rw [S_end]; exact .stop
      · subst e1
        cases n with
        | zero => omega
        | succ n => rw [S_row (by omega)]; exact .right (way_ex w i q n i (j + 1) (by omega) hi (by omega))
    · by_cases e2 : j = q
      · subst e2
        cases n with
        | zero => omega
        | succ n => rw [S_col (by omega)]; exact .down (way_ex w p j n (i + 1) j (by omega) (by omega) hj)
      · cases n with
        | zero => omega
        | succ n =>
          rw [S_in (by omega) (by omega)]
          have h1 := way_ex w p q n i (j + 1) (by omega) hi (by omega)
          have h2 := way_ex w p q n (i + 1) j (by omega) (by omega) hj
          have h3 := way_ex w p q n (i + 1) (j + 1) (by omega) (by omega) (by omega)
          rcases (by omega : min (min (S w p q i (j + 1)) (S w p q (i + 1) j)) (S w p q (i + 1) (j + 1)) = S w p q i (j + 1) ∨ min (min (S w p q i (j + 1)) (S w p q (i + 1) j)) (S w p q (i + 1) (j + 1)) = S w p q (i + 1) j ∨ min (min (S w p q i (j + 1)) (S w p q (i + 1) j)) (S w p q (i + 1) (j + 1)) = S w p q (i + 1) (j + 1)) with e | e | e <;> rw [e]
          · exact .right h1
          · exact .down h2
          · exact .both h3
theorem S_way (w : Nat → Nat → Int) {p q i j : Nat} (hi : i ≤ p) (hj : j ≤ q) : Way w p q i j (S w p q i j) := way_ex w p q _ i j (Nat.le_refl _) hi hj
/-- two ways, one behind the other -/
theorem Way.join {w : Nat → Nat → Int} {p q i j a b : Nat} {c d : Int} (h : Way w i j a b c) (k : Way w p q i j d) : Way w p q a b (c + d - w i j) := by
  induction h with
  | stop =>
    have : w i j + d - w i j = d := by omega
    rw [this]; exact k
  | @right x y c h ih =>
    have : w x y + c + d - w i j = w x y + (c + d - w i j) := by omega
    rw [this]; exact .right ih
  | @down x y c h ih =>
    have : w x y + c + d - w i j = w x y + (c + d - w i j) := by omega
    rw [this]; exact .down ih
  | @both x y c h ih =>
    have : w x y + c + d - w i j = w x y + (c + d - w i j) := by omega
    rw [this]; exact .both ih
/-- never less than the whole -/
theorem S_through (w : Nat → Nat → Int) {p q i j : Nat} (hi : i ≤ p) (hj : j ≤ q) : S w p q 0 0 ≤ S w i j 0 0 + S w p q i j - w i j :=
  ((S_way w (Nat.zero_le _) (Nat.zero_le _)).join (S_way w hi hj)).min
end K75
end

section
set_option maxRecDepth 100000
set_option maxHeartbeats 4000000
namespace K75
open PySem L2 PV PVL
def ab (x : Int) : Int := if x < 0 then -x else x
def wf (f s : List Int) (i j : Nat) : Int := ab (f.getD i 0 - s.getD j 0)
theorem rg3_down {n : Nat} (h : n < 128) : rg3 [.int ((n : Int) - 1), .int (-1), .int (-1)] = some ((List.range n).map fun (k : Nat) => .int ((n : Int) - 1 - (k : Int))) := by
  have h1 : ∀ n, n < 128 → ((-1 : Int) ≠ 0 ∧ (-1 : Int).natAbs < 1073741824 ∧ Builtin.Range.small (((n : Nat) : Int) - 1) (-1) (-1) = true ∧ 0 ≤ Builtin.Range.rangeSize (((n : Nat) : Int) - 1) (-1) (-1)) ∧ (Builtin.Range.rangeSize (((n : Nat) : Int) - 1) (-1) (-1)).toNat = n := by decide +kernel
  obtain ⟨h2, h3⟩ := h1 n h
  rw [rg3_if, if_pos h2, h3]
  congr 1
  unfold rngC
  refine List.map_congr_left fun k _ => ?_
  congr 1
  omega
/-- the places told so far -/
def Kp (m n a b : Nat) : List (List Int) := ((List.range a).flatMap fun (x : Nat) => (List.range n).map fun (y : Nat) => [(m : Int) - 1 - (x : Int), (n : Int) - 1 - (y : Int)]) ++ (List.range b).map fun (y : Nat) => [(m : Int) - 1 - (a : Int), (n : Int) - 1 - (y : Int)]
theorem memK {m n a b : Nat} (hb : b ≤ n) {x y : Int} : [x, y] ∈ Kp m n a b ↔ ((m : Int) - 1 - a < x ∧ x ≤ (m : Int) - 1 ∧ 0 ≤ y ∧ y ≤ (n : Int) - 1) ∨ (x = (m : Int) - 1 - a ∧ (n : Int) - 1 - b < y ∧ y ≤ (n : Int) - 1) := by
  unfold Kp
  rw [List.mem_append, List.mem_flatMap, List.mem_map]
  constructor
  · rintro (⟨u, hu, hv⟩ | ⟨v, hv, e⟩)
    · obtain ⟨v, hv, e⟩ := List.mem_map.mp hv
      have := List.mem_range.mp hu
      have := List.mem_range.mp hv
      simp only [List.cons.injEq, and_true] at e
      left; omega
    · have := List.mem_range.mp hv
      simp only [List.cons.injEq, and_true] at e
      right; omega
  · rintro (⟨h1, h2, h3, h4⟩ | ⟨h1, h2, h3⟩)
    · refine .inl ⟨((m : Int) - 1 - x).toNat, List.mem_range.mpr (by omega), List.mem_map.mpr ⟨((n : Int) - 1 - y).toNat, List.mem_range.mpr (by omega), ?_⟩⟩
      simp only [List.cons.injEq, and_true]; omega
    · refine .inr ⟨((n : Int) - 1 - y).toNat, List.mem_range.mpr (by omega), ?_⟩
      simp only [List.cons.injEq, and_true]; omega
theorem Kp_len (m n a b : Nat) : (Kp m n a b).length = a * n + b := by
  unfold Kp
  rw [List.length_append, List.length_map, List.length_range, List.length_flatMap]
  congr 1
  simp only [List.length_map, List.length_range]
  induction a with
  | zero => simp
  | succ a ih => rw [List.range_succ, List.map_append, List.sum_append, ih, Nat.succ_mul]; simp
theorem Kp_b (m n a b : Nat) : Kp m n a (b + 1) = Kp m n a b ++ [[(m : Int) - 1 - (a : Int), (n : Int) - 1 - (b : Int)]] := by
  unfold Kp
  rw [List.range_succ, List.map_append, List.append_assoc]; rfl
theorem Kp_a (m n a : Nat) : Kp m n (a + 1) 0 = Kp m n a n := by
  unfold Kp
  rw [List.range_succ, List.flatMap_append]; simp
/-- the table's values -/
def vT (f s : List Int) (k : List Int) : D := .int (vS (wf f s) (f.length - 1) (s.length - 1) k)
def Tb (f s : List Int) (a b : Nat) : List (D × D) := kT (Kp f.length s.length a b) (vT f s)
theorem cell_ap {f s : List Int} (h1 : f.length < 128) (h2 : s.length < 128) {a b : Nat} (ha : a < f.length) (hb : b < s.length) :
    b_steps_table_1 [some (.v (iT f)), some (.v (iT s)), some (.v (.int (f.length : Int))), some (.v (.int (s.length : Int))), some (.dic true (Tb f s a b)), some (.v (.int ((f.length : Int) - 1 - (a : Int)))), some (.v (.int ((s.length : Int) - 1 - (b : Int)))), none, none] =
      some (.nx [some (.v (iT f)), some (.v (iT s)), some (.v (.int (f.length : Int))), some (.v (.int (s.length : Int))), some (.dic true (Tb f s a (b + 1))), some (.v (.int ((f.length : Int) - 1 - (a : Int)))), some (.v (.int ((s.length : Int) - 1 - (b : Int)))), some (.v (.list ((nx (f.length - 1) (s.length - 1) [(f.length : Int) - 1 - (a : Int), (s.length : Int) - 1 - (b : Int)]).map (vT f s)))), none]) := by
  obtain ⟨i, hi⟩ : ∃ i : Nat, (f.length : Int) - 1 - (a : Int) = (i : Int) := ⟨f.length - 1 - a, by omega⟩
  obtain ⟨j, hj⟩ : ∃ j : Nat, (s.length : Int) - 1 - (b : Int) = (j : Int) := ⟨s.length - 1 - b, by omega⟩
  have hlen : (Kp f.length s.length a b).length ≤ 1000000 := by
    rw [Kp_len]
    have := Nat.mul_le_mul (show a ≤ 127 by omega) (show s.length ≤ 127 by omega)
    omega
  have hc : c_steps_table_1 [some (.v (iT f)), some (.v (iT s)), some (.v (.int (f.length : Int))), some (.v (.int (s.length : Int))), some (.dic true (Tb f s a b)), some (.v (.int (i : Int))), some (.v (.int (j : Int))), none, none] = some ((nx (f.length - 1) (s.length - 1) [(i : Int), (j : Int)]).map (vT f s)) := by
    unfold c_steps_table_1
    have e : nx (f.length - 1) (s.length - 1) [(i : Int), (j : Int)] = ([[(i : Int), (j : Int) + 1], [(i : Int) + 1, (j : Int)], [(i : Int) + 1, (j : Int) + 1]] : List (List Int)).filter fun z => decide (z ∈ Kp f.length s.length a b) := by
      unfold nx
      refine List.filter_congr fun z hz => ?_
      simp only [List.mem_cons, List.not_mem_nil, or_false] at hz
      rw [← Bool.decide_and]
      rcases hz with rfl | rfl | rfl
      · refine decide_eq_decide.mpr (Iff.trans ?_ (memK (by omega)).symm)
        simp only [List.getD_cons_zero, List.getD_cons_succ]; omega
      · refine decide_eq_decide.mpr (Iff.trans ?_ (memK (by omega)).symm)
        simp only [List.getD_cons_zero, List.getD_cons_succ]; omega
      · refine decide_eq_decide.mpr (Iff.trans ?_ (memK (by omega)).symm)
        simp only [List.getD_cons_zero, List.getD_cons_succ]; omega
    rw [e]
    refine compLF (f := iT) (h := vT f s) (p := fun z => decide (z ∈ Kp f.length s.length a b)) (xs := [[(i : Int), (j : Int) + 1], [(i : Int) + 1, (j : Int)], [(i : Int) + 1, (j : Int) + 1]]) ?_ (by simp) (fun z hz => ?_) fun z hz hp => ?_
    · simp only [gt_z, gt_s, st_z, st_s, fgs_n, fgs_c, eVar_z, eVar_s, bVar_zv, bVar_zo, bVar_s, eC_ap, e2_ap, e1_ap, aNil_ap, aCons_ap, eTup_ap, eA_ap, nA_ap, eLst_ap, nLst_ap, n2_ap, eSl_ap, nSl_ap, pN_ap, pI_ap, isI_int, isB_bl, t1_ap, tAn_ap, tOr_ap, tNo_ap, eAn_ap, eOr_ap, eIf_ap, eCh_ap, tTrue_ap, nSS_ap, sNil_ap, sSeq_ap, oN_nx, oN_rt, oN_bk, oN_ct, outV_rt, outV_nx, sRet_ap, sIf_ap, sPre_ap, xV_ap, xO_ap, xN_t, xN_f, sSet_ap, sPar_ap, sPar3_ap, sAsg_ap, sAug_ap, sApp_ap, sExt_ap, isO_o, lstD_l, gN_ap, gsNil_ap, gsCons_ap, gT_ap, gLen_ap, setIx_ap, set2_ap', frz_z, frz_s, sFor_ap, sWhile_ap, sBrk_ap, sCnt_ap, addD_i, catLD_l, iaddD_i, subD_i, negD_i, ltD_i, leD_i, gtD_i, geD_i, truD_b, truD_i, truD_n, truD_l, truD_t, notD_b, isD_n, isntD_n, isD_b, isntD_b, isNonD_i, isNonD_b, isNonD_n, isNonD_t, isNonD_l, intD_i, intD_b, lenD_l, lenD_t, tupOfD_l, tupOfD_t, lstOfD_l, lstOfD_t, ixD_l, ixD_t, slD_l, slD_t, slLD_l, iSeq_ap, seqD_l, seqD_t, eqD_i, neD_i, nR1_ap, nR2_ap, eTp_ap, enD_l, enD_t, tup0, tup1, tup2, tup3, tup4, lst0, lst1, lst2, len2, len3, bq00, bq10, bq01, bq11, emp_c, emp_n, emp_cc, emp_nn, decide_true, decide_false, if_true, if_false, Bool.false_eq_true, some_bind, some_map, if_tt, if_ft, Bool.not_true, Bool.not_false]; rfl
    · simp only [gt_z, gt_s, st_z, st_s, fgs_n, fgs_c, eVar_z, eVar_s, bVar_zv, bVar_zo, bVar_s, eC_ap, e2_ap, e1_ap, aNil_ap, aCons_ap, eTup_ap, eA_ap, nA_ap, eLst_ap, nLst_ap, n2_ap, eSl_ap, nSl_ap, pN_ap, pI_ap, isI_int, isB_bl, t1_ap, tAn_ap, tOr_ap, tNo_ap, eAn_ap, eOr_ap, eIf_ap, eCh_ap, tTrue_ap, nSS_ap, sNil_ap, sSeq_ap, oN_nx, oN_rt, oN_bk, oN_ct, outV_rt, outV_nx, sRet_ap, sIf_ap, sPre_ap, xV_ap, xO_ap, xN_t, xN_f, sSet_ap, sPar_ap, sPar3_ap, sAsg_ap, sAug_ap, sApp_ap, sExt_ap, isO_o, lstD_l, gN_ap, gsNil_ap, gsCons_ap, gT_ap, gLen_ap, setIx_ap, set2_ap', frz_z, frz_s, sFor_ap, sWhile_ap, sBrk_ap, sCnt_ap, addD_i, catLD_l, iaddD_i, subD_i, negD_i, ltD_i, leD_i, gtD_i, geD_i, truD_b, truD_i, truD_n, truD_l, truD_t, notD_b, isD_n, isntD_n, isD_b, isntD_b, isNonD_i, isNonD_b, isNonD_n, isNonD_t, isNonD_l, intD_i, intD_b, lenD_l, lenD_t, tupOfD_l, tupOfD_t, lstOfD_l, lstOfD_t, ixD_l, ixD_t, slD_l, slD_t, slLD_l, iSeq_ap, seqD_l, seqD_t, eqD_i, neD_i, nR1_ap, nR2_ap, eTp_ap, enD_l, enD_t, tup0, tup1, tup2, tup3, tup4, lst0, lst1, lst2, len2, len3, bq00, bq10, bq01, bq11, emp_c, emp_n, emp_cc, emp_nn, decide_true, decide_false, if_true, if_false, Bool.false_eq_true, some_bind, some_map, if_tt, if_ft, Bool.not_true, Bool.not_false, eDin_ap, dVar_0, dv0_d, keyP_iT, Tb, fnd_kT]
      by_cases q : z ∈ Kp f.length s.length a b
      · simp only [if_pos q, decide_eq_true q]; rfl
      · simp only [if_neg q, decide_eq_false q]; rfl
    · simp only [gt_z, gt_s, st_z, st_s, fgs_n, fgs_c, eVar_z, eVar_s, bVar_zv, bVar_zo, bVar_s, eC_ap, e2_ap, e1_ap, aNil_ap, aCons_ap, eTup_ap, eA_ap, nA_ap, eLst_ap, nLst_ap, n2_ap, eSl_ap, nSl_ap, pN_ap, pI_ap, isI_int, isB_bl, t1_ap, tAn_ap, tOr_ap, tNo_ap, eAn_ap, eOr_ap, eIf_ap, eCh_ap, tTrue_ap, nSS_ap, sNil_ap, sSeq_ap, oN_nx, oN_rt, oN_bk, oN_ct, outV_rt, outV_nx, sRet_ap, sIf_ap, sPre_ap, xV_ap, xO_ap, xN_t, xN_f, sSet_ap, sPar_ap, sPar3_ap, sAsg_ap, sAug_ap, sApp_ap, sExt_ap, isO_o, lstD_l, gN_ap, gsNil_ap, gsCons_ap, gT_ap, gLen_ap, setIx_ap, set2_ap', frz_z, frz_s, sFor_ap, sWhile_ap, sBrk_ap, sCnt_ap, addD_i, catLD_l, iaddD_i, subD_i, negD_i, ltD_i, leD_i, gtD_i, geD_i, truD_b, truD_i, truD_n, truD_l, truD_t, notD_b, isD_n, isntD_n, isD_b, isntD_b, isNonD_i, isNonD_b, isNonD_n, isNonD_t, isNonD_l, intD_i, intD_b, lenD_l, lenD_t, tupOfD_l, tupOfD_t, lstOfD_l, lstOfD_t, ixD_l, ixD_t, slD_l, slD_t, slLD_l, iSeq_ap, seqD_l, seqD_t, eqD_i, neD_i, nR1_ap, nR2_ap, eTp_ap, enD_l, enD_t, tup0, tup1, tup2, tup3, tup4, lst0, lst1, lst2, len2, len3, bq00, bq10, bq01, bq11, emp_c, emp_n, emp_cc, emp_nn, decide_true, decide_false, if_true, if_false, Bool.false_eq_true, some_bind, some_map, if_tt, if_ft, Bool.not_true, Bool.not_false, eDg_ap, dVar_0, dv0_d, keyP_iT, Tb, fnd_kT, if_pos (of_decide_eq_true hp)]
  have hm : minDf [.list ((nx (f.length - 1) (s.length - 1) [(i : Int), (j : Int)]).map (vT f s))] (.int 0) = some (.int (if (nx (f.length - 1) (s.length - 1) [(i : Int), (j : Int)]).length = 0 then 0 else mn ((nx (f.length - 1) (s.length - 1) [(i : Int), (j : Int)]).map (vS (wf f s) (f.length - 1) (s.length - 1))))) := by
    have e : (nx (f.length - 1) (s.length - 1) [(i : Int), (j : Int)]).map (vT f s) = ((nx (f.length - 1) (s.length - 1) [(i : Int), (j : Int)]).map (vS (wf f s) (f.length - 1) (s.length - 1))).map .int := by rw [List.map_map]; rfl
    rw [e]
    by_cases q : (nx (f.length - 1) (s.length - 1) [(i : Int), (j : Int)]).length = 0
    · rw [List.length_eq_zero_iff.mp q]; rfl
    · rw [if_neg q]
      exact minDf_l (by rw [List.length_map]; omega)
  have hs := S_step (wf f s) (p := f.length - 1) (q := s.length - 1) (i := i) (j := j) (by omega) (by omega)
  have hput : putD (pkT [(i : Int), (j : Int)]) (iT [(i : Int), (j : Int)]) (vT f s [(i : Int), (j : Int)]) (Tb f s a b) = Tb f s a (b + 1) := by
    unfold Tb
    rw [putD_kT (by rw [memK (by omega)]; omega), Kp_b, hi, hj]
  have hval : vT f s [(i : Int), (j : Int)] = .int (ab (f.getD i 0 - s.getD j 0) + (if (nx (f.length - 1) (s.length - 1) [(i : Int), (j : Int)]).length = 0 then 0 else mn ((nx (f.length - 1) (s.length - 1) [(i : Int), (j : Int)]).map (vS (wf f s) (f.length - 1) (s.length - 1))))) := by
    have : vT f s [(i : Int), (j : Int)] = .int (S (wf f s) (f.length - 1) (s.length - 1) i j) := rfl
    rw [this, hs]; rfl
  rw [hi, hj]
  unfold b_steps_table_1
  simp only [gt_z, gt_s, st_z, st_s, fgs_n, fgs_c, eVar_z, eVar_s, bVar_zv, bVar_zo, bVar_s, eC_ap, e2_ap, e1_ap, aNil_ap, aCons_ap, eTup_ap, eA_ap, nA_ap, eLst_ap, nLst_ap, n2_ap, eSl_ap, nSl_ap, pN_ap, pI_ap, isI_int, isB_bl, t1_ap, tAn_ap, tOr_ap, tNo_ap, eAn_ap, eOr_ap, eIf_ap, eCh_ap, tTrue_ap, nSS_ap, sNil_ap, sSeq_ap, oN_nx, oN_rt, oN_bk, oN_ct, outV_rt, outV_nx, sRet_ap, sIf_ap, sPre_ap, xV_ap, xO_ap, xN_t, xN_f, sSet_ap, sPar_ap, sPar3_ap, sAsg_ap, sAug_ap, sApp_ap, sExt_ap, isO_o, lstD_l, gN_ap, gsNil_ap, gsCons_ap, gT_ap, gLen_ap, setIx_ap, set2_ap', frz_z, frz_s, sFor_ap, sWhile_ap, sBrk_ap, sCnt_ap, addD_i, catLD_l, iaddD_i, subD_i, negD_i, ltD_i, leD_i, gtD_i, geD_i, truD_b, truD_i, truD_n, truD_l, truD_t, notD_b, isD_n, isntD_n, isD_b, isntD_b, isNonD_i, isNonD_b, isNonD_n, isNonD_t, isNonD_l, intD_i, intD_b, lenD_l, lenD_t, tupOfD_l, tupOfD_t, lstOfD_l, lstOfD_t, ixD_l, ixD_t, slD_l, slD_t, slLD_l, iSeq_ap, seqD_l, seqD_t, eqD_i, neD_i, nR1_ap, nR2_ap, eTp_ap, enD_l, enD_t, tup0, tup1, tup2, tup3, tup4, lst0, lst1, lst2, len2, len3, bq00, bq10, bq01, bq11, emp_c, emp_n, emp_cc, emp_nn, decide_true, decide_false, if_true, if_false, Bool.false_eq_true, some_bind, some_map, if_tt, if_ft, Bool.not_true, Bool.not_false, hc, ixTN (show i < f.length by omega), ixTN (show j < s.length by omega), absD_i, eMm_ap, hm, sDp_ap, dput_ap, isDc_d, iT2, keyP_iT]
  rw [show (if f.getD i 0 - s.getD j 0 < 0 then -(f.getD i 0 - s.getD j 0) else f.getD i 0 - s.getD j 0) = ab (f.getD i 0 - s.getD j 0) from rfl, ← hval, hput, if_lt (by unfold Tb; rw [kT_len]; exact hlen)]
  simp only [gt_z, gt_s, st_z, st_s, fgs_n, fgs_c, eVar_z, eVar_s, bVar_zv, bVar_zo, bVar_s, eC_ap, e2_ap, e1_ap, aNil_ap, aCons_ap, eTup_ap, eA_ap, nA_ap, eLst_ap, nLst_ap, n2_ap, eSl_ap, nSl_ap, pN_ap, pI_ap, isI_int, isB_bl, t1_ap, tAn_ap, tOr_ap, tNo_ap, eAn_ap, eOr_ap, eIf_ap, eCh_ap, tTrue_ap, nSS_ap, sNil_ap, sSeq_ap, oN_nx, oN_rt, oN_bk, oN_ct, outV_rt, outV_nx, sRet_ap, sIf_ap, sPre_ap, xV_ap, xO_ap, xN_t, xN_f, sSet_ap, sPar_ap, sPar3_ap, sAsg_ap, sAug_ap, sApp_ap, sExt_ap, isO_o, lstD_l, gN_ap, gsNil_ap, gsCons_ap, gT_ap, gLen_ap, setIx_ap, set2_ap', frz_z, frz_s, sFor_ap, sWhile_ap, sBrk_ap, sCnt_ap, addD_i, catLD_l, iaddD_i, subD_i, negD_i, ltD_i, leD_i, gtD_i, geD_i, truD_b, truD_i, truD_n, truD_l, truD_t, notD_b, isD_n, isntD_n, isD_b, isntD_b, isNonD_i, isNonD_b, isNonD_n, isNonD_t, isNonD_l, intD_i, intD_b, lenD_l, lenD_t, tupOfD_l, tupOfD_t, lstOfD_l, lstOfD_t, ixD_l, ixD_t, slD_l, slD_t, slLD_l, iSeq_ap, seqD_l, seqD_t, eqD_i, neD_i, nR1_ap, nR2_ap, eTp_ap, enD_l, enD_t, tup0, tup1, tup2, tup3, tup4, lst0, lst1, lst2, len2, len3, bq00, bq10, bq01, bq11, emp_c, emp_n, emp_cc, emp_nn, decide_true, decide_false, if_true, if_false, Bool.false_eq_true, some_bind, some_map, if_tt, if_ft, Bool.not_true, Bool.not_false]
end K75
end

section
set_option maxRecDepth 100000
set_option maxHeartbeats 4000000
namespace K75
open PySem L2 PV PVL
theorem row_ap {f s : List Int} (h1 : f.length < 128) (h2 : s.length < 128) {a : Nat} (ha : a < f.length) :
    b_steps_table_2 [some (.v (iT f)), some (.v (iT s)), some (.v (.int (f.length : Int))), some (.v (.int (s.length : Int))), some (.dic true (Tb f s a 0)), some (.v (.int ((f.length : Int) - 1 - (a : Int)))), none, none, none] =
      some (.nx [some (.v (iT f)), some (.v (iT s)), some (.v (.int (f.length : Int))), some (.v (.int (s.length : Int))), some (.dic true (Tb f s (a + 1) 0)), some (.v (.int ((f.length : Int) - 1 - (a : Int)))), none, none, none]) := by
  have hf := forL_run (tgt := gN 6) (body := b_steps_table_1) (is := [6, 7]) (ds := (List.range s.length).map fun (k : Nat) => .int ((s.length : Int) - 1 - (k : Int)))
    (fun b => [some (.v (iT f)), some (.v (iT s)), some (.v (.int (f.length : Int))), some (.v (.int (s.length : Int))), some (.dic true (Tb f s a b)), some (.v (.int ((f.length : Int) - 1 - (a : Int)))), none, none, none]) fun b d hd => by
      rw [List.getElem?_map] at hd
      obtain ⟨b', hb, rfl⟩ := Option.map_eq_some_iff.mp hd
      have hbl : b < s.length := by
        have := (List.getElem?_eq_some_iff.mp hb).1
        simpa using this
      rw [List.getElem?_range hbl] at hb
      cases hb
      exact turn_nx rfl (cell_ap h1 h2 ha hbl)
  rw [List.length_map, List.length_range] at hf
  unfold b_steps_table_2
  simp only [gt_z, gt_s, st_z, st_s, fgs_n, fgs_c, eVar_z, eVar_s, bVar_zv, bVar_zo, bVar_s, eC_ap, e2_ap, e1_ap, aNil_ap, aCons_ap, eTup_ap, eA_ap, nA_ap, eLst_ap, nLst_ap, n2_ap, eSl_ap, nSl_ap, pN_ap, pI_ap, isI_int, isB_bl, t1_ap, tAn_ap, tOr_ap, tNo_ap, eAn_ap, eOr_ap, eIf_ap, eCh_ap, tTrue_ap, nSS_ap, sNil_ap, sSeq_ap, oN_nx, oN_rt, oN_bk, oN_ct, outV_rt, outV_nx, sRet_ap, sIf_ap, sPre_ap, xV_ap, xO_ap, xN_t, xN_f, sSet_ap, sPar_ap, sPar3_ap, sAsg_ap, sAug_ap, sApp_ap, sExt_ap, isO_o, lstD_l, gN_ap, gsNil_ap, gsCons_ap, gT_ap, gLen_ap, setIx_ap, set2_ap', frz_z, frz_s, sFor_ap, sWhile_ap, sBrk_ap, sCnt_ap, addD_i, catLD_l, iaddD_i, subD_i, negD_i, ltD_i, leD_i, gtD_i, geD_i, truD_b, truD_i, truD_n, truD_l, truD_t, notD_b, isD_n, isntD_n, isD_b, isntD_b, isNonD_i, isNonD_b, isNonD_n, isNonD_t, isNonD_l, intD_i, intD_b, lenD_l, lenD_t, tupOfD_l, tupOfD_t, lstOfD_l, lstOfD_t, ixD_l, ixD_t, slD_l, slD_t, slLD_l, iSeq_ap, seqD_l, seqD_t, eqD_i, neD_i, nR1_ap, nR2_ap, eTp_ap, enD_l, enD_t, tup0, tup1, tup2, tup3, tup4, lst0, lst1, lst2, len2, len3, bq00, bq10, bq01, bq11, emp_c, emp_n, emp_cc, emp_nn, decide_true, decide_false, if_true, if_false, Bool.false_eq_true, some_bind, some_map, if_tt, if_ft, Bool.not_true, Bool.not_false, rg3_down h2, hf]
  have e : Tb f s (a + 1) 0 = Tb f s a s.length := by unfold Tb; rw [Kp_a]
  rw [e]
/-- the table of a function of two rows -/
def TD (f s : List Int) : D := .dict ((.none, .bool true) :: Tb f s f.length 0)
theorem steps_ap {f s : List Int} (h1 : f.length < 128) (h2 : s.length < 128) : F_steps_table [iT f, iT s] = some (TD f s) := by
  have hf := forL_run (tgt := gN 5) (body := b_steps_table_2) (is := [5, 6, 7]) (ds := (List.range f.length).map fun (k : Nat) => .int ((f.length : Int) - 1 - (k : Int)))
    (fun a => [some (.v (iT f)), some (.v (iT s)), some (.v (.int (f.length : Int))), some (.v (.int (s.length : Int))), some (.dic true (Tb f s a 0)), none, none, none, none]) fun a d hd => by
      rw [List.getElem?_map] at hd
      obtain ⟨a', ha, rfl⟩ := Option.map_eq_some_iff.mp hd
      have hal : a < f.length := by
        have := (List.getElem?_eq_some_iff.mp ha).1
        simpa using this
      rw [List.getElem?_range hal] at ha
      cases ha
      exact turn_nx rfl (row_ap h1 h2 hal)
  rw [List.length_map, List.length_range] at hf
  have hf0 : forL (gN 5) b_steps_table_2 [5, 6, 7] ((List.range f.length).map fun (k : Nat) => PyData.int ((f.length : Int) - 1 - (k : Int))) [some (.v (iT f)), some (.v (iT s)), some (.v (.int (f.length : Int))), some (.v (.int (s.length : Int))), some (.dic true []), none, none, none, none] =
    some (.nx [some (.v (iT f)), some (.v (iT s)), some (.v (.int (f.length : Int))), some (.v (.int (s.length : Int))), some (.dic true (Tb f s f.length 0)), none, none, none, none]) := hf
  rw [fa_steps_table]
  unfold den_steps_table
  simp only [gt_z, gt_s, st_z, st_s, fgs_n, fgs_c, eVar_z, eVar_s, bVar_zv, bVar_zo, bVar_s, eC_ap, e2_ap, e1_ap, aNil_ap, aCons_ap, eTup_ap, eA_ap, nA_ap, eLst_ap, nLst_ap, n2_ap, eSl_ap, nSl_ap, pN_ap, pI_ap, isI_int, isB_bl, t1_ap, tAn_ap, tOr_ap, tNo_ap, eAn_ap, eOr_ap, eIf_ap, eCh_ap, tTrue_ap, nSS_ap, sNil_ap, sSeq_ap, oN_nx, oN_rt, oN_bk, oN_ct, outV_rt, outV_nx, sRet_ap, sIf_ap, sPre_ap, xV_ap, xO_ap, xN_t, xN_f, sSet_ap, sPar_ap, sPar3_ap, sAsg_ap, sAug_ap, sApp_ap, sExt_ap, isO_o, lstD_l, gN_ap, gsNil_ap, gsCons_ap, gT_ap, gLen_ap, setIx_ap, set2_ap', frz_z, frz_s, sFor_ap, sWhile_ap, sBrk_ap, sCnt_ap, addD_i, catLD_l, iaddD_i, subD_i, negD_i, ltD_i, leD_i, gtD_i, geD_i, truD_b, truD_i, truD_n, truD_l, truD_t, notD_b, isD_n, isntD_n, isD_b, isntD_b, isNonD_i, isNonD_b, isNonD_n, isNonD_t, isNonD_l, intD_i, intD_b, lenD_l, lenD_t, tupOfD_l, tupOfD_t, lstOfD_l, lstOfD_t, ixD_l, ixD_t, slD_l, slD_t, slLD_l, iSeq_ap, seqD_l, seqD_t, eqD_i, neD_i, nR1_ap, nR2_ap, eTp_ap, enD_l, enD_t, tup0, tup1, tup2, tup3, tup4, lst0, lst1, lst2, len2, len3, bq00, bq10, bq01, bq11, emp_c, emp_n, emp_cc, emp_nn, decide_true, decide_false, if_true, if_false, Bool.false_eq_true, some_bind, some_map, if_tt, if_ft, Bool.not_true, Bool.not_false, List.length_map, xD_ap, rg3_down h1, hf0, frzD_0, fz0_d]
  rfl
/-- all places -/
theorem memK_all {m n : Nat} {x y : Int} : [x, y] ∈ Kp m n m 0 ↔ (0 ≤ x ∧ x ≤ (m : Int) - 1 ∧ 0 ≤ y ∧ y ≤ (n : Int) - 1) := by
  rw [memK (Nat.zero_le _)]; omega
/-- the least sum -/
def A (f s : List Int) : Int := if f.length = 0 ∨ s.length = 0 then 0 else S (wf f s) (f.length - 1) (s.length - 1) 0 0
theorem aligned_ap {f s : List Int} (h1 : f.length < 128) (h2 : s.length < 128) : F_aligned [iT f, iT s] = some (.int (A f s)) := by
  rw [fa_aligned]
  unfold den_aligned
  by_cases q1 : f = []
  · subst q1
    simp only [gt_z, gt_s, st_z, st_s, fgs_n, fgs_c, eVar_z, eVar_s, bVar_zv, bVar_zo, bVar_s, eC_ap, e2_ap, e1_ap, aNil_ap, aCons_ap, eTup_ap, eA_ap, nA_ap, eLst_ap, nLst_ap, n2_ap, eSl_ap, nSl_ap, pN_ap, pI_ap, isI_int, isB_bl, t1_ap, tAn_ap, tOr_ap, tNo_ap, eAn_ap, eOr_ap, eIf_ap, eCh_ap, tTrue_ap, nSS_ap, sNil_ap, sSeq_ap, oN_nx, oN_rt, oN_bk, oN_ct, outV_rt, outV_nx, sRet_ap, sIf_ap, sPre_ap, xV_ap, xO_ap, xN_t, xN_f, sSet_ap, sPar_ap, sPar3_ap, sAsg_ap, sAug_ap, sApp_ap, sExt_ap, isO_o, lstD_l, gN_ap, gsNil_ap, gsCons_ap, gT_ap, gLen_ap, setIx_ap, set2_ap', frz_z, frz_s, sFor_ap, sWhile_ap, sBrk_ap, sCnt_ap, addD_i, catLD_l, iaddD_i, subD_i, negD_i, ltD_i, leD_i, gtD_i, geD_i, truD_b, truD_i, truD_n, truD_l, truD_t, notD_b, isD_n, isntD_n, isD_b, isntD_b, isNonD_i, isNonD_b, isNonD_n, isNonD_t, isNonD_l, intD_i, intD_b, lenD_l, lenD_t, tupOfD_l, tupOfD_t, lstOfD_l, lstOfD_t, ixD_l, ixD_t, slD_l, slD_t, slLD_l, iSeq_ap, seqD_l, seqD_t, eqD_i, neD_i, nR1_ap, nR2_ap, eTp_ap, enD_l, enD_t, tup0, tup1, tup2, tup3, tup4, lst0, lst1, lst2, len2, len3, bq00, bq10, bq01, bq11, emp_c, emp_n, emp_cc, emp_nn, decide_true, decide_false, if_true, if_false, Bool.false_eq_true, some_bind, some_map, if_tt, if_ft, Bool.not_true, Bool.not_false, A]
    rfl
  · have e1 : (f.map PyData.int).isEmpty = false := by cases f with | nil => exact absurd rfl q1 | cons => rfl
    by_cases q2 : s = []
    · subst q2
      simp only [gt_z, gt_s, st_z, st_s, fgs_n, fgs_c, eVar_z, eVar_s, bVar_zv, bVar_zo, bVar_s, eC_ap, e2_ap, e1_ap, aNil_ap, aCons_ap, eTup_ap, eA_ap, nA_ap, eLst_ap, nLst_ap, n2_ap, eSl_ap, nSl_ap, pN_ap, pI_ap, isI_int, isB_bl, t1_ap, tAn_ap, tOr_ap, tNo_ap, eAn_ap, eOr_ap, eIf_ap, eCh_ap, tTrue_ap, nSS_ap, sNil_ap, sSeq_ap, oN_nx, oN_rt, oN_bk, oN_ct, outV_rt, outV_nx, sRet_ap, sIf_ap, sPre_ap, xV_ap, xO_ap, xN_t, xN_f, sSet_ap, sPar_ap, sPar3_ap, sAsg_ap, sAug_ap, sApp_ap, sExt_ap, isO_o, lstD_l, gN_ap, gsNil_ap, gsCons_ap, gT_ap, gLen_ap, setIx_ap, set2_ap', frz_z, frz_s, sFor_ap, sWhile_ap, sBrk_ap, sCnt_ap, addD_i, catLD_l, iaddD_i, subD_i, negD_i, ltD_i, leD_i, gtD_i, geD_i, truD_b, truD_i, truD_n, truD_l, truD_t, notD_b, isD_n, isntD_n, isD_b, isntD_b, isNonD_i, isNonD_b, isNonD_n, isNonD_t, isNonD_l, intD_i, intD_b, lenD_l, lenD_t, tupOfD_l, tupOfD_t, lstOfD_l, lstOfD_t, ixD_l, ixD_t, slD_l, slD_t, slLD_l, iSeq_ap, seqD_l, seqD_t, eqD_i, neD_i, nR1_ap, nR2_ap, eTp_ap, enD_l, enD_t, tup0, tup1, tup2, tup3, tup4, lst0, lst1, lst2, len2, len3, bq00, bq10, bq01, bq11, emp_c, emp_n, emp_cc, emp_nn, decide_true, decide_false, if_true, if_false, Bool.false_eq_true, some_bind, some_map, if_tt, if_ft, Bool.not_true, Bool.not_false, e1, A]
      simp
    · have e2 : (s.map PyData.int).isEmpty = false := by cases s with | nil => exact absurd rfl q2 | cons => rfl
      have l1 : 0 < f.length := List.length_pos_iff.mpr q1
      have l2 : 0 < s.length := List.length_pos_iff.mpr q2
      have hm : [(0 : Int), 0] ∈ Kp f.length s.length f.length 0 := memK_all.mpr (by omega)
      simp only [gt_z, gt_s, st_z, st_s, fgs_n, fgs_c, eVar_z, eVar_s, bVar_zv, bVar_zo, bVar_s, eC_ap, e2_ap, e1_ap, aNil_ap, aCons_ap, eTup_ap, eA_ap, nA_ap, eLst_ap, nLst_ap, n2_ap, eSl_ap, nSl_ap, pN_ap, pI_ap, isI_int, isB_bl, t1_ap, tAn_ap, tOr_ap, tNo_ap, eAn_ap, eOr_ap, eIf_ap, eCh_ap, tTrue_ap, nSS_ap, sNil_ap, sSeq_ap, oN_nx, oN_rt, oN_bk, oN_ct, outV_rt, outV_nx, sRet_ap, sIf_ap, sPre_ap, xV_ap, xO_ap, xN_t, xN_f, sSet_ap, sPar_ap, sPar3_ap, sAsg_ap, sAug_ap, sApp_ap, sExt_ap, isO_o, lstD_l, gN_ap, gsNil_ap, gsCons_ap, gT_ap, gLen_ap, setIx_ap, set2_ap', frz_z, frz_s, sFor_ap, sWhile_ap, sBrk_ap, sCnt_ap, addD_i, catLD_l, iaddD_i, subD_i, negD_i, ltD_i, leD_i, gtD_i, geD_i, truD_b, truD_i, truD_n, truD_l, truD_t, notD_b, isD_n, isntD_n, isD_b, isntD_b, isNonD_i, isNonD_b, isNonD_n, isNonD_t, isNonD_l, intD_i, intD_b, lenD_l, lenD_t, tupOfD_l, tupOfD_t, lstOfD_l, lstOfD_t, ixD_l, ixD_t, slD_l, slD_t, slLD_l, iSeq_ap, seqD_l, seqD_t, eqD_i, neD_i, nR1_ap, nR2_ap, eTp_ap, enD_l, enD_t, tup0, tup1, tup2, tup3, tup4, lst0, lst1, lst2, len2, len3, bq00, bq10, bq01, bq11, emp_c, emp_n, emp_cc, emp_nn, decide_true, decide_false, if_true, if_false, Bool.false_eq_true, some_bind, some_map, if_tt, if_ft, Bool.not_true, Bool.not_false, e1, e2, eDg_ap, dE_ap, steps_ap h1 h2, TD, dicD_d, iT2, keyP_iT, Tb, fnd_kT, if_pos hm]
      unfold A
      rw [if_neg (by omega)]
      rfl
end K75
end

section
set_option maxRecDepth 100000
set_option maxHeartbeats 4000000
namespace K75
open PySem L2 PV PVL
theorem nx_mem {p q i j : Nat} {z : List Int} (hi : i ≤ p) (hj : j ≤ q) : z ∈ nx p q [(i : Int), (j : Int)] ↔ ((z = [(i : Int), ((j + 1 : Nat) : Int)] ∧ j + 1 ≤ q) ∨ (z = [((i + 1 : Nat) : Int), (j : Int)] ∧ i + 1 ≤ p) ∨ (z = [((i + 1 : Nat) : Int), ((j + 1 : Nat) : Int)] ∧ i + 1 ≤ p ∧ j + 1 ≤ q)) := by
  unfold nx
  rw [List.mem_filter]
  simp only [List.mem_cons, List.not_mem_nil, or_false, Bool.and_eq_true, decide_eq_true_eq]
  push_cast
  constructor
  · rintro ⟨rfl | rfl | rfl, h1, h2⟩
    · simp only [List.getD_cons_zero, List.getD_cons_succ] at h1 h2
      exact .inl ⟨rfl, by omega⟩
    · simp only [List.getD_cons_zero, List.getD_cons_succ] at h1 h2
      exact .inr (.inl ⟨rfl, by omega⟩)
    · simp only [List.getD_cons_zero, List.getD_cons_succ] at h1 h2
      exact .inr (.inr ⟨rfl, by omega, by omega⟩)
  · rintro (⟨rfl, h⟩ | ⟨rfl, h⟩ | ⟨rfl, h1, h2⟩)
    · exact ⟨.inl rfl, by simp only [List.getD_cons_zero]; omega, by simp only [List.getD_cons_zero, List.getD_cons_succ]; omega⟩
    · exact ⟨.inr (.inl rfl), by simp only [List.getD_cons_zero]; omega, by simp only [List.getD_cons_zero, List.getD_cons_succ]; omega⟩
    · exact ⟨.inr (.inr rfl), by simp only [List.getD_cons_zero]; omega, by simp only [List.getD_cons_zero, List.getD_cons_succ]; omega⟩
/-- the place that the way takes next -/
def gl (w : Nat → Nat → Int) (p q : Nat) (k : List Int) : List (List Int) := (nx p q k).filter fun z => decide (vS w p q z = mn ((nx p q k).map (vS w p q)))
def gs (w : Nat → Nat → Int) (p q : Nat) (k : List Int) : List Int := (gl w p q k).getD 0 []
theorem gl_pos {w : Nat → Nat → Int} {p q : Nat} {k : List Int} (h : 0 < (nx p q k).length) : 0 < (gl w p q k).length := by
  have hm := mn_mem (xs := (nx p q k).map (vS w p q)) (by intro e; rw [List.map_eq_nil_iff] at e; rw [e] at h; cases h)
  obtain ⟨z, hz, e⟩ := List.mem_map.mp hm
  exact List.length_pos_of_mem (List.mem_filter.mpr ⟨hz, decide_eq_true e⟩)
theorem gs_mem {w : Nat → Nat → Int} {p q : Nat} {k : List Int} (h : 0 < (nx p q k).length) : gs w p q k ∈ nx p q k ∧ vS w p q (gs w p q k) = mn ((nx p q k).map (vS w p q)) := by
  have hp := gl_pos (w := w) h
  have : gs w p q k ∈ gl w p q k := by
    unfold gs
    rw [List.getD_eq_getElem?_getD, List.getElem?_eq_getElem hp]; exact List.getElem_mem hp
  obtain ⟨h1, h2⟩ := List.mem_filter.mp this
  exact ⟨h1, of_decide_eq_true h2⟩
theorem nx_nil {p q i j : Nat} (hi : i ≤ p) (hj : j ≤ q) : (nx p q [(i : Int), (j : Int)]).length = 0 ↔ i = p ∧ j = q := by
  constructor
  · intro h
    by_cases e1 : i < p
    · have : [((i + 1 : Nat) : Int), (j : Int)] ∈ nx p q [(i : Int), (j : Int)] := (nx_mem hi hj).mpr (.inr (.inl ⟨rfl, e1⟩))
      have := List.length_pos_of_mem this; omega
    · by_cases e2 : j < q
      · have : [(i : Int), ((j + 1 : Nat) : Int)] ∈ nx p q [(i : Int), (j : Int)] := (nx_mem hi hj).mpr (.inl ⟨rfl, e2⟩)
        have := List.length_pos_of_mem this; omega
      · omega
  · rintro ⟨rfl, rfl⟩
    rw [List.length_eq_zero_iff]
    refine List.eq_nil_iff_forall_not_mem.mpr fun z hz => ?_
    rcases (nx_mem (Nat.le_refl _) (Nat.le_refl _)).mp hz with ⟨_, h⟩ | ⟨_, h⟩ | ⟨_, h, _⟩ <;> omega
theorem gs_at {w : Nat → Nat → Int} {p q i j : Nat} (hi : i ≤ p) (hj : j ≤ q) (hn : ¬ (i = p ∧ j = q)) : ∃ i' j' : Nat, gs w p q [(i : Int), (j : Int)] = [(i' : Int), (j' : Int)] ∧ i' ≤ p ∧ j' ≤ q ∧ p - i' + (q - j') < p - i + (q - j) ∧
    S w p q i j = w i j + S w p q i' j' ∧ ((i' = i ∧ j' = j + 1) ∨ (i' = i + 1 ∧ j' = j) ∨ (i' = i + 1 ∧ j' = j + 1)) := by
  have hpos : 0 < (nx p q [(i : Int), (j : Int)]).length := by
    rcases Nat.eq_zero_or_pos (nx p q [(i : Int), (j : Int)]).length with h | h
    · exact absurd ((nx_nil hi hj).mp h) hn
    · exact h
  obtain ⟨h1, h2⟩ := gs_mem (w := w) hpos
  have hs := S_step w hi hj
  rw [if_neg (by omega), ← h2] at hs
  rcases (nx_mem hi hj).mp h1 with ⟨e, h⟩ | ⟨e, h⟩ | ⟨e, h, h'⟩
  · rw [e] at hs
    exact ⟨i, j + 1, e, hi, h, by omega, hs, .inl ⟨rfl, rfl⟩⟩
  · rw [e] at hs
    exact ⟨i + 1, j, e, h, hj, by omega, hs, .inr (.inl ⟨rfl, rfl⟩)⟩
  · rw [e] at hs
    exact ⟨i + 1, j + 1, e, h, h', by omega, hs, .inr (.inr ⟨rfl, rfl⟩)⟩
/-- the way behind a place -/
def wl (w : Nat → Nat → Int) (p q : Nat) : Nat → List Int → List (List Int)
  | 0, _ => []
  | n + 1, k => if (nx p q k).length = 0 then [] else gs w p q k :: wl w p q n (gs w p q k)
theorem wl_s (w : Nat → Nat → Int) (p q n : Nat) (k : List Int) : wl w p q (n + 1) k = if (nx p q k).length = 0 then [] else gs w p q k :: wl w p q n (gs w p q k) := rfl
theorem wl_fix {w : Nat → Nat → Int} {p q : Nat} : ∀ (n i j : Nat), i ≤ p → j ≤ q → p - i + (q - j) ≤ n → wl w p q (n + 1) [(i : Int), (j : Int)] = wl w p q n [(i : Int), (j : Int)]
  | 0, i, j, hi, hj, h => by
    have e := (nx_nil hi hj).mpr (show i = p ∧ j = q by omega)
    rw [wl_s w p q 0 _, e]; rfl
  | n + 1, i, j, hi, hj, h => by
    rw [wl_s w p q (n + 1) _, wl_s w p q n [(i : Int), (j : Int)]]
    by_cases q1 : i = p ∧ j = q
    · have e := (nx_nil hi hj).mpr q1
      rw [e]; rfl
    · have hne : ¬ (nx p q [(i : Int), (j : Int)]).length = 0 := fun c => q1 ((nx_nil hi hj).mp c)
      obtain ⟨i', j', e, h1, h2, h3, _, _⟩ := gs_at (w := w) hi hj q1
      rw [if_neg hne, if_neg hne, e, wl_fix n i' j' h1 h2 (by omega)]
def WY (w : Nat → Nat → Int) (p q : Nat) (k : List Int) : List (List Int) := wl w p q (p + q + 1) k
theorem WY_end (w : Nat → Nat → Int) (p q : Nat) : WY w p q [(p : Int), (q : Int)] = [] := by
  unfold WY
  rw [wl, if_pos ((nx_nil (Nat.le_refl _) (Nat.le_refl _)).mpr ⟨rfl, rfl⟩)]
theorem WY_go {w : Nat → Nat → Int} {p q i j : Nat} (hi : i ≤ p) (hj : j ≤ q) (hn : ¬ (i = p ∧ j = q)) : WY w p q [(i : Int), (j : Int)] = gs w p q [(i : Int), (j : Int)] :: WY w p q (gs w p q [(i : Int), (j : Int)]) := by
  have hne : ¬ (nx p q [(i : Int), (j : Int)]).length = 0 := fun c => hn ((nx_nil hi hj).mp c)
  obtain ⟨i', j', e, h1, h2, h3, _, _⟩ := gs_at (w := w) hi hj hn
  unfold WY
  rw [wl, if_neg hne, e, wl_fix (p + q) i' j' h1 h2 (by omega)]
/-- the whole way -/
def way (w : Nat → Nat → Int) (p q : Nat) : List (List Int) := [0, 0] :: WY w p q [0, 0]
theorem wl_len (w : Nat → Nat → Int) (p q : Nat) : ∀ (n : Nat) (k : List Int), (wl w p q n k).length ≤ n
  | 0, _ => Nat.le_refl _
  | n + 1, k => by
    rw [wl]
    split
    · simp
    · have := wl_len w p q n (gs w p q k)
      simp; omega
theorem way_len (w : Nat → Nat → Int) (p q : Nat) : (way w p q).length ≤ p + q + 2 := by
  have := wl_len w p q (p + q + 1) [0, 0]
  unfold way WY
  simp; omega
/-- a place on the way: a way leads there -/
theorem way_on {w : Nat → Nat → Int} {p q : Nat} : ∀ (n i j : Nat), i ≤ p → j ≤ q → ∀ (a b : Nat) (c : Int), (∀ (x y : Nat) (d : Int), Way w x y i j d → Way w x y a b (c + d)) → ∀ z ∈ wl w p q n [(i : Int), (j : Int)], ∃ (x y : Nat) (e : Int), z = [(x : Int), (y : Int)] ∧ x ≤ p ∧ y ≤ q ∧ Way w x y a b (e + w x y) ∧ c + S w p q i j = e + S w p q x y
  | 0, i, j, hi, hj, a, b, c, h, z, hz => by cases hz
  | n + 1, i, j, hi, hj, a, b, c, h, z, hz => by
    rw [wl] at hz
    split at hz
    · cases hz
    · rename_i hne
      have hn : ¬ (i = p ∧ j = q) := fun k => hne ((nx_nil hi hj).mpr k)
      obtain ⟨i', j', e, h1, h2, h3, h4, h5⟩ := gs_at (w := w) hi hj hn
      rw [e] at hz
      have step : ∀ (x y : Nat) (d : Int), Way w x y i' j' d → Way w x y a b (c + w i j + d) := fun x y d hw => by
        have := h x y (w i j + d) (by
          rcases h5 with ⟨rfl, rfl⟩ | ⟨rfl, rfl⟩ | ⟨rfl, rfl⟩
          · exact .right hw
          · exact .down hw
          · exact .both hw)
        rwa [← Int.add_assoc] at this
      rcases List.mem_cons.mp hz with rfl | hz
      · exact ⟨i', j', c + w i j, rfl, h1, h2, step i' j' _ .stop, by omega⟩
      · obtain ⟨x, y, e2, f1, f2, f3, f4, f5⟩ := way_on n i' j' h1 h2 a b (c + w i j) step z hz
        exact ⟨x, y, e2, f1, f2, f3, f4, by omega⟩
/-- on the way no more than the whole -/
theorem S_way_on {w : Nat → Nat → Int} {p q x y : Nat} (h : [(x : Int), (y : Int)] ∈ way w p q) : S w x y 0 0 + S w p q x y - w x y ≤ S w p q 0 0 := by
  unfold way at h
  rcases List.mem_cons.mp h with h | h
  · simp only [List.cons.injEq, and_true] at h
    obtain ⟨h1, h2⟩ := h
    obtain rfl : x = 0 := by omega
    obtain rfl : y = 0 := by omega
    rw [S_end]; omega
  · obtain ⟨x', y', e, e1, _, _, hw, hs⟩ := way_on (p + q + 1) 0 0 (Nat.zero_le _) (Nat.zero_le _) 0 0 0 (fun x y d hd => by rw [Int.zero_add]; exact hd) _ h
    simp only [List.cons.injEq, and_true] at e1
    obtain rfl : x = x' := by omega
    obtain rfl : y = y' := by omega
    have := hw.min
    omega
end K75
end

section
set_option maxRecDepth 100000
set_option maxHeartbeats 4000000
namespace K75
open PySem L2 PV PVL
theorem eqD_ni {x : Int} : eqD .none (.int x) = some (.bool false) := by
  rw [eqD_of (n := 1) (m := 1) rfl rfl]; rfl
theorem addTT {a b : List (List Int)} (h : a.length + b.length ≤ 1000000) : addD (.tuple (a.map iT)) (.tuple (b.map iT)) = some (.tuple ((a ++ b).map iT)) := by
  show (if (a.map iT).length + (b.map iT).length ≤ line then some (PyData.tuple (a.map iT ++ b.map iT)) else none) = _
  rw [if_pos (PVL.le_line (by simpa using h)), List.map_append]
theorem comp_way {f s : List Int} (l1 : 0 < f.length) (l2 : 0 < s.length) {i j : Nat} (hi : i ≤ f.length - 1) (hj : j ≤ s.length - 1) (hn : ¬ (i = f.length - 1 ∧ j = s.length - 1)) (wd : D) :
    c_aligned_way_1 [some (.v (iT f)), some (.v (iT s)), some (.v (TD f s)), some (.v wd), some (.v (.int (S (wf f s) (f.length - 1) (s.length - 1) i j - ab (f.getD i 0 - s.getD j 0)))), none, some (.v (.int (i : Int))), some (.v (.int (j : Int))), none] = some ((gl (wf f s) (f.length - 1) (s.length - 1) [(i : Int), (j : Int)]).map iT) := by
  have hst := S_step (wf f s) hi hj
  have hne : ¬ (nx (f.length - 1) (s.length - 1) [(i : Int), (j : Int)]).length = 0 := fun c => hn ((nx_nil hi hj).mp c)
  rw [if_neg hne] at hst
  have hrest : S (wf f s) (f.length - 1) (s.length - 1) i j - ab (f.getD i 0 - s.getD j 0) = mn ((nx (f.length - 1) (s.length - 1) [(i : Int), (j : Int)]).map (vS (wf f s) (f.length - 1) (s.length - 1))) := by
    have : wf f s i j = ab (f.getD i 0 - s.getD j 0) := rfl
    omega
  rw [hrest]
  unfold c_aligned_way_1
  have e : gl (wf f s) (f.length - 1) (s.length - 1) [(i : Int), (j : Int)] = ([[(i : Int), (j : Int) + 1], [(i : Int) + 1, (j : Int)], [(i : Int) + 1, (j : Int) + 1]] : List (List Int)).filter fun z => decide (vS (wf f s) (f.length - 1) (s.length - 1) z = mn ((nx (f.length - 1) (s.length - 1) [(i : Int), (j : Int)]).map (vS (wf f s) (f.length - 1) (s.length - 1)))) && decide (z ∈ Kp f.length s.length f.length 0) := by
    unfold gl
    generalize mn ((nx (f.length - 1) (s.length - 1) [(i : Int), (j : Int)]).map (vS (wf f s) (f.length - 1) (s.length - 1))) = M
    unfold nx
    rw [List.filter_filter]
    refine List.filter_congr fun z hz => ?_
    congr 1
    simp only [List.mem_cons, List.not_mem_nil, or_false] at hz
    rw [← Bool.decide_and]
    rcases hz with rfl | rfl | rfl
    · refine decide_eq_decide.mpr (Iff.trans ?_ memK_all.symm)
      simp only [List.getD_cons_zero, List.getD_cons_succ]; omega
    · refine decide_eq_decide.mpr (Iff.trans ?_ memK_all.symm)
      simp only [List.getD_cons_zero, List.getD_cons_succ]; omega
    · refine decide_eq_decide.mpr (Iff.trans ?_ memK_all.symm)
      simp only [List.getD_cons_zero, List.getD_cons_succ]; omega
  rw [e]
  generalize mn ((nx (f.length - 1) (s.length - 1) [(i : Int), (j : Int)]).map (vS (wf f s) (f.length - 1) (s.length - 1))) = M
  refine compLF (f := iT) (h := iT) (p := fun z => decide (vS (wf f s) (f.length - 1) (s.length - 1) z = M) && decide (z ∈ Kp f.length s.length f.length 0)) (xs := [[(i : Int), (j : Int) + 1], [(i : Int) + 1, (j : Int)], [(i : Int) + 1, (j : Int) + 1]]) ?_ (by simp) (fun z hz => ?_) fun z hz _ => by simp only [gt_z, gt_s, st_z, st_s, fgs_n, fgs_c, eVar_z, eVar_s, bVar_zv, bVar_zo, bVar_s, eC_ap, e2_ap, e1_ap, aNil_ap, aCons_ap, eTup_ap, eA_ap, nA_ap, eLst_ap, nLst_ap, n2_ap, eSl_ap, nSl_ap, pN_ap, pI_ap, isI_int, isB_bl, t1_ap, tAn_ap, tOr_ap, tNo_ap, eAn_ap, eOr_ap, eIf_ap, eCh_ap, tTrue_ap, nSS_ap, sNil_ap, sSeq_ap, oN_nx, oN_rt, oN_bk, oN_ct, outV_rt, outV_nx, sRet_ap, sIf_ap, sPre_ap, xV_ap, xO_ap, xN_t, xN_f, sSet_ap, sPar_ap, sPar3_ap, sAsg_ap, sAug_ap, sApp_ap, sExt_ap, isO_o, lstD_l, gN_ap, gsNil_ap, gsCons_ap, gT_ap, gLen_ap, setIx_ap, set2_ap', frz_z, frz_s, sFor_ap, sWhile_ap, sBrk_ap, sCnt_ap, addD_i, catLD_l, iaddD_i, subD_i, negD_i, ltD_i, leD_i, gtD_i, geD_i, truD_b, truD_i, truD_n, truD_l, truD_t, notD_b, isD_n, isntD_n, isD_b, isntD_b, isNonD_i, isNonD_b, isNonD_n, isNonD_t, isNonD_l, intD_i, intD_b, lenD_l, lenD_t, tupOfD_l, tupOfD_t, lstOfD_l, lstOfD_t, ixD_l, ixD_t, slD_l, slD_t, slLD_l, iSeq_ap, seqD_l, seqD_t, eqD_i, neD_i, nR1_ap, nR2_ap, eTp_ap, enD_l, enD_t, tup0, tup1, tup2, tup3, tup4, lst0, lst1, lst2, len2, len3, bq00, bq10, bq01, bq11, emp_c, emp_n, emp_cc, emp_nn, decide_true, decide_false, if_true, if_false, Bool.false_eq_true, some_bind, some_map, if_tt, if_ft, Bool.not_true, Bool.not_false]
  · simp only [gt_z, gt_s, st_z, st_s, fgs_n, fgs_c, eVar_z, eVar_s, bVar_zv, bVar_zo, bVar_s, eC_ap, e2_ap, e1_ap, aNil_ap, aCons_ap, eTup_ap, eA_ap, nA_ap, eLst_ap, nLst_ap, n2_ap, eSl_ap, nSl_ap, pN_ap, pI_ap, isI_int, isB_bl, t1_ap, tAn_ap, tOr_ap, tNo_ap, eAn_ap, eOr_ap, eIf_ap, eCh_ap, tTrue_ap, nSS_ap, sNil_ap, sSeq_ap, oN_nx, oN_rt, oN_bk, oN_ct, outV_rt, outV_nx, sRet_ap, sIf_ap, sPre_ap, xV_ap, xO_ap, xN_t, xN_f, sSet_ap, sPar_ap, sPar3_ap, sAsg_ap, sAug_ap, sApp_ap, sExt_ap, isO_o, lstD_l, gN_ap, gsNil_ap, gsCons_ap, gT_ap, gLen_ap, setIx_ap, set2_ap', frz_z, frz_s, sFor_ap, sWhile_ap, sBrk_ap, sCnt_ap, addD_i, catLD_l, iaddD_i, subD_i, negD_i, ltD_i, leD_i, gtD_i, geD_i, truD_b, truD_i, truD_n, truD_l, truD_t, notD_b, isD_n, isntD_n, isD_b, isntD_b, isNonD_i, isNonD_b, isNonD_n, isNonD_t, isNonD_l, intD_i, intD_b, lenD_l, lenD_t, tupOfD_l, tupOfD_t, lstOfD_l, lstOfD_t, ixD_l, ixD_t, slD_l, slD_t, slLD_l, iSeq_ap, seqD_l, seqD_t, eqD_i, neD_i, nR1_ap, nR2_ap, eTp_ap, enD_l, enD_t, tup0, tup1, tup2, tup3, tup4, lst0, lst1, lst2, len2, len3, bq00, bq10, bq01, bq11, emp_c, emp_n, emp_cc, emp_nn, decide_true, decide_false, if_true, if_false, Bool.false_eq_true, some_bind, some_map, if_tt, if_ft, Bool.not_true, Bool.not_false]; rfl
  · simp only [gt_z, gt_s, st_z, st_s, fgs_n, fgs_c, eVar_z, eVar_s, bVar_zv, bVar_zo, bVar_s, eC_ap, e2_ap, e1_ap, aNil_ap, aCons_ap, eTup_ap, eA_ap, nA_ap, eLst_ap, nLst_ap, n2_ap, eSl_ap, nSl_ap, pN_ap, pI_ap, isI_int, isB_bl, t1_ap, tAn_ap, tOr_ap, tNo_ap, eAn_ap, eOr_ap, eIf_ap, eCh_ap, tTrue_ap, nSS_ap, sNil_ap, sSeq_ap, oN_nx, oN_rt, oN_bk, oN_ct, outV_rt, outV_nx, sRet_ap, sIf_ap, sPre_ap, xV_ap, xO_ap, xN_t, xN_f, sSet_ap, sPar_ap, sPar3_ap, sAsg_ap, sAug_ap, sApp_ap, sExt_ap, isO_o, lstD_l, gN_ap, gsNil_ap, gsCons_ap, gT_ap, gLen_ap, setIx_ap, set2_ap', frz_z, frz_s, sFor_ap, sWhile_ap, sBrk_ap, sCnt_ap, addD_i, catLD_l, iaddD_i, subD_i, negD_i, ltD_i, leD_i, gtD_i, geD_i, truD_b, truD_i, truD_n, truD_l, truD_t, notD_b, isD_n, isntD_n, isD_b, isntD_b, isNonD_i, isNonD_b, isNonD_n, isNonD_t, isNonD_l, intD_i, intD_b, lenD_l, lenD_t, tupOfD_l, tupOfD_t, lstOfD_l, lstOfD_t, ixD_l, ixD_t, slD_l, slD_t, slLD_l, iSeq_ap, seqD_l, seqD_t, eqD_i, neD_i, nR1_ap, nR2_ap, eTp_ap, enD_l, enD_t, tup0, tup1, tup2, tup3, tup4, lst0, lst1, lst2, len2, len3, bq00, bq10, bq01, bq11, emp_c, emp_n, emp_cc, emp_nn, decide_true, decide_false, if_true, if_false, Bool.false_eq_true, some_bind, some_map, if_tt, if_ft, Bool.not_true, Bool.not_false, eDg1_ap, dVar_0, dv0_v, TD, dicD_d, keyP_iT, Tb, fnd_kT]
    by_cases q : z ∈ Kp f.length s.length f.length 0
    · simp only [if_pos q, decide_eq_true q, Option.getD_some, vT, gt_z, gt_s, st_z, st_s, fgs_n, fgs_c, eVar_z, eVar_s, bVar_zv, bVar_zo, bVar_s, eC_ap, e2_ap, e1_ap, aNil_ap, aCons_ap, eTup_ap, eA_ap, nA_ap, eLst_ap, nLst_ap, n2_ap, eSl_ap, nSl_ap, pN_ap, pI_ap, isI_int, isB_bl, t1_ap, tAn_ap, tOr_ap, tNo_ap, eAn_ap, eOr_ap, eIf_ap, eCh_ap, tTrue_ap, nSS_ap, sNil_ap, sSeq_ap, oN_nx, oN_rt, oN_bk, oN_ct, outV_rt, outV_nx, sRet_ap, sIf_ap, sPre_ap, xV_ap, xO_ap, xN_t, xN_f, sSet_ap, sPar_ap, sPar3_ap, sAsg_ap, sAug_ap, sApp_ap, sExt_ap, isO_o, lstD_l, gN_ap, gsNil_ap, gsCons_ap, gT_ap, gLen_ap, setIx_ap, set2_ap', frz_z, frz_s, sFor_ap, sWhile_ap, sBrk_ap, sCnt_ap, addD_i, catLD_l, iaddD_i, subD_i, negD_i, ltD_i, leD_i, gtD_i, geD_i, truD_b, truD_i, truD_n, truD_l, truD_t, notD_b, isD_n, isntD_n, isD_b, isntD_b, isNonD_i, isNonD_b, isNonD_n, isNonD_t, isNonD_l, intD_i, intD_b, lenD_l, lenD_t, tupOfD_l, tupOfD_t, lstOfD_l, lstOfD_t, ixD_l, ixD_t, slD_l, slD_t, slLD_l, iSeq_ap, seqD_l, seqD_t, eqD_i, neD_i, nR1_ap, nR2_ap, eTp_ap, enD_l, enD_t, tup0, tup1, tup2, tup3, tup4, lst0, lst1, lst2, len2, len3, bq00, bq10, bq01, bq11, emp_c, emp_n, emp_cc, emp_nn, decide_true, decide_false, if_true, if_false, Bool.false_eq_true, some_bind, some_map, if_tt, if_ft, Bool.not_true, Bool.not_false, Bool.and_true]
      rw [Bool.eq_iff_iff.mpr (show (vS (wf f s) (f.length - 1) (s.length - 1) z == M) = true ↔ decide (vS (wf f s) (f.length - 1) (s.length - 1) z = M) = true from by rw [beq_iff_eq, decide_eq_true_eq])]
    · simp only [if_neg q, decide_eq_false q, Option.getD_none, eqD_ni, gt_z, gt_s, st_z, st_s, fgs_n, fgs_c, eVar_z, eVar_s, bVar_zv, bVar_zo, bVar_s, eC_ap, e2_ap, e1_ap, aNil_ap, aCons_ap, eTup_ap, eA_ap, nA_ap, eLst_ap, nLst_ap, n2_ap, eSl_ap, nSl_ap, pN_ap, pI_ap, isI_int, isB_bl, t1_ap, tAn_ap, tOr_ap, tNo_ap, eAn_ap, eOr_ap, eIf_ap, eCh_ap, tTrue_ap, nSS_ap, sNil_ap, sSeq_ap, oN_nx, oN_rt, oN_bk, oN_ct, outV_rt, outV_nx, sRet_ap, sIf_ap, sPre_ap, xV_ap, xO_ap, xN_t, xN_f, sSet_ap, sPar_ap, sPar3_ap, sAsg_ap, sAug_ap, sApp_ap, sExt_ap, isO_o, lstD_l, gN_ap, gsNil_ap, gsCons_ap, gT_ap, gLen_ap, setIx_ap, set2_ap', frz_z, frz_s, sFor_ap, sWhile_ap, sBrk_ap, sCnt_ap, addD_i, catLD_l, iaddD_i, subD_i, negD_i, ltD_i, leD_i, gtD_i, geD_i, truD_b, truD_i, truD_n, truD_l, truD_t, notD_b, isD_n, isntD_n, isD_b, isntD_b, isNonD_i, isNonD_b, isNonD_n, isNonD_t, isNonD_l, intD_i, intD_b, lenD_l, lenD_t, tupOfD_l, tupOfD_t, lstOfD_l, lstOfD_t, ixD_l, ixD_t, slD_l, slD_t, slLD_l, iSeq_ap, seqD_l, seqD_t, eqD_i, neD_i, nR1_ap, nR2_ap, eTp_ap, enD_l, enD_t, tup0, tup1, tup2, tup3, tup4, lst0, lst1, lst2, len2, len3, bq00, bq10, bq01, bq11, emp_c, emp_n, emp_cc, emp_nn, decide_true, decide_false, if_true, if_false, Bool.false_eq_true, some_bind, some_map, if_tt, if_ft, Bool.not_true, Bool.not_false, Bool.and_false]
theorem way_ap {f s : List Int} (h1 : f.length < 128) (h2 : s.length < 128) (l1 : 0 < f.length) (l2 : 0 < s.length) : F_aligned_way [iT f, iT s] = some (.tuple ((way (wf f s) (f.length - 1) (s.length - 1)).map iT)) := by
  obtain ⟨p, hp⟩ : ∃ p, p = f.length - 1 := ⟨_, rfl⟩
  obtain ⟨q, hq⟩ : ∃ q, q = s.length - 1 := ⟨_, rfl⟩
  have ep : (f.length : Int) - 1 = (p : Int) := by omega
  have eq : (s.length : Int) - 1 = (q : Int) := by omega
  have hwl := way_len (wf f s) p q
  have hat : ∀ (l : List (List Int)) (i j : Nat), atI ((l ++ [[(i : Int), (j : Int)]]).map iT) (-1) = some (.tuple [.int (i : Int), .int (j : Int)]) := fun l i j => by
    rw [List.map_append]; exact at_last
  have ht : ∀ (l : List (List Int)) (i j : Nat), t_aligned_way_1 [some (.v (iT f)), some (.v (iT s)), some (.v (TD f s)), some (.v (.tuple ((l ++ [[(i : Int), (j : Int)]]).map iT))), none, none, none, none, none] = some (!decide ([(i : Int), (j : Int)] = [(p : Int), (q : Int)])) := fun l i j => by
    unfold t_aligned_way_1
    have hnd : neD (.tuple [.int (i : Int), .int (j : Int)]) (.tuple [.int (p : Int), .int (q : Int)]) = some (.bool (!decide ([(i : Int), (j : Int)] = [(p : Int), (q : Int)]))) := neD_iT (xs := [(i : Int), (j : Int)]) (ys := [(p : Int), (q : Int)])
    simp only [gt_z, gt_s, st_z, st_s, fgs_n, fgs_c, eVar_z, eVar_s, bVar_zv, bVar_zo, bVar_s, eC_ap, e2_ap, e1_ap, aNil_ap, aCons_ap, eTup_ap, eA_ap, nA_ap, eLst_ap, nLst_ap, n2_ap, eSl_ap, nSl_ap, pN_ap, pI_ap, isI_int, isB_bl, t1_ap, tAn_ap, tOr_ap, tNo_ap, eAn_ap, eOr_ap, eIf_ap, eCh_ap, tTrue_ap, nSS_ap, sNil_ap, sSeq_ap, oN_nx, oN_rt, oN_bk, oN_ct, outV_rt, outV_nx, sRet_ap, sIf_ap, sPre_ap, xV_ap, xO_ap, xN_t, xN_f, sSet_ap, sPar_ap, sPar3_ap, sAsg_ap, sAug_ap, sApp_ap, sExt_ap, isO_o, lstD_l, gN_ap, gsNil_ap, gsCons_ap, gT_ap, gLen_ap, setIx_ap, set2_ap', frz_z, frz_s, sFor_ap, sWhile_ap, sBrk_ap, sCnt_ap, addD_i, catLD_l, iaddD_i, subD_i, negD_i, ltD_i, leD_i, gtD_i, geD_i, truD_b, truD_i, truD_n, truD_l, truD_t, notD_b, isD_n, isntD_n, isD_b, isntD_b, isNonD_i, isNonD_b, isNonD_n, isNonD_t, isNonD_l, intD_i, intD_b, lenD_l, lenD_t, tupOfD_l, tupOfD_t, lstOfD_l, lstOfD_t, ixD_l, ixD_t, slD_l, slD_t, slLD_l, iSeq_ap, seqD_l, seqD_t, eqD_i, neD_i, nR1_ap, nR2_ap, eTp_ap, enD_l, enD_t, tup0, tup1, tup2, tup3, tup4, lst0, lst1, lst2, len2, len3, bq00, bq10, bq01, bq11, emp_c, emp_n, emp_cc, emp_nn, decide_true, decide_false, if_true, if_false, Bool.false_eq_true, some_bind, some_map, if_tt, if_ft, Bool.not_true, Bool.not_false, hat, List.length_map, ep, eq, hnd]
  have hw := whL_inv (tc := t_aligned_way_1) (body := b_aligned_way_1) (is := [4, 5, 6, 7])
    (fun k e => ∃ (l : List (List Int)) (i j : Nat), e = [some (.v (iT f)), some (.v (iT s)), some (.v (TD f s)), some (.v (.tuple ((l ++ [[(i : Int), (j : Int)]]).map iT))), none, none, none, none, none] ∧ i ≤ p ∧ j ≤ q ∧ k = p - i + (q - j) ∧ (l ++ [[(i : Int), (j : Int)]]) ++ WY (wf f s) p q [(i : Int), (j : Int)] = way (wf f s) p q)
    (p + q) [some (.v (iT f)), some (.v (iT s)), some (.v (TD f s)), some (.v (.tuple [.tuple [.int 0, .int 0]])), none, none, none, none, none] 1000000 (by omega) ⟨[], 0, 0, rfl, Nat.zero_le _, Nat.zero_le _, by omega, rfl⟩ (fun k e ⟨l, i, j, he, hi, hj, hk, hl⟩ => by
      subst he
      rw [ht]
      by_cases hn : i = p ∧ j = q
      · left
        obtain ⟨rfl, rfl⟩ := hn
        simp
      · right
        have hd : decide ([(i : Int), (j : Int)] = [(p : Int), (q : Int)]) = false := decide_eq_false (by simp only [List.cons.injEq, and_true]; omega)
        rw [hd]
        obtain ⟨i', j', e, g1, g2, g3, _, _⟩ := gs_at (w := wf f s) hi hj hn
        have hgo := WY_go (w := wf f s) hi hj hn
        rw [e] at hgo
        refine ⟨p - i' + (q - j'), by omega, rfl, [some (.v (iT f)), some (.v (iT s)), some (.v (TD f s)), some (.v (.tuple ((l ++ [[(i : Int), (j : Int)]] ++ [[(i' : Int), (j' : Int)]]).map iT))), none, none, none, none, none], ?_, l ++ [[(i : Int), (j : Int)]], i', j', rfl, g1, g2, rfl, by rw [← hl, hgo]; simp⟩
        have hne : 0 < (nx p q [(i : Int), (j : Int)]).length := by
          rcases Nat.eq_zero_or_pos (nx p q [(i : Int), (j : Int)]).length with c | c
          · exact absurd ((nx_nil hi hj).mp c) hn
          · exact c
        have hgl := gl_pos (w := wf f s) hne
        have h0 : atI ((gl (wf f s) p q [(i : Int), (j : Int)]).map iT) 0 = some (iT [(i' : Int), (j' : Int)]) := by
          have : atI ((gl (wf f s) p q [(i : Int), (j : Int)]).map iT) ((0 : Nat) : Int) = some (iT [(i' : Int), (j' : Int)]) := atI_nat (by
            rw [List.getElem?_map, List.getElem?_eq_getElem hgl, ← e]
            unfold gs
            rw [List.getD_eq_getElem?_getD, List.getElem?_eq_getElem hgl]; rfl)
          exact this
        have hm : [(i : Int), (j : Int)] ∈ Kp f.length s.length f.length 0 := memK_all.mpr (by omega)
        have hc := comp_way (f := f) (s := s) l1 l2 (i := i) (j := j) (by omega) (by omega) (by rw [← hp, ← hq]; exact hn) (.tuple ((l ++ [[(i : Int), (j : Int)]]).map iT))
        rw [← hp, ← hq] at hc
        have hll : l.length + 1 ≤ p + q + 2 := by
          have := congrArg List.length hl
          simp only [List.length_append, List.length_cons, List.length_nil] at this
          omega
        have hadd : addD (.tuple ((l ++ [[(i : Int), (j : Int)]]).map iT)) (.tuple [iT [(i' : Int), (j' : Int)]]) = some (.tuple ((l ++ [[(i : Int), (j : Int)]] ++ [[(i' : Int), (j' : Int)]]).map iT)) := addTT (a := l ++ [[(i : Int), (j : Int)]]) (b := [[(i' : Int), (j' : Int)]]) (by simp; omega)
        have hv : vT f s [(i : Int), (j : Int)] = .int (S (wf f s) p q i j) := by rw [hp, hq]; rfl
        have hdv : dv0 (some (.v (TD f s))) = some (true, Tb f s f.length 0) := rfl
        have hfn : fnd (pkT [(i : Int), (j : Int)]) (Tb f s f.length 0) = some (.int (S (wf f s) p q i j)) := by
          unfold Tb; rw [fnd_kT, if_pos hm, hv]
        have hkp : keyP true (.tuple [.int (i : Int), .int (j : Int)]) = some (pkT [(i : Int), (j : Int)]) := keyP_iT (k := [(i : Int), (j : Int)])
        have habs : (if f.getD i 0 - s.getD j 0 < 0 then -(f.getD i 0 - s.getD j 0) else f.getD i 0 - s.getD j 0) = ab (f.getD i 0 - s.getD j 0) := rfl
        unfold b_aligned_way_1
        simp only [gt_z, gt_s, st_z, st_s, fgs_n, fgs_c, eVar_z, eVar_s, bVar_zv, bVar_zo, bVar_s, eC_ap, e2_ap, e1_ap, aNil_ap, aCons_ap, eTup_ap, eA_ap, nA_ap, eLst_ap, nLst_ap, n2_ap, eSl_ap, nSl_ap, pN_ap, pI_ap, isI_int, isB_bl, t1_ap, tAn_ap, tOr_ap, tNo_ap, eAn_ap, eOr_ap, eIf_ap, eCh_ap, tTrue_ap, nSS_ap, sNil_ap, sSeq_ap, oN_nx, oN_rt, oN_bk, oN_ct, outV_rt, outV_nx, sRet_ap, sIf_ap, sPre_ap, xV_ap, xO_ap, xN_t, xN_f, sSet_ap, sPar_ap, sPar3_ap, sAsg_ap, sAug_ap, sApp_ap, sExt_ap, isO_o, lstD_l, gN_ap, gsNil_ap, gsCons_ap, gT_ap, gLen_ap, setIx_ap, set2_ap', frz_z, frz_s, sFor_ap, sWhile_ap, sBrk_ap, sCnt_ap, addD_i, catLD_l, iaddD_i, subD_i, negD_i, ltD_i, leD_i, gtD_i, geD_i, truD_b, truD_i, truD_n, truD_l, truD_t, notD_b, isD_n, isntD_n, isD_b, isntD_b, isNonD_i, isNonD_b, isNonD_n, isNonD_t, isNonD_l, intD_i, intD_b, lenD_l, lenD_t, tupOfD_l, tupOfD_t, lstOfD_l, lstOfD_t, ixD_l, ixD_t, slD_l, slD_t, slLD_l, iSeq_ap, seqD_l, seqD_t, eqD_i, neD_i, nR1_ap, nR2_ap, eTp_ap, enD_l, enD_t, tup0, tup1, tup2, tup3, tup4, lst0, lst1, lst2, len2, len3, bq00, bq10, bq01, bq11, emp_c, emp_n, emp_cc, emp_nn, decide_true, decide_false, if_true, if_false, Bool.false_eq_true, some_bind, some_map, if_tt, if_ft, Bool.not_true, Bool.not_false, hat, eDg_ap, dVar_0, hdv, hkp, hfn, ixTN (show i < f.length by omega), ixTN (show j < s.length by omega), absD_i, habs, hc, h0, hadd, Out.fg])
  obtain ⟨k, e, w1, ⟨l, i, j, he, hi, hj, hk, hl⟩, w2⟩ := hw
  subst he
  rw [ht] at w2
  have hend : i = p ∧ j = q := by
    by_cases c : [(i : Int), (j : Int)] = [(p : Int), (q : Int)]
    · simp only [List.cons.injEq, and_true] at c; omega
    · rw [decide_eq_false c] at w2; simp at w2
  obtain ⟨rfl, rfl⟩ := hend
  rw [WY_end, List.append_nil] at hl
  have e1 : (f.map PyData.int).isEmpty = false := by cases f with | nil => cases l1 | cons => rfl
  have e2 : (s.map PyData.int).isEmpty = false := by cases s with | nil => cases l2 | cons => rfl
  rw [fa_aligned_way]
  unfold den_aligned_way
  simp only [gt_z, gt_s, st_z, st_s, fgs_n, fgs_c, eVar_z, eVar_s, bVar_zv, bVar_zo, bVar_s, eC_ap, e2_ap, e1_ap, aNil_ap, aCons_ap, eTup_ap, eA_ap, nA_ap, eLst_ap, nLst_ap, n2_ap, eSl_ap, nSl_ap, pN_ap, pI_ap, isI_int, isB_bl, t1_ap, tAn_ap, tOr_ap, tNo_ap, eAn_ap, eOr_ap, eIf_ap, eCh_ap, tTrue_ap, nSS_ap, sNil_ap, sSeq_ap, oN_nx, oN_rt, oN_bk, oN_ct, outV_rt, outV_nx, sRet_ap, sIf_ap, sPre_ap, xV_ap, xO_ap, xN_t, xN_f, sSet_ap, sPar_ap, sPar3_ap, sAsg_ap, sAug_ap, sApp_ap, sExt_ap, isO_o, lstD_l, gN_ap, gsNil_ap, gsCons_ap, gT_ap, gLen_ap, setIx_ap, set2_ap', frz_z, frz_s, sFor_ap, sWhile_ap, sBrk_ap, sCnt_ap, addD_i, catLD_l, iaddD_i, subD_i, negD_i, ltD_i, leD_i, gtD_i, geD_i, truD_b, truD_i, truD_n, truD_l, truD_t, notD_b, isD_n, isntD_n, isD_b, isntD_b, isNonD_i, isNonD_b, isNonD_n, isNonD_t, isNonD_l, intD_i, intD_b, lenD_l, lenD_t, tupOfD_l, tupOfD_t, lstOfD_l, lstOfD_t, ixD_l, ixD_t, slD_l, slD_t, slLD_l, iSeq_ap, seqD_l, seqD_t, eqD_i, neD_i, nR1_ap, nR2_ap, eTp_ap, enD_l, enD_t, tup0, tup1, tup2, tup3, tup4, lst0, lst1, lst2, len2, len3, bq00, bq10, bq01, bq11, emp_c, emp_n, emp_cc, emp_nn, decide_true, decide_false, if_true, if_false, Bool.false_eq_true, some_bind, some_map, if_tt, if_ft, Bool.not_true, Bool.not_false, e1, e2, steps_ap h1 h2, sWhile_ap, w1, hl, ← hp, ← hq]
end K75
end

section
set_option maxRecDepth 100000
set_option maxHeartbeats 4000000
namespace K75
open PySem L2 PV PVL
theorem drop_getD {l : List Int} {i k : Nat} : (l.drop i).getD k 0 = l.getD (i + k) 0 := by
  rw [List.getD_eq_getElem?_getD, List.getElem?_drop, List.getD_eq_getElem?_getD]
theorem A_drop {f s : List Int} {i j : Nat} (hi : i < f.length) (hj : j < s.length) : A (f.drop i) (s.drop j) = S (wf f s) (f.length - 1) (s.length - 1) i j := by
  unfold A
  rw [if_neg (by rw [List.length_drop, List.length_drop]; omega), List.length_drop, List.length_drop]
  unfold S
  rw [Nat.sub_zero, Nat.sub_zero, show f.length - i - 1 = f.length - 1 - i by omega, show s.length - j - 1 = s.length - 1 - j by omega]
  refine Dt_congr _ _ fun x y hx hy => ?_
  unfold wf
  rw [drop_getD, drop_getD, show i + (f.length - 1 - i - x) = f.length - 1 - x by omega, show j + (s.length - 1 - j - y) = s.length - 1 - y by omega]
/-- the places, in order -/
def Rp (n a b : Nat) : List (List Int) := ((List.range a).flatMap fun (x : Nat) => (List.range n).map fun (y : Nat) => [(x : Int), (y : Int)]) ++ (List.range b).map fun (y : Nat) => [(a : Int), (y : Int)]
theorem memR {n a b : Nat} {x y : Int} : [x, y] ∈ Rp n a b ↔ (0 ≤ x ∧ x < (a : Int) ∧ 0 ≤ y ∧ y < (n : Int)) ∨ (x = (a : Int) ∧ 0 ≤ y ∧ y < (b : Int)) := by
  unfold Rp
  rw [List.mem_append, List.mem_flatMap, List.mem_map]
  constructor
  · rintro (⟨u, hu, hv⟩ | ⟨v, hv, e⟩)
    · obtain ⟨v, hv, e⟩ := List.mem_map.mp hv
      have := List.mem_range.mp hu
      have := List.mem_range.mp hv
      simp only [List.cons.injEq, and_true] at e
      left; omega
    · have := List.mem_range.mp hv
      simp only [List.cons.injEq, and_true] at e
      right; omega
  · rintro (⟨h1, h2, h3, h4⟩ | ⟨h1, h2, h3⟩)
    · refine .inl ⟨x.toNat, List.mem_range.mpr (by omega), List.mem_map.mpr ⟨y.toNat, List.mem_range.mpr (by omega), ?_⟩⟩
      simp only [List.cons.injEq, and_true]; omega
    · refine .inr ⟨y.toNat, List.mem_range.mpr (by omega), ?_⟩
      simp only [List.cons.injEq, and_true]; omega
theorem Rp_len (n a b : Nat) : (Rp n a b).length = a * n + b := by
  unfold Rp
  rw [List.length_append, List.length_map, List.length_range, List.length_flatMap]
  congr 1
  simp only [List.length_map, List.length_range]
  induction a with
  | zero => simp
  | succ a ih => rw [List.range_succ, List.map_append, List.sum_append, ih, Nat.succ_mul]; simp
theorem Rp_b (n a b : Nat) : Rp n a (b + 1) = Rp n a b ++ [[(a : Int), (b : Int)]] := by
  unfold Rp
  rw [List.range_succ, List.map_append, List.append_assoc]; rfl
theorem Rp_a (n a : Nat) : Rp n (a + 1) 0 = Rp n a n := by
  unfold Rp
  rw [List.range_succ, List.flatMap_append]; simp
theorem Rp_mem {n a : Nat} {z : List Int} (h : z ∈ Rp n a 0) : ∃ i j : Nat, z = [(i : Int), (j : Int)] ∧ i < a ∧ j < n := by
  unfold Rp at h
  simp only [List.range_zero, List.map_nil, List.append_nil] at h
  obtain ⟨u, hu, hv⟩ := List.mem_flatMap.mp h
  obtain ⟨v, hv2, rfl⟩ := List.mem_map.mp hv
  exact ⟨u, v, rfl, List.mem_range.mp hu, List.mem_range.mp hv2⟩
theorem lx2 {a b c d : Int} : lxL [a, b] [c, d] = (decide (a < c) || (decide (a = c) && decide (b < d))) := by
  unfold lxL
  by_cases h : a = c
  · subst h
    rw [if_pos rfl]
    unfold lxL
    by_cases h2 : b = d
    · subst h2; simp [lxL]
    · rw [if_neg h2]; simp
  · rw [if_neg h]; simp [h]
theorem Rp_asc (n : Nat) : ∀ a b : Nat, b ≤ n → (Rp n a b).Pairwise (fun x y => lxL y x = false)
  | 0, 0, _ => by simp [Rp]
  | a + 1, 0, _ => by rw [Rp_a]; exact Rp_asc n a n (Nat.le_refl _)
  | a, b + 1, h => by
    rw [Rp_b, List.pairwise_append]
    refine ⟨Rp_asc n a b (by omega), List.pairwise_singleton _ _, fun x hx y hy => ?_⟩
    rw [List.mem_singleton] at hy
    subst hy
    have hx' : ∃ u v : Int, x = [u, v] := by
      unfold Rp at hx
      rcases List.mem_append.mp hx with hx | hx
      · obtain ⟨u, _, hv⟩ := List.mem_flatMap.mp hx
        obtain ⟨v, _, rfl⟩ := List.mem_map.mp hv
        exact ⟨_, _, rfl⟩
      · obtain ⟨v, _, rfl⟩ := List.mem_map.mp hx
        exact ⟨_, _, rfl⟩
    obtain ⟨u, v, rfl⟩ := hx'
    have := memR.mp hx
    rw [lx2, Bool.or_eq_false_iff, Bool.and_eq_false_iff]
    simp only [decide_eq_false_iff_not]
    omega
def Rb (f s : List Int) (a b : Nat) : List (D × D) := kT (Rp s.length a b) (vT f s)
def RD (f s : List Int) : D := .dict ((.none, .bool true) :: Rb f s f.length 0)
theorem rests_ap {f s : List Int} (h1 : f.length < 128) (h2 : s.length < 128) : F__law_rests [iT f, iT s] = some (RD f s) := by
  have cell : ∀ a b : Nat, a < f.length → b < s.length → b__law_rests_1 [some (.v (iT f)), some (.v (iT s)), some (.dic true (Rb f s a b)), some (.v (.int (a : Int))), some (.v (.int (b : Int)))] =
      some (.nx [some (.v (iT f)), some (.v (iT s)), some (.dic true (Rb f s a (b + 1))), some (.v (.int (a : Int))), some (.v (.int (b : Int)))]) := fun a b ha hb => by
    have hlen : (Rp s.length a b).length ≤ 1000000 := by
      rw [Rp_len]
      have := Nat.mul_le_mul (show a ≤ 127 by omega) (show s.length ≤ 127 by omega)
      omega
    have s1 : slD (iT f) (some (a : Int)) none = some (iT (f.drop a)) := slT_from
    have s2 : slD (iT s) (some (b : Int)) none = some (iT (s.drop b)) := slT_from
    have hal := aligned_ap (f := f.drop a) (s := s.drop b) (by rw [List.length_drop]; omega) (by rw [List.length_drop]; omega)
    rw [A_drop ha hb] at hal
    have hkp : keyP true (.tuple [.int (a : Int), .int (b : Int)]) = some (pkT [(a : Int), (b : Int)]) := keyP_iT (k := [(a : Int), (b : Int)])
    have hput : putD (pkT [(a : Int), (b : Int)]) (.tuple [.int (a : Int), .int (b : Int)]) (.int (S (wf f s) (f.length - 1) (s.length - 1) a b)) (Rb f s a b) = Rb f s a (b + 1) := by
      have : putD (pkT [(a : Int), (b : Int)]) (iT [(a : Int), (b : Int)]) (vT f s [(a : Int), (b : Int)]) (Rb f s a b) = Rb f s a (b + 1) := by
        unfold Rb
        rw [putD_kT (by rw [memR]; omega), Rp_b]
      exact this
    unfold b__law_rests_1
    simp only [gt_z, gt_s, st_z, st_s, fgs_n, fgs_c, eVar_z, eVar_s, bVar_zv, bVar_zo, bVar_s, eC_ap, e2_ap, e1_ap, aNil_ap, aCons_ap, eTup_ap, eA_ap, nA_ap, eLst_ap, nLst_ap, n2_ap, eSl_ap, nSl_ap, pN_ap, pI_ap, isI_int, isB_bl, t1_ap, tAn_ap, tOr_ap, tNo_ap, eAn_ap, eOr_ap, eIf_ap, eCh_ap, tTrue_ap, nSS_ap, sNil_ap, sSeq_ap, oN_nx, oN_rt, oN_bk, oN_ct, outV_rt, outV_nx, sRet_ap, sIf_ap, sPre_ap, xV_ap, xO_ap, xN_t, xN_f, sSet_ap, sPar_ap, sPar3_ap, sAsg_ap, sAug_ap, sApp_ap, sExt_ap, isO_o, lstD_l, gN_ap, gsNil_ap, gsCons_ap, gT_ap, gLen_ap, setIx_ap, set2_ap', frz_z, frz_s, sFor_ap, sWhile_ap, sBrk_ap, sCnt_ap, addD_i, catLD_l, iaddD_i, subD_i, negD_i, ltD_i, leD_i, gtD_i, geD_i, truD_b, truD_i, truD_n, truD_l, truD_t, notD_b, isD_n, isntD_n, isD_b, isntD_b, isNonD_i, isNonD_b, isNonD_n, isNonD_t, isNonD_l, intD_i, intD_b, lenD_l, lenD_t, tupOfD_l, tupOfD_t, lstOfD_l, lstOfD_t, ixD_l, ixD_t, slD_l, slD_t, slLD_l, iSeq_ap, seqD_l, seqD_t, eqD_i, neD_i, nR1_ap, nR2_ap, eTp_ap, enD_l, enD_t, tup0, tup1, tup2, tup3, tup4, lst0, lst1, lst2, len2, len3, bq00, bq10, bq01, bq11, emp_c, emp_n, emp_cc, emp_nn, decide_true, decide_false, if_true, if_false, Bool.false_eq_true, some_bind, some_map, if_tt, if_ft, Bool.not_true, Bool.not_false, sDp_ap, s1, s2, hal, dput_ap, isDc_d, hkp, hput, if_lt (show (Rb f s a b).length ≤ 1000000 by unfold Rb; rw [kT_len]; exact hlen)]
  have row : ∀ a : Nat, a < f.length → b__law_rests_2 [some (.v (iT f)), some (.v (iT s)), some (.dic true (Rb f s a 0)), some (.v (.int (a : Int))), none] =
      some (.nx [some (.v (iT f)), some (.v (iT s)), some (.dic true (Rb f s (a + 1) 0)), some (.v (.int (a : Int))), none]) := fun a ha => by
    have hf := forL_rng (tgt := gN 4) (body := b__law_rests_1) (is := [4]) (lo := 0) (n := s.length) (fun b => [some (.v (iT f)), some (.v (iT s)), some (.dic true (Rb f s a b)), some (.v (.int (a : Int))), none]) fun b hb => by
      rw [Int.zero_add]
      exact turn_nx rfl (cell a b ha hb)
    unfold b__law_rests_2
    simp only [gt_z, gt_s, st_z, st_s, fgs_n, fgs_c, eVar_z, eVar_s, bVar_zv, bVar_zo, bVar_s, eC_ap, e2_ap, e1_ap, aNil_ap, aCons_ap, eTup_ap, eA_ap, nA_ap, eLst_ap, nLst_ap, n2_ap, eSl_ap, nSl_ap, pN_ap, pI_ap, isI_int, isB_bl, t1_ap, tAn_ap, tOr_ap, tNo_ap, eAn_ap, eOr_ap, eIf_ap, eCh_ap, tTrue_ap, nSS_ap, sNil_ap, sSeq_ap, oN_nx, oN_rt, oN_bk, oN_ct, outV_rt, outV_nx, sRet_ap, sIf_ap, sPre_ap, xV_ap, xO_ap, xN_t, xN_f, sSet_ap, sPar_ap, sPar3_ap, sAsg_ap, sAug_ap, sApp_ap, sExt_ap, isO_o, lstD_l, gN_ap, gsNil_ap, gsCons_ap, gT_ap, gLen_ap, setIx_ap, set2_ap', frz_z, frz_s, sFor_ap, sWhile_ap, sBrk_ap, sCnt_ap, addD_i, catLD_l, iaddD_i, subD_i, negD_i, ltD_i, leD_i, gtD_i, geD_i, truD_b, truD_i, truD_n, truD_l, truD_t, notD_b, isD_n, isntD_n, isD_b, isntD_b, isNonD_i, isNonD_b, isNonD_n, isNonD_t, isNonD_l, intD_i, intD_b, lenD_l, lenD_t, tupOfD_l, tupOfD_t, lstOfD_l, lstOfD_t, ixD_l, ixD_t, slD_l, slD_t, slLD_l, iSeq_ap, seqD_l, seqD_t, eqD_i, neD_i, nR1_ap, nR2_ap, eTp_ap, enD_l, enD_t, tup0, tup1, tup2, tup3, tup4, lst0, lst1, lst2, len2, len3, bq00, bq10, bq01, bq11, emp_c, emp_n, emp_cc, emp_nn, decide_true, decide_false, if_true, if_false, Bool.false_eq_true, some_bind, some_map, if_tt, if_ft, Bool.not_true, Bool.not_false, List.length_map, rg1N (show s.length ≤ 1000000 by omega), hf]
    have e : Rb f s (a + 1) 0 = Rb f s a s.length := by unfold Rb; rw [Rp_a]
    rw [e]
  have hf := forL_rng (tgt := gN 3) (body := b__law_rests_2) (is := [3, 4]) (lo := 0) (n := f.length) (fun a => [some (.v (iT f)), some (.v (iT s)), some (.dic true (Rb f s a 0)), none, none]) fun a ha => by
    rw [Int.zero_add]
    exact turn_nx rfl (row a ha)
  have hf0 : forL (gN 3) b__law_rests_2 [3, 4] (rngD 0 f.length) [some (.v (iT f)), some (.v (iT s)), some (.dic true []), none, none] = some (.nx [some (.v (iT f)), some (.v (iT s)), some (.dic true (Rb f s f.length 0)), none, none]) := hf
  rw [fa__law_rests]
  unfold den__law_rests
  simp only [gt_z, gt_s, st_z, st_s, fgs_n, fgs_c, eVar_z, eVar_s, bVar_zv, bVar_zo, bVar_s, eC_ap, e2_ap, e1_ap, aNil_ap, aCons_ap, eTup_ap, eA_ap, nA_ap, eLst_ap, nLst_ap, n2_ap, eSl_ap, nSl_ap, pN_ap, pI_ap, isI_int, isB_bl, t1_ap, tAn_ap, tOr_ap, tNo_ap, eAn_ap, eOr_ap, eIf_ap, eCh_ap, tTrue_ap, nSS_ap, sNil_ap, sSeq_ap, oN_nx, oN_rt, oN_bk, oN_ct, outV_rt, outV_nx, sRet_ap, sIf_ap, sPre_ap, xV_ap, xO_ap, xN_t, xN_f, sSet_ap, sPar_ap, sPar3_ap, sAsg_ap, sAug_ap, sApp_ap, sExt_ap, isO_o, lstD_l, gN_ap, gsNil_ap, gsCons_ap, gT_ap, gLen_ap, setIx_ap, set2_ap', frz_z, frz_s, sFor_ap, sWhile_ap, sBrk_ap, sCnt_ap, addD_i, catLD_l, iaddD_i, subD_i, negD_i, ltD_i, leD_i, gtD_i, geD_i, truD_b, truD_i, truD_n, truD_l, truD_t, notD_b, isD_n, isntD_n, isD_b, isntD_b, isNonD_i, isNonD_b, isNonD_n, isNonD_t, isNonD_l, intD_i, intD_b, lenD_l, lenD_t, tupOfD_l, tupOfD_t, lstOfD_l, lstOfD_t, ixD_l, ixD_t, slD_l, slD_t, slLD_l, iSeq_ap, seqD_l, seqD_t, eqD_i, neD_i, nR1_ap, nR2_ap, eTp_ap, enD_l, enD_t, tup0, tup1, tup2, tup3, tup4, lst0, lst1, lst2, len2, len3, bq00, bq10, bq01, bq11, emp_c, emp_n, emp_cc, emp_nn, decide_true, decide_false, if_true, if_false, Bool.false_eq_true, some_bind, some_map, if_tt, if_ft, Bool.not_true, Bool.not_false, xD_ap, List.length_map, rg1N (show f.length ≤ 1000000 by omega), hf0, frzD_0, fz0_d]
  rfl
theorem after_ap {f s : List Int} (h1 : f.length < 128) (h2 : s.length < 128) (l1 : 0 < f.length) (l2 : 0 < s.length) (i j : Nat) : F__law_after [RD f s, .tuple [.int (i : Int), .int (j : Int)]] = some (.list ((nx (f.length - 1) (s.length - 1) [(i : Int), (j : Int)]).map iT)) := by
  have hc : c__law_after_1 [some (.v (RD f s)), some (.v (.tuple [.int (i : Int), .int (j : Int)])), some (.v (.int (i : Int))), some (.v (.int (j : Int))), none] = some ((nx (f.length - 1) (s.length - 1) [(i : Int), (j : Int)]).map iT) := by
    unfold c__law_after_1
    have e : nx (f.length - 1) (s.length - 1) [(i : Int), (j : Int)] = ([[(i : Int), (j : Int) + 1], [(i : Int) + 1, (j : Int)], [(i : Int) + 1, (j : Int) + 1]] : List (List Int)).filter fun z => decide (z ∈ Rp s.length f.length 0) := by
      unfold nx
      refine List.filter_congr fun z hz => ?_
      simp only [List.mem_cons, List.not_mem_nil, or_false] at hz
      rw [← Bool.decide_and]
      rcases hz with rfl | rfl | rfl
      · refine decide_eq_decide.mpr (Iff.trans ?_ memR.symm)
        simp only [List.getD_cons_zero, List.getD_cons_succ]; omega
      · refine decide_eq_decide.mpr (Iff.trans ?_ memR.symm)
        simp only [List.getD_cons_zero, List.getD_cons_succ]; omega
      · refine decide_eq_decide.mpr (Iff.trans ?_ memR.symm)
        simp only [List.getD_cons_zero, List.getD_cons_succ]; omega
    rw [e]
    refine compLF (f := iT) (h := iT) (p := fun z => decide (z ∈ Rp s.length f.length 0)) (xs := [[(i : Int), (j : Int) + 1], [(i : Int) + 1, (j : Int)], [(i : Int) + 1, (j : Int) + 1]]) ?_ (by simp) (fun z hz => ?_) fun z hz _ => by simp only [gt_z, gt_s, st_z, st_s, fgs_n, fgs_c, eVar_z, eVar_s, bVar_zv, bVar_zo, bVar_s, eC_ap, e2_ap, e1_ap, aNil_ap, aCons_ap, eTup_ap, eA_ap, nA_ap, eLst_ap, nLst_ap, n2_ap, eSl_ap, nSl_ap, pN_ap, pI_ap, isI_int, isB_bl, t1_ap, tAn_ap, tOr_ap, tNo_ap, eAn_ap, eOr_ap, eIf_ap, eCh_ap, tTrue_ap, nSS_ap, sNil_ap, sSeq_ap, oN_nx, oN_rt, oN_bk, oN_ct, outV_rt, outV_nx, sRet_ap, sIf_ap, sPre_ap, xV_ap, xO_ap, xN_t, xN_f, sSet_ap, sPar_ap, sPar3_ap, sAsg_ap, sAug_ap, sApp_ap, sExt_ap, isO_o, lstD_l, gN_ap, gsNil_ap, gsCons_ap, gT_ap, gLen_ap, setIx_ap, set2_ap', frz_z, frz_s, sFor_ap, sWhile_ap, sBrk_ap, sCnt_ap, addD_i, catLD_l, iaddD_i, subD_i, negD_i, ltD_i, leD_i, gtD_i, geD_i, truD_b, truD_i, truD_n, truD_l, truD_t, notD_b, isD_n, isntD_n, isD_b, isntD_b, isNonD_i, isNonD_b, isNonD_n, isNonD_t, isNonD_l, intD_i, intD_b, lenD_l, lenD_t, tupOfD_l, tupOfD_t, lstOfD_l, lstOfD_t, ixD_l, ixD_t, slD_l, slD_t, slLD_l, iSeq_ap, seqD_l, seqD_t, eqD_i, neD_i, nR1_ap, nR2_ap, eTp_ap, enD_l, enD_t, tup0, tup1, tup2, tup3, tup4, lst0, lst1, lst2, len2, len3, bq00, bq10, bq01, bq11, emp_c, emp_n, emp_cc, emp_nn, decide_true, decide_false, if_true, if_false, Bool.false_eq_true, some_bind, some_map, if_tt, if_ft, Bool.not_true, Bool.not_false]
    · simp only [gt_z, gt_s, st_z, st_s, fgs_n, fgs_c, eVar_z, eVar_s, bVar_zv, bVar_zo, bVar_s, eC_ap, e2_ap, e1_ap, aNil_ap, aCons_ap, eTup_ap, eA_ap, nA_ap, eLst_ap, nLst_ap, n2_ap, eSl_ap, nSl_ap, pN_ap, pI_ap, isI_int, isB_bl, t1_ap, tAn_ap, tOr_ap, tNo_ap, eAn_ap, eOr_ap, eIf_ap, eCh_ap, tTrue_ap, nSS_ap, sNil_ap, sSeq_ap, oN_nx, oN_rt, oN_bk, oN_ct, outV_rt, outV_nx, sRet_ap, sIf_ap, sPre_ap, xV_ap, xO_ap, xN_t, xN_f, sSet_ap, sPar_ap, sPar3_ap, sAsg_ap, sAug_ap, sApp_ap, sExt_ap, isO_o, lstD_l, gN_ap, gsNil_ap, gsCons_ap, gT_ap, gLen_ap, setIx_ap, set2_ap', frz_z, frz_s, sFor_ap, sWhile_ap, sBrk_ap, sCnt_ap, addD_i, catLD_l, iaddD_i, subD_i, negD_i, ltD_i, leD_i, gtD_i, geD_i, truD_b, truD_i, truD_n, truD_l, truD_t, notD_b, isD_n, isntD_n, isD_b, isntD_b, isNonD_i, isNonD_b, isNonD_n, isNonD_t, isNonD_l, intD_i, intD_b, lenD_l, lenD_t, tupOfD_l, tupOfD_t, lstOfD_l, lstOfD_t, ixD_l, ixD_t, slD_l, slD_t, slLD_l, iSeq_ap, seqD_l, seqD_t, eqD_i, neD_i, nR1_ap, nR2_ap, eTp_ap, enD_l, enD_t, tup0, tup1, tup2, tup3, tup4, lst0, lst1, lst2, len2, len3, bq00, bq10, bq01, bq11, emp_c, emp_n, emp_cc, emp_nn, decide_true, decide_false, if_true, if_false, Bool.false_eq_true, some_bind, some_map, if_tt, if_ft, Bool.not_true, Bool.not_false]; rfl
    · simp only [gt_z, gt_s, st_z, st_s, fgs_n, fgs_c, eVar_z, eVar_s, bVar_zv, bVar_zo, bVar_s, eC_ap, e2_ap, e1_ap, aNil_ap, aCons_ap, eTup_ap, eA_ap, nA_ap, eLst_ap, nLst_ap, n2_ap, eSl_ap, nSl_ap, pN_ap, pI_ap, isI_int, isB_bl, t1_ap, tAn_ap, tOr_ap, tNo_ap, eAn_ap, eOr_ap, eIf_ap, eCh_ap, tTrue_ap, nSS_ap, sNil_ap, sSeq_ap, oN_nx, oN_rt, oN_bk, oN_ct, outV_rt, outV_nx, sRet_ap, sIf_ap, sPre_ap, xV_ap, xO_ap, xN_t, xN_f, sSet_ap, sPar_ap, sPar3_ap, sAsg_ap, sAug_ap, sApp_ap, sExt_ap, isO_o, lstD_l, gN_ap, gsNil_ap, gsCons_ap, gT_ap, gLen_ap, setIx_ap, set2_ap', frz_z, frz_s, sFor_ap, sWhile_ap, sBrk_ap, sCnt_ap, addD_i, catLD_l, iaddD_i, subD_i, negD_i, ltD_i, leD_i, gtD_i, geD_i, truD_b, truD_i, truD_n, truD_l, truD_t, notD_b, isD_n, isntD_n, isD_b, isntD_b, isNonD_i, isNonD_b, isNonD_n, isNonD_t, isNonD_l, intD_i, intD_b, lenD_l, lenD_t, tupOfD_l, tupOfD_t, lstOfD_l, lstOfD_t, ixD_l, ixD_t, slD_l, slD_t, slLD_l, iSeq_ap, seqD_l, seqD_t, eqD_i, neD_i, nR1_ap, nR2_ap, eTp_ap, enD_l, enD_t, tup0, tup1, tup2, tup3, tup4, lst0, lst1, lst2, len2, len3, bq00, bq10, bq01, bq11, emp_c, emp_n, emp_cc, emp_nn, decide_true, decide_false, if_true, if_false, Bool.false_eq_true, some_bind, some_map, if_tt, if_ft, Bool.not_true, Bool.not_false, eDin_ap, dVar_0, dv0_v, RD, dicD_d, keyP_iT, Rb, fnd_kT]
      by_cases q : z ∈ Rp s.length f.length 0
      · simp only [if_pos q, decide_eq_true q]; rfl
      · simp only [if_neg q, decide_eq_false q]; rfl
  rw [fa__law_after]
  unfold den__law_after
  simp only [gt_z, gt_s, st_z, st_s, fgs_n, fgs_c, eVar_z, eVar_s, bVar_zv, bVar_zo, bVar_s, eC_ap, e2_ap, e1_ap, aNil_ap, aCons_ap, eTup_ap, eA_ap, nA_ap, eLst_ap, nLst_ap, n2_ap, eSl_ap, nSl_ap, pN_ap, pI_ap, isI_int, isB_bl, t1_ap, tAn_ap, tOr_ap, tNo_ap, eAn_ap, eOr_ap, eIf_ap, eCh_ap, tTrue_ap, nSS_ap, sNil_ap, sSeq_ap, oN_nx, oN_rt, oN_bk, oN_ct, outV_rt, outV_nx, sRet_ap, sIf_ap, sPre_ap, xV_ap, xO_ap, xN_t, xN_f, sSet_ap, sPar_ap, sPar3_ap, sAsg_ap, sAug_ap, sApp_ap, sExt_ap, isO_o, lstD_l, gN_ap, gsNil_ap, gsCons_ap, gT_ap, gLen_ap, setIx_ap, set2_ap', frz_z, frz_s, sFor_ap, sWhile_ap, sBrk_ap, sCnt_ap, addD_i, catLD_l, iaddD_i, subD_i, negD_i, ltD_i, leD_i, gtD_i, geD_i, truD_b, truD_i, truD_n, truD_l, truD_t, notD_b, isD_n, isntD_n, isD_b, isntD_b, isNonD_i, isNonD_b, isNonD_n, isNonD_t, isNonD_l, intD_i, intD_b, lenD_l, lenD_t, tupOfD_l, tupOfD_t, lstOfD_l, lstOfD_t, ixD_l, ixD_t, slD_l, slD_t, slLD_l, iSeq_ap, seqD_l, seqD_t, eqD_i, neD_i, nR1_ap, nR2_ap, eTp_ap, enD_l, enD_t, tup0, tup1, tup2, tup3, tup4, lst0, lst1, lst2, len2, len3, bq00, bq10, bq01, bq11, emp_c, emp_n, emp_cc, emp_nn, decide_true, decide_false, if_true, if_false, Bool.false_eq_true, some_bind, some_map, if_tt, if_ft, Bool.not_true, Bool.not_false, hc]
end K75
end

section
set_option maxRecDepth 100000
set_option maxHeartbeats 4000000
namespace K75
open PySem L2 PV PVL
theorem wf_take {f s : List Int} {i j x y : Nat} (hx : x ≤ i) (hy : y ≤ j) : wf (f.take (i + 1)) (s.take (j + 1)) x y = wf f s x y := by
  unfold wf
  have e : ∀ (l : List Int) (k n : Nat), k < n → (l.take n).getD k 0 = l.getD k 0 := fun l k n h => by
    rw [List.getD_eq_getElem?_getD, List.getElem?_take, if_pos h, List.getD_eq_getElem?_getD]
  rw [e f x (i + 1) (by omega), e s y (j + 1) (by omega)]
theorem A_take {f s : List Int} {i j : Nat} (hi : i < f.length) (hj : j < s.length) : A (f.take (i + 1)) (s.take (j + 1)) = S (wf f s) i j 0 0 := by
  unfold A
  rw [if_neg (by rw [List.length_take, List.length_take]; omega), List.length_take, List.length_take, show min (i + 1) f.length - 1 = i by omega, show min (j + 1) s.length - 1 = j by omega]
  unfold S
  exact Dt_congr _ _ fun x y hx hy => wf_take (by omega) (by omega)
theorem likeW {l : List (List Int)} (h : l.length ≤ 1000) (h2 : ∀ q ∈ l, q.length ≤ 1000) : F__law_like 12 [.tuple (l.map iT), .tuple (l.map iT)] = some (.bool true) := likeTs (by omega) fun q hq => by have := h2 q hq; omega
theorem wl_two {w : Nat → Nat → Int} {p q : Nat} : ∀ (n i j : Nat), i ≤ p → j ≤ q → ∀ z ∈ wl w p q n [(i : Int), (j : Int)], ∃ x y : Nat, z = [(x : Int), (y : Int)] ∧ x ≤ p ∧ y ≤ q
  | 0, _, _, _, _, z, hz => by cases hz
  | n + 1, i, j, hi, hj, z, hz => by
    rw [wl_s] at hz
    split at hz
    · cases hz
    · rename_i hne
      obtain ⟨i', j', e, h1, h2, _⟩ := gs_at (w := w) hi hj fun k => hne ((nx_nil hi hj).mpr k)
      rw [e] at hz
      rcases List.mem_cons.mp hz with rfl | hz
      · exact ⟨i', j', rfl, h1, h2⟩
      · exact wl_two n i' j' h1 h2 z hz
theorem way_right_ap {f s : List Int} (h1 : f.length < 100) (h2 : s.length < 100) (l1 : 0 < f.length) (l2 : 0 < s.length) : F__law_way_right [iT f, iT s] = some (.bool true) := by
  obtain ⟨p, hp⟩ : ∃ p, p = f.length - 1 := ⟨_, rfl⟩
  obtain ⟨q, hq⟩ : ∃ q, q = s.length - 1 := ⟨_, rfl⟩
  have hR := rests_ap (f := f) (s := s) (by omega) (by omega)
  have hW := way_ap (f := f) (s := s) (by omega) (by omega) l1 l2
  have hAf := after_ap (f := f) (s := s) (by omega) (by omega) l1 l2
  rw [← hp, ← hq] at hW hAf
  have hlen : (Rp s.length f.length 0).length ≤ 1000000 := by
    rw [Rp_len]
    have := Nat.mul_le_mul (show f.length ≤ 100 by omega) (show s.length ≤ 100 by omega)
    omega
  have hsort : sortDX [RD f s] = some ((Rp s.length f.length 0).map iT) := by
    have : sortDX [RD f s] = sortX [.list ((Rp s.length f.length 0).map iT)] := sortDX_T
    rw [this]
    refine sortX_asc hlen (fun a ha => ?_) (Rp_asc _ _ _ (Nat.zero_le _))
    obtain ⟨i, j, rfl, _, _⟩ := Rp_mem ha
    simp
  have hkp : ∀ i j : Int, keyP true (.tuple [.int i, .int j]) = some (pkT [i, j]) := fun i j => keyP_iT (k := [i, j])
  have hdv : dv0 (some (.v (RD f s))) = some (true, Rb f s f.length 0) := rfl
  have hvT : ∀ k, vT f s k = .int (vS (wf f s) p q k) := fun k => by rw [hp, hq]; rfl
  have hfn : ∀ i j : Nat, i ≤ p → j ≤ q → fnd (pkT [(i : Int), (j : Int)]) (Rb f s f.length 0) = some (.int (S (wf f s) p q i j)) := fun i j hi hj => by
    unfold Rb; rw [fnd_kT, if_pos (by rw [memR]; omega), hvT]; rfl
  have hnx : ∀ i j : Nat, i ≤ p → j ≤ q → ∀ z ∈ nx p q [(i : Int), (j : Int)], z ∈ Rp s.length f.length 0 := fun i j hi hj z hz => by
    rcases (nx_mem hi hj).mp hz with ⟨rfl, h⟩ | ⟨rfl, h⟩ | ⟨rfl, h, h'⟩ <;> rw [memR] <;> omega
  have habs : ∀ x : Int, (if x < 0 then -x else x) = ab x := fun _ => rfl
  -- the sums, place by place
  have hl1 := forL_run (tgt := gLen 2 (gT (gsCons (gN 3) (gsCons (gN 4) gsNil)))) (body := b__law_way_right_1) (is := [3, 4, 5, 6]) (ds := (Rp s.length f.length 0).map iT)
    (fun _ => [some (.v (iT f)), some (.v (iT s)), some (.v (RD f s)), none, none, none, none, none, none, none, none, none]) fun n d hd => by
      rw [List.getElem?_map] at hd
      obtain ⟨z, hz, rfl⟩ := Option.map_eq_some_iff.mp hd
      obtain ⟨i, j, rfl, hi, hj⟩ := Rp_mem (mem_get hz)
      have hst := S_step (wf f s) (p := p) (q := q) (i := i) (j := j) (by omega) (by omega)
      have hw : wf f s i j = ab (f.getD i 0 - s.getD j 0) := rfl
      have hc : c__law_way_right_1 [some (.v (iT f)), some (.v (iT s)), some (.v (RD f s)), some (.v (.int (i : Int))), some (.v (.int (j : Int))), some (.v (.int (ab (f.getD i 0 - s.getD j 0)))), some (.v (.list ((nx p q [(i : Int), (j : Int)]).map iT))), none, none, none, none, none] = some (((nx p q [(i : Int), (j : Int)]).map (vS (wf f s) p q)).map .int) := by
        unfold c__law_way_right_1
        rw [List.map_map]
        refine compL (f := iT) (by simp only [gt_z, gt_s, st_z, st_s, fgs_n, fgs_c, eVar_z, eVar_s, bVar_zv, bVar_zo, bVar_s, eC_ap, e2_ap, e1_ap, aNil_ap, aCons_ap, eTup_ap, eA_ap, nA_ap, eLst_ap, nLst_ap, n2_ap, eSl_ap, nSl_ap, pN_ap, pI_ap, isI_int, isB_bl, t1_ap, tAn_ap, tOr_ap, tNo_ap, eAn_ap, eOr_ap, eIf_ap, eCh_ap, tTrue_ap, nSS_ap, sNil_ap, sSeq_ap, oN_nx, oN_rt, oN_bk, oN_ct, outV_rt, outV_nx, sRet_ap, sIf_ap, sPre_ap, xV_ap, xO_ap, xN_t, xN_f, sSet_ap, sPar_ap, sPar3_ap, sAsg_ap, sAug_ap, sApp_ap, sExt_ap, isO_o, lstD_l, gN_ap, gsNil_ap, gsCons_ap, gT_ap, gLen_ap, setIx_ap, set2_ap', frz_z, frz_s, sFor_ap, sWhile_ap, sBrk_ap, sCnt_ap, addD_i, catLD_l, iaddD_i, subD_i, negD_i, ltD_i, leD_i, gtD_i, geD_i, truD_b, truD_i, truD_n, truD_l, truD_t, notD_b, isD_n, isntD_n, isD_b, isntD_b, isNonD_i, isNonD_b, isNonD_n, isNonD_t, isNonD_l, intD_i, intD_b, lenD_l, lenD_t, tupOfD_l, tupOfD_t, lstOfD_l, lstOfD_t, ixD_l, ixD_t, slD_l, slD_t, slLD_l, iSeq_ap, seqD_l, seqD_t, eqD_i, neD_i, nR1_ap, nR2_ap, eTp_ap, enD_l, enD_t, tup0, tup1, tup2, tup3, tup4, lst0, lst1, lst2, len2, len3, bq00, bq10, bq01, bq11, emp_c, emp_n, emp_cc, emp_nn, decide_true, decide_false, if_true, if_false, Bool.false_eq_true, some_bind, some_map, if_tt, if_ft, Bool.not_true, Bool.not_false]) (by unfold nx; exact Nat.le_trans (List.length_filter_le _ _) (by simp)) fun z hz => ?_
        simp only [gt_z, gt_s, st_z, st_s, fgs_n, fgs_c, eVar_z, eVar_s, bVar_zv, bVar_zo, bVar_s, eC_ap, e2_ap, e1_ap, aNil_ap, aCons_ap, eTup_ap, eA_ap, nA_ap, eLst_ap, nLst_ap, n2_ap, eSl_ap, nSl_ap, pN_ap, pI_ap, isI_int, isB_bl, t1_ap, tAn_ap, tOr_ap, tNo_ap, eAn_ap, eOr_ap, eIf_ap, eCh_ap, tTrue_ap, nSS_ap, sNil_ap, sSeq_ap, oN_nx, oN_rt, oN_bk, oN_ct, outV_rt, outV_nx, sRet_ap, sIf_ap, sPre_ap, xV_ap, xO_ap, xN_t, xN_f, sSet_ap, sPar_ap, sPar3_ap, sAsg_ap, sAug_ap, sApp_ap, sExt_ap, isO_o, lstD_l, gN_ap, gsNil_ap, gsCons_ap, gT_ap, gLen_ap, setIx_ap, set2_ap', frz_z, frz_s, sFor_ap, sWhile_ap, sBrk_ap, sCnt_ap, addD_i, catLD_l, iaddD_i, subD_i, negD_i, ltD_i, leD_i, gtD_i, geD_i, truD_b, truD_i, truD_n, truD_l, truD_t, notD_b, isD_n, isntD_n, isD_b, isntD_b, isNonD_i, isNonD_b, isNonD_n, isNonD_t, isNonD_l, intD_i, intD_b, lenD_l, lenD_t, tupOfD_l, tupOfD_t, lstOfD_l, lstOfD_t, ixD_l, ixD_t, slD_l, slD_t, slLD_l, iSeq_ap, seqD_l, seqD_t, eqD_i, neD_i, nR1_ap, nR2_ap, eTp_ap, enD_l, enD_t, tup0, tup1, tup2, tup3, tup4, lst0, lst1, lst2, len2, len3, bq00, bq10, bq01, bq11, emp_c, emp_n, emp_cc, emp_nn, decide_true, decide_false, if_true, if_false, Bool.false_eq_true, some_bind, some_map, if_tt, if_ft, Bool.not_true, Bool.not_false, eDg_ap, dVar_0, hdv, keyP_iT]
        unfold Rb
        rw [fnd_kT, if_pos (hnx i j (by omega) (by omega) z hz), hvT]; rfl
      refine turn_nx (e1 := [some (.v (iT f)), some (.v (iT s)), some (.v (RD f s)), some (.v (.int (i : Int))), some (.v (.int (j : Int))), none, none, none, none, none, none, none]) rfl
        (e2 := [some (.v (iT f)), some (.v (iT s)), some (.v (RD f s)), some (.v (.int (i : Int))), some (.v (.int (j : Int))), some (.v (.int (S (wf f s) p q i j))), some (.v (.list ((nx p q [(i : Int), (j : Int)]).map iT))), none, none, none, none, none]) ?_
      rw [← hw] at hc
      unfold b__law_way_right_1
      simp only [gt_z, gt_s, st_z, st_s, fgs_n, fgs_c, eVar_z, eVar_s, bVar_zv, bVar_zo, bVar_s, eC_ap, e2_ap, e1_ap, aNil_ap, aCons_ap, eTup_ap, eA_ap, nA_ap, eLst_ap, nLst_ap, n2_ap, eSl_ap, nSl_ap, pN_ap, pI_ap, isI_int, isB_bl, t1_ap, tAn_ap, tOr_ap, tNo_ap, eAn_ap, eOr_ap, eIf_ap, eCh_ap, tTrue_ap, nSS_ap, sNil_ap, sSeq_ap, oN_nx, oN_rt, oN_bk, oN_ct, outV_rt, outV_nx, sRet_ap, sIf_ap, sPre_ap, xV_ap, xO_ap, xN_t, xN_f, sSet_ap, sPar_ap, sPar3_ap, sAsg_ap, sAug_ap, sApp_ap, sExt_ap, isO_o, lstD_l, gN_ap, gsNil_ap, gsCons_ap, gT_ap, gLen_ap, setIx_ap, set2_ap', frz_z, frz_s, sFor_ap, sWhile_ap, sBrk_ap, sCnt_ap, addD_i, catLD_l, iaddD_i, subD_i, negD_i, ltD_i, leD_i, gtD_i, geD_i, truD_b, truD_i, truD_n, truD_l, truD_t, notD_b, isD_n, isntD_n, isD_b, isntD_b, isNonD_i, isNonD_b, isNonD_n, isNonD_t, isNonD_l, intD_i, intD_b, lenD_l, lenD_t, tupOfD_l, tupOfD_t, lstOfD_l, lstOfD_t, ixD_l, ixD_t, slD_l, slD_t, slLD_l, iSeq_ap, seqD_l, seqD_t, eqD_i, neD_i, nR1_ap, nR2_ap, eTp_ap, enD_l, enD_t, tup0, tup1, tup2, tup3, tup4, lst0, lst1, lst2, len2, len3, bq00, bq10, bq01, bq11, emp_c, emp_n, emp_cc, emp_nn, decide_true, decide_false, if_true, if_false, Bool.false_eq_true, some_bind, some_map, if_tt, if_ft, Bool.not_true, Bool.not_false, ixTN hi, ixTN hj, absD_i, habs, hAf, List.length_map]
      by_cases hn : (nx p q [(i : Int), (j : Int)]).length = 0
      · rw [if_pos hn, Int.add_zero] at hst
        have hg : decide ((0 : Int) < ((nx p q [(i : Int), (j : Int)]).length : Int)) = false := decide_eq_false (by omega)
        simp only [hg, gt_z, gt_s, st_z, st_s, fgs_n, fgs_c, eVar_z, eVar_s, bVar_zv, bVar_zo, bVar_s, eC_ap, e2_ap, e1_ap, aNil_ap, aCons_ap, eTup_ap, eA_ap, nA_ap, eLst_ap, nLst_ap, n2_ap, eSl_ap, nSl_ap, pN_ap, pI_ap, isI_int, isB_bl, t1_ap, tAn_ap, tOr_ap, tNo_ap, eAn_ap, eOr_ap, eIf_ap, eCh_ap, tTrue_ap, nSS_ap, sNil_ap, sSeq_ap, oN_nx, oN_rt, oN_bk, oN_ct, outV_rt, outV_nx, sRet_ap, sIf_ap, sPre_ap, xV_ap, xO_ap, xN_t, xN_f, sSet_ap, sPar_ap, sPar3_ap, sAsg_ap, sAug_ap, sApp_ap, sExt_ap, isO_o, lstD_l, gN_ap, gsNil_ap, gsCons_ap, gT_ap, gLen_ap, setIx_ap, set2_ap', frz_z, frz_s, sFor_ap, sWhile_ap, sBrk_ap, sCnt_ap, addD_i, catLD_l, iaddD_i, subD_i, negD_i, ltD_i, leD_i, gtD_i, geD_i, truD_b, truD_i, truD_n, truD_l, truD_t, notD_b, isD_n, isntD_n, isD_b, isntD_b, isNonD_i, isNonD_b, isNonD_n, isNonD_t, isNonD_l, intD_i, intD_b, lenD_l, lenD_t, tupOfD_l, tupOfD_t, lstOfD_l, lstOfD_t, ixD_l, ixD_t, slD_l, slD_t, slLD_l, iSeq_ap, seqD_l, seqD_t, eqD_i, neD_i, nR1_ap, nR2_ap, eTp_ap, enD_l, enD_t, tup0, tup1, tup2, tup3, tup4, lst0, lst1, lst2, len2, len3, bq00, bq10, bq01, bq11, emp_c, emp_n, emp_cc, emp_nn, decide_true, decide_false, if_true, if_false, Bool.false_eq_true, some_bind, some_map, if_tt, if_ft, Bool.not_true, Bool.not_false, eDg_ap, dVar_0, hdv, hkp, hfn i j (by omega) (by omega), ← hw, hst, likeI]
      · rw [if_neg hn] at hst
        have hg : decide ((0 : Int) < ((nx p q [(i : Int), (j : Int)]).length : Int)) = true := decide_eq_true (by omega)
        simp only [hg, gt_z, gt_s, st_z, st_s, fgs_n, fgs_c, eVar_z, eVar_s, bVar_zv, bVar_zo, bVar_s, eC_ap, e2_ap, e1_ap, aNil_ap, aCons_ap, eTup_ap, eA_ap, nA_ap, eLst_ap, nLst_ap, n2_ap, eSl_ap, nSl_ap, pN_ap, pI_ap, isI_int, isB_bl, t1_ap, tAn_ap, tOr_ap, tNo_ap, eAn_ap, eOr_ap, eIf_ap, eCh_ap, tTrue_ap, nSS_ap, sNil_ap, sSeq_ap, oN_nx, oN_rt, oN_bk, oN_ct, outV_rt, outV_nx, sRet_ap, sIf_ap, sPre_ap, xV_ap, xO_ap, xN_t, xN_f, sSet_ap, sPar_ap, sPar3_ap, sAsg_ap, sAug_ap, sApp_ap, sExt_ap, isO_o, lstD_l, gN_ap, gsNil_ap, gsCons_ap, gT_ap, gLen_ap, setIx_ap, set2_ap', frz_z, frz_s, sFor_ap, sWhile_ap, sBrk_ap, sCnt_ap, addD_i, catLD_l, iaddD_i, subD_i, negD_i, ltD_i, leD_i, gtD_i, geD_i, truD_b, truD_i, truD_n, truD_l, truD_t, notD_b, isD_n, isntD_n, isD_b, isntD_b, isNonD_i, isNonD_b, isNonD_n, isNonD_t, isNonD_l, intD_i, intD_b, lenD_l, lenD_t, tupOfD_l, tupOfD_t, lstOfD_l, lstOfD_t, ixD_l, ixD_t, slD_l, slD_t, slLD_l, iSeq_ap, seqD_l, seqD_t, eqD_i, neD_i, nR1_ap, nR2_ap, eTp_ap, enD_l, enD_t, tup0, tup1, tup2, tup3, tup4, lst0, lst1, lst2, len2, len3, bq00, bq10, bq01, bq11, emp_c, emp_n, emp_cc, emp_nn, decide_true, decide_false, if_true, if_false, Bool.false_eq_true, some_bind, some_map, if_tt, if_ft, Bool.not_true, Bool.not_false, hc, minD_l (xs := (nx p q [(i : Int), (j : Int)]).map (vS (wf f s) p q)) (by rw [List.length_map]; omega), eDg_ap, dVar_0, hdv, hkp, hfn i j (by omega) (by omega), ← hw, ← hst, likeI]
  -- the way
  have hat : ∀ (l : List (List Int)) (i j : Nat), atI ((l ++ [[(i : Int), (j : Int)]]).map iT) (-1) = some (.tuple [.int (i : Int), .int (j : Int)]) := fun l i j => by
    rw [List.map_append]; exact at_last
  have hwl := way_len (wf f s) p q
  obtain ⟨e2, hl2, l, i, j, he, hi, hj, hlw, hms⟩ := forL_invR (tgt := gN 8) (body := b__law_way_right_2) (is := [6, 8, 9]) (lo := 0) (n := f.length + s.length)
    (env := [some (.v (iT f)), some (.v (iT s)), some (.v (RD f s)), none, none, none, none, some (.own [.tuple [.int 0, .int 0]]), none, none, none, none])
    (fun t e => ∃ (l : List (List Int)) (i j : Nat), e = [some (.v (iT f)), some (.v (iT s)), some (.v (RD f s)), none, none, none, none, some (.own ((l ++ [[(i : Int), (j : Int)]]).map iT)), none, none, none, none] ∧ i ≤ p ∧ j ≤ q ∧ (l ++ [[(i : Int), (j : Int)]]) ++ WY (wf f s) p q [(i : Int), (j : Int)] = way (wf f s) p q ∧ p - i + (q - j) ≤ p + q - t)
    ⟨[], 0, 0, rfl, Nat.zero_le _, Nat.zero_le _, rfl, by omega⟩ (fun t e ht ⟨l, i, j, he, hi, hj, hlw, hms⟩ => by
      subst he
      by_cases hn : (nx p q [(i : Int), (j : Int)]).length = 0
      · have hij := (nx_nil hi hj).mp hn
        refine ⟨[some (.v (iT f)), some (.v (iT s)), some (.v (RD f s)), none, none, none, none, some (.own ((l ++ [[(i : Int), (j : Int)]]).map iT)), none, none, none, none], turn_nx (e1 := [some (.v (iT f)), some (.v (iT s)), some (.v (RD f s)), none, none, none, none, some (.own ((l ++ [[(i : Int), (j : Int)]]).map iT)), some (.v (.int (0 + (t : Int)))), none, none, none]) rfl
          (e2 := [some (.v (iT f)), some (.v (iT s)), some (.v (RD f s)), none, none, none, some (.v (.list ((nx p q [(i : Int), (j : Int)]).map iT))), some (.own ((l ++ [[(i : Int), (j : Int)]]).map iT)), some (.v (.int (0 + (t : Int)))), none, none, none]) ?_, l, i, j, rfl, hi, hj, hlw, by omega⟩
        have hg : decide ((0 : Int) < ((nx p q [(i : Int), (j : Int)]).length : Int)) = false := decide_eq_false (by omega)
        unfold b__law_way_right_2
        simp only [gt_z, gt_s, st_z, st_s, fgs_n, fgs_c, eVar_z, eVar_s, bVar_zv, bVar_zo, bVar_s, eC_ap, e2_ap, e1_ap, aNil_ap, aCons_ap, eTup_ap, eA_ap, nA_ap, eLst_ap, nLst_ap, n2_ap, eSl_ap, nSl_ap, pN_ap, pI_ap, isI_int, isB_bl, t1_ap, tAn_ap, tOr_ap, tNo_ap, eAn_ap, eOr_ap, eIf_ap, eCh_ap, tTrue_ap, nSS_ap, sNil_ap, sSeq_ap, oN_nx, oN_rt, oN_bk, oN_ct, outV_rt, outV_nx, sRet_ap, sIf_ap, sPre_ap, xV_ap, xO_ap, xN_t, xN_f, sSet_ap, sPar_ap, sPar3_ap, sAsg_ap, sAug_ap, sApp_ap, sExt_ap, isO_o, lstD_l, gN_ap, gsNil_ap, gsCons_ap, gT_ap, gLen_ap, setIx_ap, set2_ap', frz_z, frz_s, sFor_ap, sWhile_ap, sBrk_ap, sCnt_ap, addD_i, catLD_l, iaddD_i, subD_i, negD_i, ltD_i, leD_i, gtD_i, geD_i, truD_b, truD_i, truD_n, truD_l, truD_t, notD_b, isD_n, isntD_n, isD_b, isntD_b, isNonD_i, isNonD_b, isNonD_n, isNonD_t, isNonD_l, intD_i, intD_b, lenD_l, lenD_t, tupOfD_l, tupOfD_t, lstOfD_l, lstOfD_t, ixD_l, ixD_t, slD_l, slD_t, slLD_l, iSeq_ap, seqD_l, seqD_t, eqD_i, neD_i, nR1_ap, nR2_ap, eTp_ap, enD_l, enD_t, tup0, tup1, tup2, tup3, tup4, lst0, lst1, lst2, len2, len3, bq00, bq10, bq01, bq11, emp_c, emp_n, emp_cc, emp_nn, decide_true, decide_false, if_true, if_false, Bool.false_eq_true, some_bind, some_map, if_tt, if_ft, Bool.not_true, Bool.not_false, hat, hAf, List.length_map, hg]
      · have hnp : ¬ (i = p ∧ j = q) := fun c => hn ((nx_nil hi hj).mpr c)
        obtain ⟨i', j', e, g1, g2, g3, _, _⟩ := gs_at (w := wf f s) hi hj hnp
        have hgo := WY_go (w := wf f s) hi hj hnp
        rw [e] at hgo
        have hgl := gl_pos (w := wf f s) (p := p) (q := q) (k := [(i : Int), (j : Int)]) (by omega)
        have h0 : atI ((gl (wf f s) p q [(i : Int), (j : Int)]).map iT) 0 = some (iT [(i' : Int), (j' : Int)]) := by
          have : atI ((gl (wf f s) p q [(i : Int), (j : Int)]).map iT) ((0 : Nat) : Int) = some (iT [(i' : Int), (j' : Int)]) := atI_nat (by
            rw [List.getElem?_map, List.getElem?_eq_getElem hgl, ← e]
            unfold gs
            rw [List.getD_eq_getElem?_getD, List.getElem?_eq_getElem hgl]; rfl)
          exact this
        have hll : l.length + 1 ≤ p + q + 2 := by
          have := congrArg List.length hlw
          simp only [List.length_append, List.length_cons, List.length_nil] at this
          omega
        have hnl : (nx p q [(i : Int), (j : Int)]).length ≤ 3 := by unfold nx; exact Nat.le_trans (List.length_filter_le _ _) (by simp)
        obtain ⟨M, hM⟩ : ∃ M, M = mn ((nx p q [(i : Int), (j : Int)]).map (vS (wf f s) p q)) := ⟨_, rfl⟩
        have hget : ∀ z ∈ nx p q [(i : Int), (j : Int)], fnd (pkT z) (Rb f s f.length 0) = some (.int (vS (wf f s) p q z)) := fun z hz => by
          unfold Rb
          rw [fnd_kT, if_pos (hnx i j hi hj z hz), hvT]
        have hc2 : c__law_way_right_2 [some (.v (iT f)), some (.v (iT s)), some (.v (RD f s)), none, none, none, some (.v (.list ((nx p q [(i : Int), (j : Int)]).map iT))), some (.own ((l ++ [[(i : Int), (j : Int)]]).map iT)), some (.v (.int (0 + (t : Int)))), none, none, none] = some (((nx p q [(i : Int), (j : Int)]).map (vS (wf f s) p q)).map .int) := by
          unfold c__law_way_right_2
          rw [List.map_map]
          refine compL (f := iT) (by simp only [gt_z, gt_s, st_z, st_s, fgs_n, fgs_c, eVar_z, eVar_s, bVar_zv, bVar_zo, bVar_s, eC_ap, e2_ap, e1_ap, aNil_ap, aCons_ap, eTup_ap, eA_ap, nA_ap, eLst_ap, nLst_ap, n2_ap, eSl_ap, nSl_ap, pN_ap, pI_ap, isI_int, isB_bl, t1_ap, tAn_ap, tOr_ap, tNo_ap, eAn_ap, eOr_ap, eIf_ap, eCh_ap, tTrue_ap, nSS_ap, sNil_ap, sSeq_ap, oN_nx, oN_rt, oN_bk, oN_ct, outV_rt, outV_nx, sRet_ap, sIf_ap, sPre_ap, xV_ap, xO_ap, xN_t, xN_f, sSet_ap, sPar_ap, sPar3_ap, sAsg_ap, sAug_ap, sApp_ap, sExt_ap, isO_o, lstD_l, gN_ap, gsNil_ap, gsCons_ap, gT_ap, gLen_ap, setIx_ap, set2_ap', frz_z, frz_s, sFor_ap, sWhile_ap, sBrk_ap, sCnt_ap, addD_i, catLD_l, iaddD_i, subD_i, negD_i, ltD_i, leD_i, gtD_i, geD_i, truD_b, truD_i, truD_n, truD_l, truD_t, notD_b, isD_n, isntD_n, isD_b, isntD_b, isNonD_i, isNonD_b, isNonD_n, isNonD_t, isNonD_l, intD_i, intD_b, lenD_l, lenD_t, tupOfD_l, tupOfD_t, lstOfD_l, lstOfD_t, ixD_l, ixD_t, slD_l, slD_t, slLD_l, iSeq_ap, seqD_l, seqD_t, eqD_i, neD_i, nR1_ap, nR2_ap, eTp_ap, enD_l, enD_t, tup0, tup1, tup2, tup3, tup4, lst0, lst1, lst2, len2, len3, bq00, bq10, bq01, bq11, emp_c, emp_n, emp_cc, emp_nn, decide_true, decide_false, if_true, if_false, Bool.false_eq_true, some_bind, some_map, if_tt, if_ft, Bool.not_true, Bool.not_false]) (by omega) fun z hz => ?_
          simp only [gt_z, gt_s, st_z, st_s, fgs_n, fgs_c, eVar_z, eVar_s, bVar_zv, bVar_zo, bVar_s, eC_ap, e2_ap, e1_ap, aNil_ap, aCons_ap, eTup_ap, eA_ap, nA_ap, eLst_ap, nLst_ap, n2_ap, eSl_ap, nSl_ap, pN_ap, pI_ap, isI_int, isB_bl, t1_ap, tAn_ap, tOr_ap, tNo_ap, eAn_ap, eOr_ap, eIf_ap, eCh_ap, tTrue_ap, nSS_ap, sNil_ap, sSeq_ap, oN_nx, oN_rt, oN_bk, oN_ct, outV_rt, outV_nx, sRet_ap, sIf_ap, sPre_ap, xV_ap, xO_ap, xN_t, xN_f, sSet_ap, sPar_ap, sPar3_ap, sAsg_ap, sAug_ap, sApp_ap, sExt_ap, isO_o, lstD_l, gN_ap, gsNil_ap, gsCons_ap, gT_ap, gLen_ap, setIx_ap, set2_ap', frz_z, frz_s, sFor_ap, sWhile_ap, sBrk_ap, sCnt_ap, addD_i, catLD_l, iaddD_i, subD_i, negD_i, ltD_i, leD_i, gtD_i, geD_i, truD_b, truD_i, truD_n, truD_l, truD_t, notD_b, isD_n, isntD_n, isD_b, isntD_b, isNonD_i, isNonD_b, isNonD_n, isNonD_t, isNonD_l, intD_i, intD_b, lenD_l, lenD_t, tupOfD_l, tupOfD_t, lstOfD_l, lstOfD_t, ixD_l, ixD_t, slD_l, slD_t, slLD_l, iSeq_ap, seqD_l, seqD_t, eqD_i, neD_i, nR1_ap, nR2_ap, eTp_ap, enD_l, enD_t, tup0, tup1, tup2, tup3, tup4, lst0, lst1, lst2, len2, len3, bq00, bq10, bq01, bq11, emp_c, emp_n, emp_cc, emp_nn, decide_true, decide_false, if_true, if_false, Bool.false_eq_true, some_bind, some_map, if_tt, if_ft, Bool.not_true, Bool.not_false, eDg_ap, dVar_0, hdv, keyP_iT, hget z hz]; rfl
        have hc3 : c__law_way_right_3 [some (.v (iT f)), some (.v (iT s)), some (.v (RD f s)), none, none, none, some (.v (.list ((nx p q [(i : Int), (j : Int)]).map iT))), some (.own ((l ++ [[(i : Int), (j : Int)]]).map iT)), some (.v (.int (0 + (t : Int)))), some (.v (.int M)), none, none] = some ((gl (wf f s) p q [(i : Int), (j : Int)]).map iT) := by
          unfold c__law_way_right_3 gl
          rw [← hM]
          refine compLF (f := iT) (h := iT) (p := fun z => decide (vS (wf f s) p q z = M)) (by simp only [gt_z, gt_s, st_z, st_s, fgs_n, fgs_c, eVar_z, eVar_s, bVar_zv, bVar_zo, bVar_s, eC_ap, e2_ap, e1_ap, aNil_ap, aCons_ap, eTup_ap, eA_ap, nA_ap, eLst_ap, nLst_ap, n2_ap, eSl_ap, nSl_ap, pN_ap, pI_ap, isI_int, isB_bl, t1_ap, tAn_ap, tOr_ap, tNo_ap, eAn_ap, eOr_ap, eIf_ap, eCh_ap, tTrue_ap, nSS_ap, sNil_ap, sSeq_ap, oN_nx, oN_rt, oN_bk, oN_ct, outV_rt, outV_nx, sRet_ap, sIf_ap, sPre_ap, xV_ap, xO_ap, xN_t, xN_f, sSet_ap, sPar_ap, sPar3_ap, sAsg_ap, sAug_ap, sApp_ap, sExt_ap, isO_o, lstD_l, gN_ap, gsNil_ap, gsCons_ap, gT_ap, gLen_ap, setIx_ap, set2_ap', frz_z, frz_s, sFor_ap, sWhile_ap, sBrk_ap, sCnt_ap, addD_i, catLD_l, iaddD_i, subD_i, negD_i, ltD_i, leD_i, gtD_i, geD_i, truD_b, truD_i, truD_n, truD_l, truD_t, notD_b, isD_n, isntD_n, isD_b, isntD_b, isNonD_i, isNonD_b, isNonD_n, isNonD_t, isNonD_l, intD_i, intD_b, lenD_l, lenD_t, tupOfD_l, tupOfD_t, lstOfD_l, lstOfD_t, ixD_l, ixD_t, slD_l, slD_t, slLD_l, iSeq_ap, seqD_l, seqD_t, eqD_i, neD_i, nR1_ap, nR2_ap, eTp_ap, enD_l, enD_t, tup0, tup1, tup2, tup3, tup4, lst0, lst1, lst2, len2, len3, bq00, bq10, bq01, bq11, emp_c, emp_n, emp_cc, emp_nn, decide_true, decide_false, if_true, if_false, Bool.false_eq_true, some_bind, some_map, if_tt, if_ft, Bool.not_true, Bool.not_false]) (by omega) (fun z hz => ?_) fun z hz _ => by simp only [gt_z, gt_s, st_z, st_s, fgs_n, fgs_c, eVar_z, eVar_s, bVar_zv, bVar_zo, bVar_s, eC_ap, e2_ap, e1_ap, aNil_ap, aCons_ap, eTup_ap, eA_ap, nA_ap, eLst_ap, nLst_ap, n2_ap, eSl_ap, nSl_ap, pN_ap, pI_ap, isI_int, isB_bl, t1_ap, tAn_ap, tOr_ap, tNo_ap, eAn_ap, eOr_ap, eIf_ap, eCh_ap, tTrue_ap, nSS_ap, sNil_ap, sSeq_ap, oN_nx, oN_rt, oN_bk, oN_ct, outV_rt, outV_nx, sRet_ap, sIf_ap, sPre_ap, xV_ap, xO_ap, xN_t, xN_f, sSet_ap, sPar_ap, sPar3_ap, sAsg_ap, sAug_ap, sApp_ap, sExt_ap, isO_o, lstD_l, gN_ap, gsNil_ap, gsCons_ap, gT_ap, gLen_ap, setIx_ap, set2_ap', frz_z, frz_s, sFor_ap, sWhile_ap, sBrk_ap, sCnt_ap, addD_i, catLD_l, iaddD_i, subD_i, negD_i, ltD_i, leD_i, gtD_i, geD_i, truD_b, truD_i, truD_n, truD_l, truD_t, notD_b, isD_n, isntD_n, isD_b, isntD_b, isNonD_i, isNonD_b, isNonD_n, isNonD_t, isNonD_l, intD_i, intD_b, lenD_l, lenD_t, tupOfD_l, tupOfD_t, lstOfD_l, lstOfD_t, ixD_l, ixD_t, slD_l, slD_t, slLD_l, iSeq_ap, seqD_l, seqD_t, eqD_i, neD_i, nR1_ap, nR2_ap, eTp_ap, enD_l, enD_t, tup0, tup1, tup2, tup3, tup4, lst0, lst1, lst2, len2, len3, bq00, bq10, bq01, bq11, emp_c, emp_n, emp_cc, emp_nn, decide_true, decide_false, if_true, if_false, Bool.false_eq_true, some_bind, some_map, if_tt, if_ft, Bool.not_true, Bool.not_false]
          simp only [gt_z, gt_s, st_z, st_s, fgs_n, fgs_c, eVar_z, eVar_s, bVar_zv, bVar_zo, bVar_s, eC_ap, e2_ap, e1_ap, aNil_ap, aCons_ap, eTup_ap, eA_ap, nA_ap, eLst_ap, nLst_ap, n2_ap, eSl_ap, nSl_ap, pN_ap, pI_ap, isI_int, isB_bl, t1_ap, tAn_ap, tOr_ap, tNo_ap, eAn_ap, eOr_ap, eIf_ap, eCh_ap, tTrue_ap, nSS_ap, sNil_ap, sSeq_ap, oN_nx, oN_rt, oN_bk, oN_ct, outV_rt, outV_nx, sRet_ap, sIf_ap, sPre_ap, xV_ap, xO_ap, xN_t, xN_f, sSet_ap, sPar_ap, sPar3_ap, sAsg_ap, sAug_ap, sApp_ap, sExt_ap, isO_o, lstD_l, gN_ap, gsNil_ap, gsCons_ap, gT_ap, gLen_ap, setIx_ap, set2_ap', frz_z, frz_s, sFor_ap, sWhile_ap, sBrk_ap, sCnt_ap, addD_i, catLD_l, iaddD_i, subD_i, negD_i, ltD_i, leD_i, gtD_i, geD_i, truD_b, truD_i, truD_n, truD_l, truD_t, notD_b, isD_n, isntD_n, isD_b, isntD_b, isNonD_i, isNonD_b, isNonD_n, isNonD_t, isNonD_l, intD_i, intD_b, lenD_l, lenD_t, tupOfD_l, tupOfD_t, lstOfD_l, lstOfD_t, ixD_l, ixD_t, slD_l, slD_t, slLD_l, iSeq_ap, seqD_l, seqD_t, eqD_i, neD_i, nR1_ap, nR2_ap, eTp_ap, enD_l, enD_t, tup0, tup1, tup2, tup3, tup4, lst0, lst1, lst2, len2, len3, bq00, bq10, bq01, bq11, emp_c, emp_n, emp_cc, emp_nn, decide_true, decide_false, if_true, if_false, Bool.false_eq_true, some_bind, some_map, if_tt, if_ft, Bool.not_true, Bool.not_false, eDg_ap, dVar_0, hdv, keyP_iT, hget z hz]
          rw [Bool.eq_iff_iff.mpr (show (vS (wf f s) p q z == M) = true ↔ decide (vS (wf f s) p q z = M) = true from by rw [beq_iff_eq, decide_eq_true_eq])]
        refine ⟨[some (.v (iT f)), some (.v (iT s)), some (.v (RD f s)), none, none, none, none, some (.own ((l ++ [[(i : Int), (j : Int)]] ++ [[(i' : Int), (j' : Int)]]).map iT)), none, none, none, none], turn_nx (e1 := [some (.v (iT f)), some (.v (iT s)), some (.v (RD f s)), none, none, none, none, some (.own ((l ++ [[(i : Int), (j : Int)]]).map iT)), some (.v (.int (0 + (t : Int)))), none, none, none]) rfl
          (e2 := [some (.v (iT f)), some (.v (iT s)), some (.v (RD f s)), none, none, none, some (.v (.list ((nx p q [(i : Int), (j : Int)]).map iT))), some (.own ((l ++ [[(i : Int), (j : Int)]] ++ [[(i' : Int), (j' : Int)]]).map iT)), some (.v (.int (0 + (t : Int)))), some (.v (.int M)), none, none]) ?_, l ++ [[(i : Int), (j : Int)]], i', j', rfl, g1, g2, by rw [← hlw, hgo]; simp, by omega⟩
        have hg : decide ((0 : Int) < ((nx p q [(i : Int), (j : Int)]).length : Int)) = true := decide_eq_true (by omega)
        unfold b__law_way_right_2
        simp only [gt_z, gt_s, st_z, st_s, fgs_n, fgs_c, eVar_z, eVar_s, bVar_zv, bVar_zo, bVar_s, eC_ap, e2_ap, e1_ap, aNil_ap, aCons_ap, eTup_ap, eA_ap, nA_ap, eLst_ap, nLst_ap, n2_ap, eSl_ap, nSl_ap, pN_ap, pI_ap, isI_int, isB_bl, t1_ap, tAn_ap, tOr_ap, tNo_ap, eAn_ap, eOr_ap, eIf_ap, eCh_ap, tTrue_ap, nSS_ap, sNil_ap, sSeq_ap, oN_nx, oN_rt, oN_bk, oN_ct, outV_rt, outV_nx, sRet_ap, sIf_ap, sPre_ap, xV_ap, xO_ap, xN_t, xN_f, sSet_ap, sPar_ap, sPar3_ap, sAsg_ap, sAug_ap, sApp_ap, sExt_ap, isO_o, lstD_l, gN_ap, gsNil_ap, gsCons_ap, gT_ap, gLen_ap, setIx_ap, set2_ap', frz_z, frz_s, sFor_ap, sWhile_ap, sBrk_ap, sCnt_ap, addD_i, catLD_l, iaddD_i, subD_i, negD_i, ltD_i, leD_i, gtD_i, geD_i, truD_b, truD_i, truD_n, truD_l, truD_t, notD_b, isD_n, isntD_n, isD_b, isntD_b, isNonD_i, isNonD_b, isNonD_n, isNonD_t, isNonD_l, intD_i, intD_b, lenD_l, lenD_t, tupOfD_l, tupOfD_t, lstOfD_l, lstOfD_t, ixD_l, ixD_t, slD_l, slD_t, slLD_l, iSeq_ap, seqD_l, seqD_t, eqD_i, neD_i, nR1_ap, nR2_ap, eTp_ap, enD_l, enD_t, tup0, tup1, tup2, tup3, tup4, lst0, lst1, lst2, len2, len3, bq00, bq10, bq01, bq11, emp_c, emp_n, emp_cc, emp_nn, decide_true, decide_false, if_true, if_false, Bool.false_eq_true, some_bind, some_map, if_tt, if_ft, Bool.not_true, Bool.not_false, hat, hAf, List.length_map, hg, hc2, minD_l (xs := (nx p q [(i : Int), (j : Int)]).map (vS (wf f s) p q)) (by rw [List.length_map]; omega), ← hM, hc3, h0, if_lt (show (l ++ [[(i : Int), (j : Int)]]).length ≤ 1000000 by simp; omega)]
        simp only [List.map_append, List.map_cons, List.map_nil])
  subst he
  obtain rfl : i = p := by omega
  obtain rfl : j = q := by omega
  rw [WY_end, List.append_nil] at hlw
  rw [hlw] at hl2
  -- never less than the whole
  have hfn0 : fnd (pkT [0, 0]) (Rb f s f.length 0) = some (.int (S (wf f s) i j 0 0)) := hfn 0 0 (Nat.zero_le _) (Nat.zero_le _)
  have hl3 := forL_run (tgt := gLen 2 (gT (gsCons (gN 3) (gsCons (gN 4) gsNil)))) (body := b__law_way_right_3) (is := [3, 4, 10]) (ds := (Rp s.length f.length 0).map iT)
    (fun _ => [some (.v (iT f)), some (.v (iT s)), some (.v (RD f s)), none, none, none, none, some (.own ((way (wf f s) i j).map iT)), none, none, none, none]) fun n d hd => by
      rw [List.getElem?_map] at hd
      obtain ⟨z, hz, rfl⟩ := Option.map_eq_some_iff.mp hd
      obtain ⟨x, y, rfl, hx, hy⟩ := Rp_mem (mem_get hz)
      have hw : wf f s x y = ab (f.getD x 0 - s.getD y 0) := rfl
      have s1 : slD (iT f) none (some ((x : Int) + 1)) = some (iT (f.take (x + 1))) := slT_to (k := x + 1)
      have s2 : slD (iT s) none (some ((y : Int) + 1)) = some (iT (s.take (y + 1))) := slT_to (k := y + 1)
      have hal := aligned_ap (f := f.take (x + 1)) (s := s.take (y + 1)) (by rw [List.length_take]; omega) (by rw [List.length_take]; omega)
      rw [A_take hx hy] at hal
      have ht := S_through (wf f s) (p := i) (q := j) (i := x) (j := y) (by omega) (by omega)
      refine turn_nx (e1 := [some (.v (iT f)), some (.v (iT s)), some (.v (RD f s)), some (.v (.int (x : Int))), some (.v (.int (y : Int))), none, none, some (.own ((way (wf f s) i j).map iT)), none, none, none, none]) rfl
        (e2 := [some (.v (iT f)), some (.v (iT s)), some (.v (RD f s)), some (.v (.int (x : Int))), some (.v (.int (y : Int))), none, none, some (.own ((way (wf f s) i j).map iT)), none, none, some (.v (.int (S (wf f s) x y 0 0 + S (wf f s) i j x y - wf f s x y))), none]) ?_
      have hlt : decide (S (wf f s) x y 0 0 + S (wf f s) i j x y - wf f s x y < S (wf f s) i j 0 0) = false := decide_eq_false (by omega)
      have hin : inD (.tuple [.int (x : Int), .int (y : Int)]) (.list ((way (wf f s) i j).map iT)) = some (.bool (decide ([(x : Int), (y : Int)] ∈ way (wf f s) i j))) := inD_iTl (a := [(x : Int), (y : Int)])
      unfold b__law_way_right_3
      simp only [gt_z, gt_s, st_z, st_s, fgs_n, fgs_c, eVar_z, eVar_s, bVar_zv, bVar_zo, bVar_s, eC_ap, e2_ap, e1_ap, aNil_ap, aCons_ap, eTup_ap, eA_ap, nA_ap, eLst_ap, nLst_ap, n2_ap, eSl_ap, nSl_ap, pN_ap, pI_ap, isI_int, isB_bl, t1_ap, tAn_ap, tOr_ap, tNo_ap, eAn_ap, eOr_ap, eIf_ap, eCh_ap, tTrue_ap, nSS_ap, sNil_ap, sSeq_ap, oN_nx, oN_rt, oN_bk, oN_ct, outV_rt, outV_nx, sRet_ap, sIf_ap, sPre_ap, xV_ap, xO_ap, xN_t, xN_f, sSet_ap, sPar_ap, sPar3_ap, sAsg_ap, sAug_ap, sApp_ap, sExt_ap, isO_o, lstD_l, gN_ap, gsNil_ap, gsCons_ap, gT_ap, gLen_ap, setIx_ap, set2_ap', frz_z, frz_s, sFor_ap, sWhile_ap, sBrk_ap, sCnt_ap, addD_i, catLD_l, iaddD_i, subD_i, negD_i, ltD_i, leD_i, gtD_i, geD_i, truD_b, truD_i, truD_n, truD_l, truD_t, notD_b, isD_n, isntD_n, isD_b, isntD_b, isNonD_i, isNonD_b, isNonD_n, isNonD_t, isNonD_l, intD_i, intD_b, lenD_l, lenD_t, tupOfD_l, tupOfD_t, lstOfD_l, lstOfD_t, ixD_l, ixD_t, slD_l, slD_t, slLD_l, iSeq_ap, seqD_l, seqD_t, eqD_i, neD_i, nR1_ap, nR2_ap, eTp_ap, enD_l, enD_t, tup0, tup1, tup2, tup3, tup4, lst0, lst1, lst2, len2, len3, bq00, bq10, bq01, bq11, emp_c, emp_n, emp_cc, emp_nn, decide_true, decide_false, if_true, if_false, Bool.false_eq_true, some_bind, some_map, if_tt, if_ft, Bool.not_true, Bool.not_false, s1, s2, hal, eDg_ap, dVar_0, hdv, hkp, hfn x y (by omega) (by omega), ixTN hx, ixTN hy, absD_i, habs, ← hw, hfn0, hlt, hin]
      by_cases hon : [(x : Int), (y : Int)] ∈ way (wf f s) i j
      · have hgt : decide (S (wf f s) i j 0 0 < S (wf f s) x y 0 0 + S (wf f s) i j x y - wf f s x y) = false := decide_eq_false (by have := S_way_on hon; omega)
        simp only [decide_eq_true hon, gt_z, gt_s, st_z, st_s, fgs_n, fgs_c, eVar_z, eVar_s, bVar_zv, bVar_zo, bVar_s, eC_ap, e2_ap, e1_ap, aNil_ap, aCons_ap, eTup_ap, eA_ap, nA_ap, eLst_ap, nLst_ap, n2_ap, eSl_ap, nSl_ap, pN_ap, pI_ap, isI_int, isB_bl, t1_ap, tAn_ap, tOr_ap, tNo_ap, eAn_ap, eOr_ap, eIf_ap, eCh_ap, tTrue_ap, nSS_ap, sNil_ap, sSeq_ap, oN_nx, oN_rt, oN_bk, oN_ct, outV_rt, outV_nx, sRet_ap, sIf_ap, sPre_ap, xV_ap, xO_ap, xN_t, xN_f, sSet_ap, sPar_ap, sPar3_ap, sAsg_ap, sAug_ap, sApp_ap, sExt_ap, isO_o, lstD_l, gN_ap, gsNil_ap, gsCons_ap, gT_ap, gLen_ap, setIx_ap, set2_ap', frz_z, frz_s, sFor_ap, sWhile_ap, sBrk_ap, sCnt_ap, addD_i, catLD_l, iaddD_i, subD_i, negD_i, ltD_i, leD_i, gtD_i, geD_i, truD_b, truD_i, truD_n, truD_l, truD_t, notD_b, isD_n, isntD_n, isD_b, isntD_b, isNonD_i, isNonD_b, isNonD_n, isNonD_t, isNonD_l, intD_i, intD_b, lenD_l, lenD_t, tupOfD_l, tupOfD_t, lstOfD_l, lstOfD_t, ixD_l, ixD_t, slD_l, slD_t, slLD_l, iSeq_ap, seqD_l, seqD_t, eqD_i, neD_i, nR1_ap, nR2_ap, eTp_ap, enD_l, enD_t, tup0, tup1, tup2, tup3, tup4, lst0, lst1, lst2, len2, len3, bq00, bq10, bq01, bq11, emp_c, emp_n, emp_cc, emp_nn, decide_true, decide_false, if_true, if_false, Bool.false_eq_true, some_bind, some_map, if_tt, if_ft, Bool.not_true, Bool.not_false, hgt]
      · simp only [decide_eq_false hon, gt_z, gt_s, st_z, st_s, fgs_n, fgs_c, eVar_z, eVar_s, bVar_zv, bVar_zo, bVar_s, eC_ap, e2_ap, e1_ap, aNil_ap, aCons_ap, eTup_ap, eA_ap, nA_ap, eLst_ap, nLst_ap, n2_ap, eSl_ap, nSl_ap, pN_ap, pI_ap, isI_int, isB_bl, t1_ap, tAn_ap, tOr_ap, tNo_ap, eAn_ap, eOr_ap, eIf_ap, eCh_ap, tTrue_ap, nSS_ap, sNil_ap, sSeq_ap, oN_nx, oN_rt, oN_bk, oN_ct, outV_rt, outV_nx, sRet_ap, sIf_ap, sPre_ap, xV_ap, xO_ap, xN_t, xN_f, sSet_ap, sPar_ap, sPar3_ap, sAsg_ap, sAug_ap, sApp_ap, sExt_ap, isO_o, lstD_l, gN_ap, gsNil_ap, gsCons_ap, gT_ap, gLen_ap, setIx_ap, set2_ap', frz_z, frz_s, sFor_ap, sWhile_ap, sBrk_ap, sCnt_ap, addD_i, catLD_l, iaddD_i, subD_i, negD_i, ltD_i, leD_i, gtD_i, geD_i, truD_b, truD_i, truD_n, truD_l, truD_t, notD_b, isD_n, isntD_n, isD_b, isntD_b, isNonD_i, isNonD_b, isNonD_n, isNonD_t, isNonD_l, intD_i, intD_b, lenD_l, lenD_t, tupOfD_l, tupOfD_t, lstOfD_l, lstOfD_t, ixD_l, ixD_t, slD_l, slD_t, slLD_l, iSeq_ap, seqD_l, seqD_t, eqD_i, neD_i, nR1_ap, nR2_ap, eTp_ap, enD_l, enD_t, tup0, tup1, tup2, tup3, tup4, lst0, lst1, lst2, len2, len3, bq00, bq10, bq01, bq11, emp_c, emp_n, emp_cc, emp_nn, decide_true, decide_false, if_true, if_false, Bool.false_eq_true, some_bind, some_map, if_tt, if_ft, Bool.not_true, Bool.not_false]
  have hlk := likeW (l := way (wf f s) i j) (by omega) (fun z hz => by
    unfold way at hz
    rcases List.mem_cons.mp hz with rfl | hz
    · simp
    · obtain ⟨x, y, rfl, _⟩ := wl_two (i + j + 1) 0 0 (Nat.zero_le _) (Nat.zero_le _) z hz
      simp)
  rw [fa__law_way_right]
  unfold den__law_way_right
  simp only [gt_z, gt_s, st_z, st_s, fgs_n, fgs_c, eVar_z, eVar_s, bVar_zv, bVar_zo, bVar_s, eC_ap, e2_ap, e1_ap, aNil_ap, aCons_ap, eTup_ap, eA_ap, nA_ap, eLst_ap, nLst_ap, n2_ap, eSl_ap, nSl_ap, pN_ap, pI_ap, isI_int, isB_bl, t1_ap, tAn_ap, tOr_ap, tNo_ap, eAn_ap, eOr_ap, eIf_ap, eCh_ap, tTrue_ap, nSS_ap, sNil_ap, sSeq_ap, oN_nx, oN_rt, oN_bk, oN_ct, outV_rt, outV_nx, sRet_ap, sIf_ap, sPre_ap, xV_ap, xO_ap, xN_t, xN_f, sSet_ap, sPar_ap, sPar3_ap, sAsg_ap, sAug_ap, sApp_ap, sExt_ap, isO_o, lstD_l, gN_ap, gsNil_ap, gsCons_ap, gT_ap, gLen_ap, setIx_ap, set2_ap', frz_z, frz_s, sFor_ap, sWhile_ap, sBrk_ap, sCnt_ap, addD_i, catLD_l, iaddD_i, subD_i, negD_i, ltD_i, leD_i, gtD_i, geD_i, truD_b, truD_i, truD_n, truD_l, truD_t, notD_b, isD_n, isntD_n, isD_b, isntD_b, isNonD_i, isNonD_b, isNonD_n, isNonD_t, isNonD_l, intD_i, intD_b, lenD_l, lenD_t, tupOfD_l, tupOfD_t, lstOfD_l, lstOfD_t, ixD_l, ixD_t, slD_l, slD_t, slLD_l, iSeq_ap, seqD_l, seqD_t, eqD_i, neD_i, nR1_ap, nR2_ap, eTp_ap, enD_l, enD_t, tup0, tup1, tup2, tup3, tup4, lst0, lst1, lst2, len2, len3, bq00, bq10, bq01, bq11, emp_c, emp_n, emp_cc, emp_nn, decide_true, decide_false, if_true, if_false, Bool.false_eq_true, some_bind, some_map, if_tt, if_ft, Bool.not_true, Bool.not_false, hR, hsort, hl1, List.length_map]
  have hrg : rg1 [.int ((f.length : Int) + (s.length : Int))] = some (rngD 0 (f.length + s.length)) := by
    have := rg1N (n := f.length + s.length) (by omega)
    push_cast at this
    exact this
  simp only [hrg, gt_z, gt_s, st_z, st_s, fgs_n, fgs_c, eVar_z, eVar_s, bVar_zv, bVar_zo, bVar_s, eC_ap, e2_ap, e1_ap, aNil_ap, aCons_ap, eTup_ap, eA_ap, nA_ap, eLst_ap, nLst_ap, n2_ap, eSl_ap, nSl_ap, pN_ap, pI_ap, isI_int, isB_bl, t1_ap, tAn_ap, tOr_ap, tNo_ap, eAn_ap, eOr_ap, eIf_ap, eCh_ap, tTrue_ap, nSS_ap, sNil_ap, sSeq_ap, oN_nx, oN_rt, oN_bk, oN_ct, outV_rt, outV_nx, sRet_ap, sIf_ap, sPre_ap, xV_ap, xO_ap, xN_t, xN_f, sSet_ap, sPar_ap, sPar3_ap, sAsg_ap, sAug_ap, sApp_ap, sExt_ap, isO_o, lstD_l, gN_ap, gsNil_ap, gsCons_ap, gT_ap, gLen_ap, setIx_ap, set2_ap', frz_z, frz_s, sFor_ap, sWhile_ap, sBrk_ap, sCnt_ap, addD_i, catLD_l, iaddD_i, subD_i, negD_i, ltD_i, leD_i, gtD_i, geD_i, truD_b, truD_i, truD_n, truD_l, truD_t, notD_b, isD_n, isntD_n, isD_b, isntD_b, isNonD_i, isNonD_b, isNonD_n, isNonD_t, isNonD_l, intD_i, intD_b, lenD_l, lenD_t, tupOfD_l, tupOfD_t, lstOfD_l, lstOfD_t, ixD_l, ixD_t, slD_l, slD_t, slLD_l, iSeq_ap, seqD_l, seqD_t, eqD_i, neD_i, nR1_ap, nR2_ap, eTp_ap, enD_l, enD_t, tup0, tup1, tup2, tup3, tup4, lst0, lst1, lst2, len2, len3, bq00, bq10, bq01, bq11, emp_c, emp_n, emp_cc, emp_nn, decide_true, decide_false, if_true, if_false, Bool.false_eq_true, some_bind, some_map, if_tt, if_ft, Bool.not_true, Bool.not_false, hl2, hW, hlk, hsort, hl3]
end K75
end

section
set_option maxRecDepth 100000
set_option maxHeartbeats 4000000
namespace K75
open PySem L2 PV PVL
/-! ### numbers moved and taken times -/
theorem min_scale {c a b : Int} (hc : 0 < c) : min (c * a) (c * b) = c * min a b := by
  rcases Int.le_total a b with h | h
  · rw [Int.min_eq_left h, Int.min_eq_left (Int.mul_le_mul_of_nonneg_left h (by omega))]
  · rw [Int.min_eq_right h, Int.min_eq_right (Int.mul_le_mul_of_nonneg_left h (by omega))]
theorem Dt_scale {c : Int} (hc : 0 < c) {u v : Nat → Nat → Int} : ∀ (a b : Nat), (∀ x y, x ≤ a → y ≤ b → v x y = c * u x y) → Dt v a b = c * Dt u a b
  | 0, 0, h => by simp only [Dt]; exact h 0 0 (Nat.le_refl _) (Nat.le_refl _)
  | 0, b + 1, h => by
    simp only [Dt]
    rw [h 0 (b + 1) (Nat.le_refl _) (Nat.le_refl _), Dt_scale hc 0 b fun x y hx hy => h x y hx (by omega), Int.mul_add]
  | a + 1, 0, h => by
    simp only [Dt]
    rw [h (a + 1) 0 (Nat.le_refl _) (Nat.le_refl _), Dt_scale hc a 0 fun x y hx hy => h x y (by omega) hy, Int.mul_add]
  | a + 1, b + 1, h => by
    simp only [Dt]
    rw [h (a + 1) (b + 1) (Nat.le_refl _) (Nat.le_refl _), Dt_scale hc (a + 1) b fun x y hx hy => h x y hx (by omega), Dt_scale hc a (b + 1) fun x y hx hy => h x y (by omega) hy, Dt_scale hc a b fun x y hx hy => h x y (by omega) (by omega), min_scale hc, min_scale hc, Int.mul_add]
theorem S_scale {c : Int} (hc : 0 < c) {w v : Nat → Nat → Int} {p q i j : Nat} (h : ∀ x y, x ≤ p → y ≤ q → v x y = c * w x y) : S v p q i j = c * S w p q i j :=
  Dt_scale hc _ _ fun x y _ _ => h _ _ (by omega) (by omega)
theorem mn_scale {c : Int} (hc : 0 < c) : ∀ {xs : List Int}, 0 < xs.length → mn (xs.map (c * ·)) = c * mn xs := fun {xs} h => by
  have h1 := mn_mem (xs := xs) (by intro e; rw [e] at h; cases h)
  have h2 := mn_mem (xs := xs.map (c * ·)) (by intro e; rw [List.map_eq_nil_iff] at e; rw [e] at h; cases h)
  obtain ⟨y, hy, e⟩ := List.mem_map.mp h2
  have h3 : mn (xs.map (c * ·)) ≤ c * mn xs := mn_le (List.mem_map.mpr ⟨_, h1, rfl⟩)
  have h4 := mn_le hy
  have h5 : c * mn xs ≤ c * y := Int.mul_le_mul_of_nonneg_left h4 (by omega)
  have e : c * y = mn (xs.map (c * ·)) := e
  omega
theorem gl_scale {c : Int} (hc : 0 < c) {w v : Nat → Nat → Int} {p q : Nat} {k : List Int} (h : ∀ i j, S v p q i j = c * S w p q i j) : gl v p q k = gl w p q k := by
  unfold gl
  have e : (nx p q k).map (vS v p q) = ((nx p q k).map (vS w p q)).map (c * ·) := by
    rw [List.map_map]
    exact List.map_congr_left fun z _ => h _ _
  by_cases hn : 0 < (nx p q k).length
  · rw [e, mn_scale hc (by rw [List.length_map]; exact hn)]
    refine List.filter_congr fun z _ => decide_eq_decide.mpr ?_
    have : vS v p q z = c * vS w p q z := h _ _
    rw [this]
    exact ⟨fun q => Int.eq_of_mul_eq_mul_left (by omega) q, fun q => by rw [q]⟩
  · have : nx p q k = [] := List.length_eq_zero_iff.mp (by omega)
    rw [this]; rfl
theorem wl_scale {c : Int} (hc : 0 < c) {w v : Nat → Nat → Int} {p q : Nat} (h : ∀ i j, S v p q i j = c * S w p q i j) : ∀ (n : Nat) (k : List Int), wl v p q n k = wl w p q n k
  | 0, _ => rfl
  | n + 1, k => by
    have : gs v p q k = gs w p q k := by unfold gs; rw [gl_scale hc h]
    rw [wl_s, wl_s, this, wl_scale hc h n]
theorem way_scale {c : Int} (hc : 0 < c) {w v : Nat → Nat → Int} {p q : Nat} (h : ∀ i j, S v p q i j = c * S w p q i j) : way v p q = way w p q := by
  unfold way WY
  rw [wl_scale hc h]
theorem ab_na (x : Int) : ab x = (x.natAbs : Int) := by unfold ab; split <;> omega
theorem ab_mul (c x : Int) : ab (c * x) = ab c * ab x := by
  rw [ab_na, ab_na, ab_na, Int.natAbs_mul]
  exact Int.natCast_mul _ _
theorem wf_aff {f s : List Int} {c u : Int} {x y : Nat} (hx : x < f.length) (hy : y < s.length) : wf (f.map fun z => c * z + u) (s.map fun z => c * z + u) x y = ab c * wf f s x y := by
  unfold wf
  have e : ∀ (l : List Int) (k : Nat), k < l.length → (l.map fun z => c * z + u).getD k 0 = c * l.getD k 0 + u := fun l k h => by
    rw [List.getD_eq_getElem?_getD, List.getElem?_map, List.getD_eq_getElem?_getD, List.getElem?_eq_getElem h]; rfl
  rw [e f x hx, e s y hy, ← ab_mul]
  congr 1
  rw [Int.mul_sub]; omega
theorem S_aff {f s : List Int} {c u : Int} (hc : c ≠ 0) (l1 : 0 < f.length) (l2 : 0 < s.length) (i j : Nat) : S (wf (f.map fun z => c * z + u) (s.map fun z => c * z + u)) (f.length - 1) (s.length - 1) i j = ab c * S (wf f s) (f.length - 1) (s.length - 1) i j :=
  S_scale (by unfold ab; split <;> omega) fun x y hx hy => wf_aff (by omega) (by omega)
theorem A_aff {f s : List Int} {c u : Int} (hc : c ≠ 0) (l1 : 0 < f.length) (l2 : 0 < s.length) : A (f.map fun z => c * z + u) (s.map fun z => c * z + u) = ab c * A f s := by
  unfold A
  rw [if_neg (by rw [List.length_map, List.length_map]; omega), if_neg (by omega), List.length_map, List.length_map]
  exact S_aff hc l1 l2 0 0
theorem way_aff {f s : List Int} {c u : Int} (hc : c ≠ 0) (l1 : 0 < f.length) (l2 : 0 < s.length) : way (wf (f.map fun z => c * z + u) (s.map fun z => c * z + u)) (f.length - 1) (s.length - 1) = way (wf f s) (f.length - 1) (s.length - 1) :=
  way_scale (c := ab c) (by unfold ab; split <;> omega) (S_aff hc l1 l2)
/-! ### as lists -/
theorem ab_nn (x : Int) : 0 ≤ ab x := by unfold ab; split <;> omega
theorem Dt_nn {u : Nat → Nat → Int} (h : ∀ x y, 0 ≤ u x y) : ∀ a b, 0 ≤ Dt u a b
  | 0, 0 => by simp only [Dt]; exact h 0 0
  | 0, b + 1 => by simp only [Dt]; have := h 0 (b + 1); have := Dt_nn h 0 b; omega
  | a + 1, 0 => by simp only [Dt]; have := h (a + 1) 0; have := Dt_nn h a 0; omega
  | a + 1, b + 1 => by
    simp only [Dt]
    have := h (a + 1) (b + 1); have := Dt_nn h (a + 1) b; have := Dt_nn h a (b + 1); have := Dt_nn h a b
    omega
theorem A_nn (f s : List Int) : 0 ≤ A f s := by
  unfold A
  split
  · omega
  · exact Dt_nn (fun x y => ab_nn _) _ _
theorem A_one (x y : Int) : A [x] [y] = ab (x - y) := by
  unfold A
  rw [if_neg (by simp)]
  exact S_end _ 0 0
theorem A_cons {x y : Int} {f s : List Int} : A (x :: f) (y :: s) = ab (x - y) + (if f = [] then (if s = [] then 0 else A [x] s) else if s = [] then A f [y] else min (min (A (x :: f) s) (A f (y :: s))) (A f s)) := by
  have hw : wf (x :: f) (y :: s) 0 0 = ab (x - y) := rfl
  have e0 : A (x :: f) (y :: s) = S (wf (x :: f) (y :: s)) f.length s.length 0 0 := by
    unfold A; rw [if_neg (by simp)]; rfl
  have er : ∀ (h : 0 < s.length), S (wf (x :: f) (y :: s)) f.length s.length 0 1 = A (x :: f) s := fun h => (A_drop (f := x :: f) (s := y :: s) (i := 0) (j := 1) (by simp) (by simp; omega)).symm
  have ed : ∀ (h : 0 < f.length), S (wf (x :: f) (y :: s)) f.length s.length 1 0 = A f (y :: s) := fun h => (A_drop (f := x :: f) (s := y :: s) (i := 1) (j := 0) (by simp; omega) (by simp)).symm
  have eb : ∀ (h : 0 < f.length) (h2 : 0 < s.length), S (wf (x :: f) (y :: s)) f.length s.length 1 1 = A f s := fun h h2 => (A_drop (f := x :: f) (s := y :: s) (i := 1) (j := 1) (by simp; omega) (by simp; omega)).symm
  rw [e0]
  by_cases h1 : f = []
  · subst h1
    rw [if_pos rfl]
    by_cases h2 : s = []
    · subst h2
      rw [if_pos rfl]
      show S _ 0 0 0 0 = _
      rw [S_end, hw]; omega
    · rw [if_neg h2]
      have l2 : 0 < s.length := List.length_pos_iff.mpr h2
      show S _ 0 s.length 0 0 = _
      rw [S_row l2, hw]
      congr 1
      exact er l2
  · rw [if_neg h1]
    have l1 : 0 < f.length := List.length_pos_iff.mpr h1
    by_cases h2 : s = []
    · subst h2
      rw [if_pos rfl]
      show S _ f.length 0 0 0 = _
      rw [S_col l1, hw]
      congr 1
      exact ed l1
    · rw [if_neg h2]
      have l2 : 0 < s.length := List.length_pos_iff.mpr h2
      rw [S_in l1 l2, hw, er l2, ed l1, eb l1 l2]
/-- without repeats -/
def pl : List Int → List Int
  | [] => []
  | [x] => [x]
  | x :: y :: r => if x = y then pl (y :: r) else x :: pl (y :: r)
theorem pl_head (x : Int) : ∀ r : List Int, ∃ t, pl (x :: r) = x :: t
  | [] => ⟨[], rfl⟩
  | y :: r => by
    unfold pl
    split
    · rename_i e; subst e; exact pl_head x r
    · exact ⟨_, rfl⟩
theorem ab_zero {x : Int} : ab x = 0 ↔ x = 0 := by unfold ab; split <;> omega
theorem A_zero : ∀ (n : Nat) (x y : Int) (f s : List Int), f.length + s.length ≤ n → (A (x :: f) (y :: s) = 0 ↔ pl (x :: f) = pl (y :: s))
  | n, x, y, f, s, hn => by
    have hh : pl (x :: f) = pl (y :: s) → x = y := fun e => by
      obtain ⟨t, e1⟩ := pl_head x f
      obtain ⟨t', e2⟩ := pl_head y s
      rw [e1, e2] at e
      exact (List.cons.inj e).1
    rw [A_cons]
    match f, s, hn with
    | [], [], _ =>
      rw [if_pos rfl, if_pos rfl]
      show ab (x - y) + 0 = 0 ↔ [x] = [y]
      have := ab_zero (x := x - y)
      have h0 := ab_nn (x - y)
      constructor
      · intro h; rw [show x = y by omega]
      · intro h; have := (List.cons.inj h).1; omega
    | [], z :: s, hn =>
      rw [if_pos rfl, if_neg (by simp)]
      have ih := A_zero (n - 1) x z [] s (by simp at hn ⊢; omega)
      have h0 := ab_nn (x - y)
      have h1 := A_nn [x] (z :: s)
      have hz := ab_zero (x := x - y)
      constructor
      · intro h
        have e1 : x = y := by omega
        have e2 := ih.mp (by omega)
        subst e1
        have e3 : x = z := by
          obtain ⟨t', e2'⟩ := pl_head z s
          rw [e2'] at e2
          exact (List.cons.inj e2).1
        subst e3
        rw [e2]
        show _ = (if x = x then pl (x :: s) else _)
        rw [if_pos rfl]
      · intro h
        have e1 := hh h
        subst e1
        have h2 : pl [x] = (if x = z then pl (z :: s) else x :: pl (z :: s)) := h
        split at h2
        · have := ih.mpr h2; omega
        · obtain ⟨t', e2'⟩ := pl_head z s
          rw [e2'] at h2
          exact absurd h2 (by show ¬ [x] = x :: z :: t'; simp)
    | z :: f, [], hn =>
      rw [if_neg (by simp), if_pos rfl]
      have ih := A_zero (n - 1) z y f [] (by simp at hn ⊢; omega)
      have h0 := ab_nn (x - y)
      have h1 := A_nn (z :: f) [y]
      have hz := ab_zero (x := x - y)
      constructor
      · intro h
        have e1 : x = y := by omega
        have e2 := ih.mp (by omega)
        subst e1
        have e3 : z = x := by
          obtain ⟨t', e2'⟩ := pl_head z f
          rw [e2'] at e2
          exact (List.cons.inj e2).1
        subst e3
        rw [← e2]
        show (if z = z then pl (z :: f) else _) = _
        rw [if_pos rfl]
      · intro h
        have e1 := hh h
        subst e1
        have h2 : (if x = z then pl (z :: f) else x :: pl (z :: f)) = pl [x] := h
        split at h2
        · have := ih.mpr h2; omega
        · obtain ⟨t', e2'⟩ := pl_head z f
          rw [e2'] at h2
          exact absurd h2 (by show ¬ x :: z :: t' = [x]; simp)
    | u :: f, v :: s, hn =>
      rw [if_neg (by simp), if_neg (by simp)]
      have i1 := A_zero (n - 1) x v (u :: f) s (by simp at hn ⊢; omega)
      have i2 := A_zero (n - 1) u y f (v :: s) (by simp at hn ⊢; omega)
      have i3 := A_zero (n - 1) u v f s (by simp at hn ⊢; omega)
      have h0 := ab_nn (x - y)
      have n1 := A_nn (x :: u :: f) (v :: s)
      have n2 := A_nn (u :: f) (y :: v :: s)
      have n3 := A_nn (u :: f) (v :: s)
      have hz := ab_zero (x := x - y)
      have px : pl (x :: u :: f) = if x = u then pl (u :: f) else x :: pl (u :: f) := rfl
      have py : pl (y :: v :: s) = if y = v then pl (v :: s) else y :: pl (v :: s) := rfl
      have hd : ∀ (a b : Int) (l m : List Int), pl (a :: l) = pl (b :: m) → a = b := fun a b l m e => by
        obtain ⟨t, e1⟩ := pl_head a l
        obtain ⟨t', e2⟩ := pl_head b m
        rw [e1, e2] at e
        exact (List.cons.inj e).1
      constructor
      · intro h
        have e1 : x = y := by omega
        subst e1
        rcases (by omega : A (x :: u :: f) (v :: s) = 0 ∨ A (u :: f) (x :: v :: s) = 0 ∨ A (u :: f) (v :: s) = 0) with z | z | z
        · have e := i1.mp z
          have := hd _ _ _ _ e
          subst this
          rw [e, py, if_pos rfl]
        · have e := i2.mp z
          have := hd _ _ _ _ e
          subst this
          rw [← e, px, if_pos rfl]
        · have e := i3.mp z
          have := hd _ _ _ _ e
          subst this
          rw [px, py, e]
      · intro h
        have e1 := hh h
        subst e1
        by_cases c1 : x = u
        · have : pl (u :: f) = pl (x :: v :: s) := by rw [← h, px, if_pos c1]
          have := i2.mpr this
          omega
        · by_cases c2 : x = v
          · have : pl (x :: u :: f) = pl (v :: s) := by rw [h, py, if_pos c2]
            have := i1.mpr this
            omega
          · rw [px, py, if_neg c1, if_neg c2] at h
            have := i3.mpr (List.cons.inj h).2
            omega
end K75
end

section
set_option maxRecDepth 100000
set_option maxHeartbeats 4000000
namespace K75
open PySem L2 PV PVL
theorem pl_two : ∀ (xs : List Int) (y x : Int), pl (xs ++ [y, x]) = if y = x then pl (xs ++ [y]) else pl (xs ++ [y]) ++ [x]
  | [], y, x => by
    show (if y = x then [x] else y :: [x]) = if y = x then [y] else [y] ++ [x]
    by_cases h : y = x
    · subst h; simp
    · simp [h]
  | [a], y, x => by
    have ih := pl_two [] y x
    show (if a = y then pl [y, x] else a :: pl [y, x]) = if y = x then (if a = y then [y] else a :: [y]) else (if a = y then [y] else a :: [y]) ++ [x]
    rw [show pl [y, x] = if y = x then pl ([] ++ [y]) else pl ([] ++ [y]) ++ [x] from ih]
    by_cases h : y = x <;> by_cases h2 : a = y <;> simp [h, h2, pl]
  | a :: b :: r, y, x => by
    have ih := pl_two (b :: r) y x
    show (if a = b then pl (b :: r ++ [y, x]) else a :: pl (b :: r ++ [y, x])) = if y = x then (if a = b then pl (b :: r ++ [y]) else a :: pl (b :: r ++ [y])) else (if a = b then pl (b :: r ++ [y]) else a :: pl (b :: r ++ [y])) ++ [x]
    rw [ih]
    by_cases h : y = x <;> by_cases h2 : a = b <;> simp [h, h2]
theorem pl_last : ∀ (n : Nat) (t : List Int) (y : Int), t.length = n → ∃ u, pl (t ++ [y]) = u ++ [y]
  | 0, t, y, h => by
    rw [List.length_eq_zero_iff.mp h]; exact ⟨[], rfl⟩
  | n + 1, t, y, h => by
    rcases List.eq_nil_or_concat t with h0 | ⟨t0, z, h0⟩
    · subst h0; cases h
    · rw [List.concat_eq_append] at h0
      subst h0
      obtain ⟨u, hu⟩ := pl_last n t0 z (by simpa using h)
      have e : t0 ++ [z] ++ [y] = t0 ++ [z, y] := by simp
      rw [e, pl_two]
      by_cases q : z = y
      · subst q; rw [if_pos rfl]; exact ⟨u, hu⟩
      · rw [if_neg q]; exact ⟨_, rfl⟩
theorem take_two {xs : List Int} {n : Nat} (h : n + 1 < xs.length) : xs.take (n + 2) = xs.take n ++ [xs.getD n 0, xs.getD (n + 1) 0] := by
  rw [List.getD_eq_getElem?_getD, List.getElem?_eq_getElem (by omega), List.getD_eq_getElem?_getD, List.getElem?_eq_getElem h]
  have h1 : xs[n + 1]? = some xs[n + 1] := List.getElem?_eq_getElem h
  have h2 : xs[n]? = some xs[n] := List.getElem?_eq_getElem (by omega)
  rw [take_snoc h1, take_snoc h2, List.append_assoc]; rfl
def plp (xs : List Int) (k : Nat) : Bool := k == 0 || !(xs.getD k 0 == xs.getD (k - 1) 0)
theorem pl_take (xs : List Int) : ∀ n, n ≤ xs.length → ((List.range n).filter (plp xs)).map (fun k => xs.getD k 0) = pl (xs.take n)
  | 0, _ => rfl
  | 1, h => by
    have h1 : xs[0]? = some xs[0] := List.getElem?_eq_getElem (by omega)
    have e : xs.take 1 = [xs.getD 0 0] := by
      have := take_snoc h1
      rw [List.take_zero] at this
      rw [List.getD_eq_getElem?_getD, h1]; exact this
    rw [e]; rfl
  | n + 2, h => by
    have ih := pl_take xs (n + 1) (by omega)
    have h1 : xs[n]? = some (xs.getD n 0) := by rw [List.getD_eq_getElem?_getD, List.getElem?_eq_getElem (by omega)]; rfl
    rw [List.range_succ, List.filter_append, List.map_append, ih, take_two (by omega), pl_two, ← take_snoc h1]
    have hp : plp xs (n + 1) = !(xs.getD (n + 1) 0 == xs.getD n 0) := by unfold plp; simp
    by_cases c : xs.getD n 0 = xs.getD (n + 1) 0
    · have : (xs.getD (n + 1) 0 == xs.getD n 0) = true := beq_iff_eq.mpr c.symm
      rw [if_pos c, List.filter_cons_of_neg (by rw [hp, this]; decide)]; simp
    · have : (xs.getD (n + 1) 0 == xs.getD n 0) = false := beq_eq_false_iff_ne.mpr fun e => c e.symm
      rw [if_neg c, List.filter_cons_of_pos (by rw [hp, this]; rfl)]; simp
theorem plain_ap {xs : List Int} (h : xs.length ≤ 1000) : F__law_plain [iT xs] = some (iT (pl xs)) := by
  have e := pl_take xs xs.length (Nat.le_refl _)
  rw [List.take_length] at e
  have hc : c__law_plain_1 [some (.v (iT xs)), none] = some ((pl xs).map .int) := by
    unfold c__law_plain_1
    rw [← e, List.map_map]
    refine compRF (lo := 0) (n := xs.length) (p := plp xs) ?_ (by omega) (fun i hi => ?_) fun i hi _ => ?_
    · simp only [gt_z, gt_s, st_z, st_s, fgs_n, fgs_c, eVar_z, eVar_s, bVar_zv, bVar_zo, bVar_s, eC_ap, e2_ap, e1_ap, aNil_ap, aCons_ap, eTup_ap, eA_ap, nA_ap, eLst_ap, nLst_ap, n2_ap, eSl_ap, nSl_ap, pN_ap, pI_ap, isI_int, isB_bl, t1_ap, tAn_ap, tOr_ap, tNo_ap, eAn_ap, eOr_ap, eIf_ap, eCh_ap, tTrue_ap, nSS_ap, sNil_ap, sSeq_ap, oN_nx, oN_rt, oN_bk, oN_ct, outV_rt, outV_nx, sRet_ap, sIf_ap, sPre_ap, xV_ap, xO_ap, xN_t, xN_f, sSet_ap, sPar_ap, sPar3_ap, sAsg_ap, sAug_ap, sApp_ap, sExt_ap, isO_o, lstD_l, gN_ap, gsNil_ap, gsCons_ap, gT_ap, gLen_ap, setIx_ap, set2_ap', frz_z, frz_s, sFor_ap, sWhile_ap, sBrk_ap, sCnt_ap, addD_i, catLD_l, iaddD_i, subD_i, negD_i, ltD_i, leD_i, gtD_i, geD_i, truD_b, truD_i, truD_n, truD_l, truD_t, notD_b, isD_n, isntD_n, isD_b, isntD_b, isNonD_i, isNonD_b, isNonD_n, isNonD_t, isNonD_l, intD_i, intD_b, lenD_l, lenD_t, tupOfD_l, tupOfD_t, lstOfD_l, lstOfD_t, ixD_l, ixD_t, slD_l, slD_t, slLD_l, iSeq_ap, seqD_l, seqD_t, eqD_i, neD_i, nR1_ap, nR2_ap, eTp_ap, enD_l, enD_t, tup0, tup1, tup2, tup3, tup4, lst0, lst1, lst2, len2, len3, bq00, bq10, bq01, bq11, emp_c, emp_n, emp_cc, emp_nn, decide_true, decide_false, if_true, if_false, Bool.false_eq_true, some_bind, some_map, if_tt, if_ft, Bool.not_true, Bool.not_false, List.length_map]
      exact rg1N (by omega)
    · unfold plp
      by_cases c : i = 0
      · subst c
        have e0 : ((0 : Int) + ((0 : Nat) : Int) == 0) = true := rfl
        have e1 : ((0 : Nat) == 0) = true := rfl
        simp only [gt_z, gt_s, st_z, st_s, fgs_n, fgs_c, eVar_z, eVar_s, bVar_zv, bVar_zo, bVar_s, eC_ap, e2_ap, e1_ap, aNil_ap, aCons_ap, eTup_ap, eA_ap, nA_ap, eLst_ap, nLst_ap, n2_ap, eSl_ap, nSl_ap, pN_ap, pI_ap, isI_int, isB_bl, t1_ap, tAn_ap, tOr_ap, tNo_ap, eAn_ap, eOr_ap, eIf_ap, eCh_ap, tTrue_ap, nSS_ap, sNil_ap, sSeq_ap, oN_nx, oN_rt, oN_bk, oN_ct, outV_rt, outV_nx, sRet_ap, sIf_ap, sPre_ap, xV_ap, xO_ap, xN_t, xN_f, sSet_ap, sPar_ap, sPar3_ap, sAsg_ap, sAug_ap, sApp_ap, sExt_ap, isO_o, lstD_l, gN_ap, gsNil_ap, gsCons_ap, gT_ap, gLen_ap, setIx_ap, set2_ap', frz_z, frz_s, sFor_ap, sWhile_ap, sBrk_ap, sCnt_ap, addD_i, catLD_l, iaddD_i, subD_i, negD_i, ltD_i, leD_i, gtD_i, geD_i, truD_b, truD_i, truD_n, truD_l, truD_t, notD_b, isD_n, isntD_n, isD_b, isntD_b, isNonD_i, isNonD_b, isNonD_n, isNonD_t, isNonD_l, intD_i, intD_b, lenD_l, lenD_t, tupOfD_l, tupOfD_t, lstOfD_l, lstOfD_t, ixD_l, ixD_t, slD_l, slD_t, slLD_l, iSeq_ap, seqD_l, seqD_t, eqD_i, neD_i, nR1_ap, nR2_ap, eTp_ap, enD_l, enD_t, tup0, tup1, tup2, tup3, tup4, lst0, lst1, lst2, len2, len3, bq00, bq10, bq01, bq11, emp_c, emp_n, emp_cc, emp_nn, decide_true, decide_false, if_true, if_false, Bool.false_eq_true, some_bind, some_map, if_tt, if_ft, Bool.not_true, Bool.not_false, e0, e1, Bool.true_or]
      · have e1 : ((i : Int) == 0) = false := beq_eq_false_iff_ne.mpr (by omega)
        have e2 : (i == 0) = false := beq_eq_false_iff_ne.mpr c
        have e3 : (i : Int) - 1 = ((i - 1 : Nat) : Int) := by omega
        simp only [gt_z, gt_s, st_z, st_s, fgs_n, fgs_c, eVar_z, eVar_s, bVar_zv, bVar_zo, bVar_s, eC_ap, e2_ap, e1_ap, aNil_ap, aCons_ap, eTup_ap, eA_ap, nA_ap, eLst_ap, nLst_ap, n2_ap, eSl_ap, nSl_ap, pN_ap, pI_ap, isI_int, isB_bl, t1_ap, tAn_ap, tOr_ap, tNo_ap, eAn_ap, eOr_ap, eIf_ap, eCh_ap, tTrue_ap, nSS_ap, sNil_ap, sSeq_ap, oN_nx, oN_rt, oN_bk, oN_ct, outV_rt, outV_nx, sRet_ap, sIf_ap, sPre_ap, xV_ap, xO_ap, xN_t, xN_f, sSet_ap, sPar_ap, sPar3_ap, sAsg_ap, sAug_ap, sApp_ap, sExt_ap, isO_o, lstD_l, gN_ap, gsNil_ap, gsCons_ap, gT_ap, gLen_ap, setIx_ap, set2_ap', frz_z, frz_s, sFor_ap, sWhile_ap, sBrk_ap, sCnt_ap, addD_i, catLD_l, iaddD_i, subD_i, negD_i, ltD_i, leD_i, gtD_i, geD_i, truD_b, truD_i, truD_n, truD_l, truD_t, notD_b, isD_n, isntD_n, isD_b, isntD_b, isNonD_i, isNonD_b, isNonD_n, isNonD_t, isNonD_l, intD_i, intD_b, lenD_l, lenD_t, tupOfD_l, tupOfD_t, lstOfD_l, lstOfD_t, ixD_l, ixD_t, slD_l, slD_t, slLD_l, iSeq_ap, seqD_l, seqD_t, eqD_i, neD_i, nR1_ap, nR2_ap, eTp_ap, enD_l, enD_t, tup0, tup1, tup2, tup3, tup4, lst0, lst1, lst2, len2, len3, bq00, bq10, bq01, bq11, emp_c, emp_n, emp_cc, emp_nn, decide_true, decide_false, if_true, if_false, Bool.false_eq_true, some_bind, some_map, if_tt, if_ft, Bool.not_true, Bool.not_false, Int.zero_add, e1, e2, e3, ixTN (show i < xs.length by omega), ixTN (show i - 1 < xs.length by omega), Bool.false_or]
    · simp only [gt_z, gt_s, st_z, st_s, fgs_n, fgs_c, eVar_z, eVar_s, bVar_zv, bVar_zo, bVar_s, eC_ap, e2_ap, e1_ap, aNil_ap, aCons_ap, eTup_ap, eA_ap, nA_ap, eLst_ap, nLst_ap, n2_ap, eSl_ap, nSl_ap, pN_ap, pI_ap, isI_int, isB_bl, t1_ap, tAn_ap, tOr_ap, tNo_ap, eAn_ap, eOr_ap, eIf_ap, eCh_ap, tTrue_ap, nSS_ap, sNil_ap, sSeq_ap, oN_nx, oN_rt, oN_bk, oN_ct, outV_rt, outV_nx, sRet_ap, sIf_ap, sPre_ap, xV_ap, xO_ap, xN_t, xN_f, sSet_ap, sPar_ap, sPar3_ap, sAsg_ap, sAug_ap, sApp_ap, sExt_ap, isO_o, lstD_l, gN_ap, gsNil_ap, gsCons_ap, gT_ap, gLen_ap, setIx_ap, set2_ap', frz_z, frz_s, sFor_ap, sWhile_ap, sBrk_ap, sCnt_ap, addD_i, catLD_l, iaddD_i, subD_i, negD_i, ltD_i, leD_i, gtD_i, geD_i, truD_b, truD_i, truD_n, truD_l, truD_t, notD_b, isD_n, isntD_n, isD_b, isntD_b, isNonD_i, isNonD_b, isNonD_n, isNonD_t, isNonD_l, intD_i, intD_b, lenD_l, lenD_t, tupOfD_l, tupOfD_t, lstOfD_l, lstOfD_t, ixD_l, ixD_t, slD_l, slD_t, slLD_l, iSeq_ap, seqD_l, seqD_t, eqD_i, neD_i, nR1_ap, nR2_ap, eTp_ap, enD_l, enD_t, tup0, tup1, tup2, tup3, tup4, lst0, lst1, lst2, len2, len3, bq00, bq10, bq01, bq11, emp_c, emp_n, emp_cc, emp_nn, decide_true, decide_false, if_true, if_false, Bool.false_eq_true, some_bind, some_map, if_tt, if_ft, Bool.not_true, Bool.not_false, Int.zero_add, ixTN (show i < xs.length by omega)]; rfl
  rw [fa__law_plain]
  unfold den__law_plain
  simp only [gt_z, gt_s, st_z, st_s, fgs_n, fgs_c, eVar_z, eVar_s, bVar_zv, bVar_zo, bVar_s, eC_ap, e2_ap, e1_ap, aNil_ap, aCons_ap, eTup_ap, eA_ap, nA_ap, eLst_ap, nLst_ap, n2_ap, eSl_ap, nSl_ap, pN_ap, pI_ap, isI_int, isB_bl, t1_ap, tAn_ap, tOr_ap, tNo_ap, eAn_ap, eOr_ap, eIf_ap, eCh_ap, tTrue_ap, nSS_ap, sNil_ap, sSeq_ap, oN_nx, oN_rt, oN_bk, oN_ct, outV_rt, outV_nx, sRet_ap, sIf_ap, sPre_ap, xV_ap, xO_ap, xN_t, xN_f, sSet_ap, sPar_ap, sPar3_ap, sAsg_ap, sAug_ap, sApp_ap, sExt_ap, isO_o, lstD_l, gN_ap, gsNil_ap, gsCons_ap, gT_ap, gLen_ap, setIx_ap, set2_ap', frz_z, frz_s, sFor_ap, sWhile_ap, sBrk_ap, sCnt_ap, addD_i, catLD_l, iaddD_i, subD_i, negD_i, ltD_i, leD_i, gtD_i, geD_i, truD_b, truD_i, truD_n, truD_l, truD_t, notD_b, isD_n, isntD_n, isD_b, isntD_b, isNonD_i, isNonD_b, isNonD_n, isNonD_t, isNonD_l, intD_i, intD_b, lenD_l, lenD_t, tupOfD_l, tupOfD_t, lstOfD_l, lstOfD_t, ixD_l, ixD_t, slD_l, slD_t, slLD_l, iSeq_ap, seqD_l, seqD_t, eqD_i, neD_i, nR1_ap, nR2_ap, eTp_ap, enD_l, enD_t, tup0, tup1, tup2, tup3, tup4, lst0, lst1, lst2, len2, len3, bq00, bq10, bq01, bq11, emp_c, emp_n, emp_cc, emp_nn, decide_true, decide_false, if_true, if_false, Bool.false_eq_true, some_bind, some_map, if_tt, if_ft, Bool.not_true, Bool.not_false, hc, itf]
where itf (ys : List Int) : PyData.tuple (ys.map PyData.int) = iT ys := id rfl
/-! ### runs -/
def rp (r : Int × Int) : D := .tuple [.int r.1, .int r.2]
theorem runs_ap {xs : List Int} (h : xs.length ≤ 1000) : ∃ R : List (Int × Int), F_runs_of [iT xs] = some (.list (R.map rp)) ∧ R.map Prod.snd = pl xs ∧ R.length ≤ xs.length := by
  obtain ⟨e', hf, R, he, h1, h2⟩ := forL_inv (tgt := gN 2) (body := b_runs_of_1) (is := [2]) (ds := xs.map .int) (env := [some (.v (iT xs)), some (.own []), none])
    (fun i e => ∃ R : List (Int × Int), e = [some (.v (iT xs)), some (.own (R.map rp)), none] ∧ R.map Prod.snd = pl (xs.take i) ∧ R.length ≤ i) ⟨[], rfl, rfl, Nat.le_refl _⟩ (fun i d e hd ⟨R, he, h1, h2⟩ => by
      subst he
      rw [List.getElem?_map] at hd
      obtain ⟨x, hx, rfl⟩ := Option.map_eq_some_iff.mp hd
      have hi := (List.getElem?_eq_some_iff.mp hx).1
      rw [take_snoc hx]
      rcases List.eq_nil_or_concat R with hR | ⟨R0, r, hR⟩
      · subst hR
        have hi0 : xs.take i = [] := by
          cases hxt : xs.take i with
          | nil => rfl
          | cons a t =>
            rw [hxt] at h1
            obtain ⟨t', e⟩ := pl_head a t
            rw [e] at h1; cases h1
        refine ⟨[some (.v (iT xs)), some (.own ([((1 : Int), x)].map rp)), none], turn_nx (e1 := [some (.v (iT xs)), some (.own (([] : List (Int × Int)).map rp)), some (.v (.int x))]) rfl (e2 := [some (.v (iT xs)), some (.own ([((1 : Int), x)].map rp)), some (.v (.int x))]) ?_, [(1, x)], rfl, by rw [hi0]; rfl, by simp⟩
        unfold b_runs_of_1
        simp only [gt_z, gt_s, st_z, st_s, fgs_n, fgs_c, eVar_z, eVar_s, bVar_zv, bVar_zo, bVar_s, eC_ap, e2_ap, e1_ap, aNil_ap, aCons_ap, eTup_ap, eA_ap, nA_ap, eLst_ap, nLst_ap, n2_ap, eSl_ap, nSl_ap, pN_ap, pI_ap, isI_int, isB_bl, t1_ap, tAn_ap, tOr_ap, tNo_ap, eAn_ap, eOr_ap, eIf_ap, eCh_ap, tTrue_ap, nSS_ap, sNil_ap, sSeq_ap, oN_nx, oN_rt, oN_bk, oN_ct, outV_rt, outV_nx, sRet_ap, sIf_ap, sPre_ap, xV_ap, xO_ap, xN_t, xN_f, sSet_ap, sPar_ap, sPar3_ap, sAsg_ap, sAug_ap, sApp_ap, sExt_ap, isO_o, lstD_l, gN_ap, gsNil_ap, gsCons_ap, gT_ap, gLen_ap, setIx_ap, set2_ap', frz_z, frz_s, sFor_ap, sWhile_ap, sBrk_ap, sCnt_ap, addD_i, catLD_l, iaddD_i, subD_i, negD_i, ltD_i, leD_i, gtD_i, geD_i, truD_b, truD_i, truD_n, truD_l, truD_t, notD_b, isD_n, isntD_n, isD_b, isntD_b, isNonD_i, isNonD_b, isNonD_n, isNonD_t, isNonD_l, intD_i, intD_b, lenD_l, lenD_t, tupOfD_l, tupOfD_t, lstOfD_l, lstOfD_t, ixD_l, ixD_t, slD_l, slD_t, slLD_l, iSeq_ap, seqD_l, seqD_t, eqD_i, neD_i, nR1_ap, nR2_ap, eTp_ap, enD_l, enD_t, tup0, tup1, tup2, tup3, tup4, lst0, lst1, lst2, len2, len3, bq00, bq10, bq01, bq11, emp_c, emp_n, emp_cc, emp_nn, decide_true, decide_false, if_true, if_false, Bool.false_eq_true, some_bind, some_map, if_tt, if_ft, Bool.not_true, Bool.not_false]
        rfl
      · rw [List.concat_eq_append] at hR
        subst hR
        obtain ⟨c, v⟩ := r
        have hat : atI ((R0 ++ [(c, v)]).map rp) (-1) = some (.tuple [.int c, .int v]) := by
          rw [List.map_append]; exact at_last
        have hem : ((R0 ++ [(c, v)]).map rp).isEmpty = false := by cases R0 <;> rfl
        -- the last letter
        have hpl : ∃ t : List Int, xs.take i = t ++ [v] := by
          rcases List.eq_nil_or_concat (xs.take i) with ht | ⟨t, y, ht⟩
          · rw [ht] at h1; simp [pl] at h1
          · rw [List.concat_eq_append] at ht
            refine ⟨t, ?_⟩
            have := pl_last t.length t y rfl
            obtain ⟨u, hu⟩ := this
            rw [ht, hu, List.map_append] at h1
            have := List.append_inj_right' h1 rfl
            simp only [List.map_cons, List.map_nil, List.cons.injEq, and_true] at this
            rw [ht, this]
        obtain ⟨t, ht⟩ := hpl
        rw [ht] at h1 ⊢
        have e2 : t ++ [v] ++ [x] = t ++ [v, x] := by simp
        rw [e2, pl_two, ← h1]
        by_cases q : v = x
        · subst q
          refine ⟨[some (.v (iT xs)), some (.own ((R0 ++ [(c + 1, v)]).map rp)), none], turn_nx (e1 := [some (.v (iT xs)), some (.own ((R0 ++ [(c, v)]).map rp)), some (.v (.int v))]) rfl (e2 := [some (.v (iT xs)), some (.own ((R0 ++ [(c + 1, v)]).map rp)), some (.v (.int v))]) ?_, R0 ++ [(c + 1, v)], rfl, by rw [if_pos rfl]; simp, by simp at h2 ⊢; omega⟩
          have hb : (v == v) = true := beq_self_eq_true v
          have a1 : atI [PyData.int c, .int v] 1 = some (.int v) := rfl
          have a0 : atI [PyData.int c, .int v] 0 = some (.int c) := rfl
          have hix : ixN ((R0 ++ [(c, v)]).map rp).length (-1) = some R0.length := by
            rw [ixN_last (by simp)]; simp
          have hset : ((R0 ++ [(c, v)]).map rp).set R0.length (.tuple [.int (c + 1), .int v]) = (R0 ++ [(c + 1, v)]).map rp := by
            rw [List.map_append, List.map_append, List.set_append_right _ _ (by simp)]
            simp [rp]
          unfold b_runs_of_1
          simp only [gt_z, gt_s, st_z, st_s, fgs_n, fgs_c, eVar_z, eVar_s, bVar_zv, bVar_zo, bVar_s, eC_ap, e2_ap, e1_ap, aNil_ap, aCons_ap, eTup_ap, eA_ap, nA_ap, eLst_ap, nLst_ap, n2_ap, eSl_ap, nSl_ap, pN_ap, pI_ap, isI_int, isB_bl, t1_ap, tAn_ap, tOr_ap, tNo_ap, eAn_ap, eOr_ap, eIf_ap, eCh_ap, tTrue_ap, nSS_ap, sNil_ap, sSeq_ap, oN_nx, oN_rt, oN_bk, oN_ct, outV_rt, outV_nx, sRet_ap, sIf_ap, sPre_ap, xV_ap, xO_ap, xN_t, xN_f, sSet_ap, sPar_ap, sPar3_ap, sAsg_ap, sAug_ap, sApp_ap, sExt_ap, isO_o, lstD_l, gN_ap, gsNil_ap, gsCons_ap, gT_ap, gLen_ap, setIx_ap, set2_ap', frz_z, frz_s, sFor_ap, sWhile_ap, sBrk_ap, sCnt_ap, addD_i, catLD_l, iaddD_i, subD_i, negD_i, ltD_i, leD_i, gtD_i, geD_i, truD_b, truD_i, truD_n, truD_l, truD_t, notD_b, isD_n, isntD_n, isD_b, isntD_b, isNonD_i, isNonD_b, isNonD_n, isNonD_t, isNonD_l, intD_i, intD_b, lenD_l, lenD_t, tupOfD_l, tupOfD_t, lstOfD_l, lstOfD_t, ixD_l, ixD_t, slD_l, slD_t, slLD_l, iSeq_ap, seqD_l, seqD_t, eqD_i, neD_i, nR1_ap, nR2_ap, eTp_ap, enD_l, enD_t, tup0, tup1, tup2, tup3, tup4, lst0, lst1, lst2, len2, len3, bq00, bq10, bq01, bq11, emp_c, emp_n, emp_cc, emp_nn, decide_true, decide_false, if_true, if_false, Bool.false_eq_true, some_bind, some_map, if_tt, if_ft, Bool.not_true, Bool.not_false, hem, hat, a1, a0, hb, hix, hset]
        · refine ⟨[some (.v (iT xs)), some (.own ((R0 ++ [(c, v)] ++ [(1, x)]).map rp)), none], turn_nx (e1 := [some (.v (iT xs)), some (.own ((R0 ++ [(c, v)]).map rp)), some (.v (.int x))]) rfl (e2 := [some (.v (iT xs)), some (.own ((R0 ++ [(c, v)] ++ [(1, x)]).map rp)), some (.v (.int x))]) ?_, R0 ++ [(c, v)] ++ [(1, x)], rfl, by rw [if_neg q]; simp, by simp at h2 ⊢; omega⟩
          have hb : (v == x) = false := beq_eq_false_iff_ne.mpr q
          have a1 : atI [PyData.int c, .int v] 1 = some (.int v) := rfl
          unfold b_runs_of_1
          simp only [gt_z, gt_s, st_z, st_s, fgs_n, fgs_c, eVar_z, eVar_s, bVar_zv, bVar_zo, bVar_s, eC_ap, e2_ap, e1_ap, aNil_ap, aCons_ap, eTup_ap, eA_ap, nA_ap, eLst_ap, nLst_ap, n2_ap, eSl_ap, nSl_ap, pN_ap, pI_ap, isI_int, isB_bl, t1_ap, tAn_ap, tOr_ap, tNo_ap, eAn_ap, eOr_ap, eIf_ap, eCh_ap, tTrue_ap, nSS_ap, sNil_ap, sSeq_ap, oN_nx, oN_rt, oN_bk, oN_ct, outV_rt, outV_nx, sRet_ap, sIf_ap, sPre_ap, xV_ap, xO_ap, xN_t, xN_f, sSet_ap, sPar_ap, sPar3_ap, sAsg_ap, sAug_ap, sApp_ap, sExt_ap, isO_o, lstD_l, gN_ap, gsNil_ap, gsCons_ap, gT_ap, gLen_ap, setIx_ap, set2_ap', frz_z, frz_s, sFor_ap, sWhile_ap, sBrk_ap, sCnt_ap, addD_i, catLD_l, iaddD_i, subD_i, negD_i, ltD_i, leD_i, gtD_i, geD_i, truD_b, truD_i, truD_n, truD_l, truD_t, notD_b, isD_n, isntD_n, isD_b, isntD_b, isNonD_i, isNonD_b, isNonD_n, isNonD_t, isNonD_l, intD_i, intD_b, lenD_l, lenD_t, tupOfD_l, tupOfD_t, lstOfD_l, lstOfD_t, ixD_l, ixD_t, slD_l, slD_t, slLD_l, iSeq_ap, seqD_l, seqD_t, eqD_i, neD_i, nR1_ap, nR2_ap, eTp_ap, enD_l, enD_t, tup0, tup1, tup2, tup3, tup4, lst0, lst1, lst2, len2, len3, bq00, bq10, bq01, bq11, emp_c, emp_n, emp_cc, emp_nn, decide_true, decide_false, if_true, if_false, Bool.false_eq_true, some_bind, some_map, if_tt, if_ft, Bool.not_true, Bool.not_false, hem, hat, a1, hb, if_lt (show ((R0 ++ [(c, v)]).map rp).length ≤ 1000000 by simp at h2 ⊢; omega)]
          rw [List.map_append (l₂ := [((1 : Int), x)])]; rfl)
  subst he
  rw [List.length_map] at h1 h2
  rw [List.take_length] at h1
  refine ⟨R, ?_, h1, h2⟩
  have sq : iSeq (eVar 0) [some (.v (iT xs)), some (.own []), none] = some (xs.map .int) := by simp only [gt_z, gt_s, st_z, st_s, fgs_n, fgs_c, eVar_z, eVar_s, bVar_zv, bVar_zo, bVar_s, eC_ap, e2_ap, e1_ap, aNil_ap, aCons_ap, eTup_ap, eA_ap, nA_ap, eLst_ap, nLst_ap, n2_ap, eSl_ap, nSl_ap, pN_ap, pI_ap, isI_int, isB_bl, t1_ap, tAn_ap, tOr_ap, tNo_ap, eAn_ap, eOr_ap, eIf_ap, eCh_ap, tTrue_ap, nSS_ap, sNil_ap, sSeq_ap, oN_nx, oN_rt, oN_bk, oN_ct, outV_rt, outV_nx, sRet_ap, sIf_ap, sPre_ap, xV_ap, xO_ap, xN_t, xN_f, sSet_ap, sPar_ap, sPar3_ap, sAsg_ap, sAug_ap, sApp_ap, sExt_ap, isO_o, lstD_l, gN_ap, gsNil_ap, gsCons_ap, gT_ap, gLen_ap, setIx_ap, set2_ap', frz_z, frz_s, sFor_ap, sWhile_ap, sBrk_ap, sCnt_ap, addD_i, catLD_l, iaddD_i, subD_i, negD_i, ltD_i, leD_i, gtD_i, geD_i, truD_b, truD_i, truD_n, truD_l, truD_t, notD_b, isD_n, isntD_n, isD_b, isntD_b, isNonD_i, isNonD_b, isNonD_n, isNonD_t, isNonD_l, intD_i, intD_b, lenD_l, lenD_t, tupOfD_l, tupOfD_t, lstOfD_l, lstOfD_t, ixD_l, ixD_t, slD_l, slD_t, slLD_l, iSeq_ap, seqD_l, seqD_t, eqD_i, neD_i, nR1_ap, nR2_ap, eTp_ap, enD_l, enD_t, tup0, tup1, tup2, tup3, tup4, lst0, lst1, lst2, len2, len3, bq00, bq10, bq01, bq11, emp_c, emp_n, emp_cc, emp_nn, decide_true, decide_false, if_true, if_false, Bool.false_eq_true, some_bind, some_map, if_tt, if_ft, Bool.not_true, Bool.not_false, iT]
  rw [fa_runs_of]
  unfold den_runs_of
  simp only [sSeq_ap, sSet_ap, xO_ap, nLst_ap, aNil_ap, some_bind, some_map, lst0, oN_nx, st_z, st_s, sFor_ap, sq, fgs_c, fgs_n, hf, sPre_ap, frz_z, frz_s, gt_z, gt_s, sRet_ap, eVar_z, eVar_s, outV_rt]
end K75
end

section
set_option maxRecDepth 100000
set_option maxHeartbeats 4000000
namespace K75
open PySem L2 PV PVL
theorem flat2_len {α : Type} (ps : List α) (f g : α → Int) : (ps.flatMap fun p => [f p, g p]).length = 2 * ps.length := by
  induction ps with
  | nil => rfl
  | cons p r ih => rw [List.flatMap_cons, List.length_append, ih]; simp; omega
theorem flat2_get {α : Type} (f g : α → Int) : ∀ (ps : List α) (k : Nat), (ps.flatMap fun p => [f p, g p])[1 + 2 * k]? = (ps.map g)[k]?
  | [], k => by simp
  | p :: r, 0 => by simp
  | p :: r, k + 1 => by
    have h2 := flat2_get f g r k
    rw [List.flatMap_cons]
    have e2 : 1 + 2 * (k + 1) = (1 + 2 * k) + 1 + 1 := by omega
    rw [e2]; simpa using h2
theorem pl_ne {xs : List Int} (h : 0 < xs.length) : pl xs ≠ [] := by
  match xs, h with
  | x :: r, _ =>
    obtain ⟨t, e⟩ := pl_head x r
    rw [e]; simp
theorem said_ap {xs : List Int} (h0 : 0 < xs.length) (h : xs.length ≤ 1000) : ∃ Z, F_said_of [iT xs] = some (iT Z) ∧ stepD 2 (iT Z) (some 1) none = some (iT (pl xs)) := by
  obtain ⟨R, h1, h2, h3⟩ := runs_ap h
  refine ⟨R.flatMap fun r => [r.1, r.2], ?_, ?_⟩
  · have hc : c_said_of_1 [some (.v (iT xs)), none, none] = some ((R.flatMap fun r => [r.1, r.2]).map .int) := by
      unfold c_said_of_1
      have e : (R.flatMap fun r => [r.1, r.2]).map PyData.int = R.flatMap fun p => ([p.1, p.2] : List Int).map fun z => PyData.int z := by
        rw [List.map_flatMap]
      rw [e]
      refine nLc2_map (f := rp) (zs := fun p => ([p.1, p.2] : List Int)) (g := fun _ z => .int z) (h := fun _ z => .int z) ?_ ?_ fun p hp => ⟨_, rfl, rfl, rfl, fun z hz => ⟨_, rfl, rfl, rfl⟩⟩
      · simp only [gt_z, gt_s, st_z, st_s, fgs_n, fgs_c, eVar_z, eVar_s, bVar_zv, bVar_zo, bVar_s, eC_ap, e2_ap, e1_ap, aNil_ap, aCons_ap, eTup_ap, eA_ap, nA_ap, eLst_ap, nLst_ap, n2_ap, eSl_ap, nSl_ap, pN_ap, pI_ap, isI_int, isB_bl, t1_ap, tAn_ap, tOr_ap, tNo_ap, eAn_ap, eOr_ap, eIf_ap, eCh_ap, tTrue_ap, nSS_ap, sNil_ap, sSeq_ap, oN_nx, oN_rt, oN_bk, oN_ct, outV_rt, outV_nx, sRet_ap, sIf_ap, sPre_ap, xV_ap, xO_ap, xN_t, xN_f, sSet_ap, sPar_ap, sPar3_ap, sAsg_ap, sAug_ap, sApp_ap, sExt_ap, isO_o, lstD_l, gN_ap, gsNil_ap, gsCons_ap, gT_ap, gLen_ap, setIx_ap, set2_ap', frz_z, frz_s, sFor_ap, sWhile_ap, sBrk_ap, sCnt_ap, addD_i, catLD_l, iaddD_i, subD_i, negD_i, ltD_i, leD_i, gtD_i, geD_i, truD_b, truD_i, truD_n, truD_l, truD_t, notD_b, isD_n, isntD_n, isD_b, isntD_b, isNonD_i, isNonD_b, isNonD_n, isNonD_t, isNonD_l, intD_i, intD_b, lenD_l, lenD_t, tupOfD_l, tupOfD_t, lstOfD_l, lstOfD_t, ixD_l, ixD_t, slD_l, slD_t, slLD_l, iSeq_ap, seqD_l, seqD_t, eqD_i, neD_i, nR1_ap, nR2_ap, eTp_ap, enD_l, enD_t, tup0, tup1, tup2, tup3, tup4, lst0, lst1, lst2, len2, len3, bq00, bq10, bq01, bq11, emp_c, emp_n, emp_cc, emp_nn, decide_true, decide_false, if_true, if_false, Bool.false_eq_true, some_bind, some_map, if_tt, if_ft, Bool.not_true, Bool.not_false, h1]
      · rw [← e, List.length_map, flat2_len]
        exact PVL.le_line (by omega)
    rw [fa_said_of]
    unfold den_said_of
    simp only [gt_z, gt_s, st_z, st_s, fgs_n, fgs_c, eVar_z, eVar_s, bVar_zv, bVar_zo, bVar_s, eC_ap, e2_ap, e1_ap, aNil_ap, aCons_ap, eTup_ap, eA_ap, nA_ap, eLst_ap, nLst_ap, n2_ap, eSl_ap, nSl_ap, pN_ap, pI_ap, isI_int, isB_bl, t1_ap, tAn_ap, tOr_ap, tNo_ap, eAn_ap, eOr_ap, eIf_ap, eCh_ap, tTrue_ap, nSS_ap, sNil_ap, sSeq_ap, oN_nx, oN_rt, oN_bk, oN_ct, outV_rt, outV_nx, sRet_ap, sIf_ap, sPre_ap, xV_ap, xO_ap, xN_t, xN_f, sSet_ap, sPar_ap, sPar3_ap, sAsg_ap, sAug_ap, sApp_ap, sExt_ap, isO_o, lstD_l, gN_ap, gsNil_ap, gsCons_ap, gT_ap, gLen_ap, setIx_ap, set2_ap', frz_z, frz_s, sFor_ap, sWhile_ap, sBrk_ap, sCnt_ap, addD_i, catLD_l, iaddD_i, subD_i, negD_i, ltD_i, leD_i, gtD_i, geD_i, truD_b, truD_i, truD_n, truD_l, truD_t, notD_b, isD_n, isntD_n, isD_b, isntD_b, isNonD_i, isNonD_b, isNonD_n, isNonD_t, isNonD_l, intD_i, intD_b, lenD_l, lenD_t, tupOfD_l, tupOfD_t, lstOfD_l, lstOfD_t, ixD_l, ixD_t, slD_l, slD_t, slLD_l, iSeq_ap, seqD_l, seqD_t, eqD_i, neD_i, nR1_ap, nR2_ap, eTp_ap, enD_l, enD_t, tup0, tup1, tup2, tup3, tup4, lst0, lst1, lst2, len2, len3, bq00, bq10, bq01, bq11, emp_c, emp_n, emp_cc, emp_nn, decide_true, decide_false, if_true, if_false, Bool.false_eq_true, some_bind, some_map, if_tt, if_ft, Bool.not_true, Bool.not_false, hc]
  · have hne : 0 < R.length := by
      have := congrArg List.length h2
      rw [List.length_map] at this
      have := List.length_pos_iff.mpr (pl_ne h0)
      omega
    have hm : pickL ((R.flatMap fun r => [r.1, r.2]).map PyData.int) (some 1) none 2 = (pl xs).map PyData.int := by
      rw [← h2]
      refine pick_two (a := 1) (by omega) (Or.inl rfl) (by simp only [List.length_map]; rw [flat2_len]; omega) (by simp only [List.length_map]; rw [flat2_len]; omega) fun k _ => ?_
      rw [List.getElem?_map, List.getElem?_map, flat2_get]
    show (if (pickL ((R.flatMap fun r => [r.1, r.2]).map PyData.int) (some 1) none 2).length ≤ line then some (PyData.tuple (pickL ((R.flatMap fun r => [r.1, r.2]).map PyData.int) (some 1) none 2)) else none) = _
    rw [hm, if_le (by
      rw [List.length_map]
      have := congrArg List.length h2
      rw [List.length_map] at this
      omega)]
/-- numbers repeated -/
structure Rep (xs : List Int) (k : Nat) (L : List Int) (g : Nat → Nat) : Prop where
  val : ∀ i, i < L.length → g i < k ∧ L.getD i 0 = xs.getD (g i) 0
  step : ∀ i, i + 1 < L.length → g (i + 1) = g i ∨ g (i + 1) = g i + 1
  ends : 0 < L.length → g 0 = 0 ∧ g (L.length - 1) = k - 1
  lo : k ≤ L.length
  hi : L.length ≤ 3 * k
theorem Rep.snoc {xs : List Int} {k c : Nat} {L : List Int} {g : Nat → Nat} (h : Rep xs k L g) (hk : k < xs.length) (h1 : 1 ≤ c) (h3 : c ≤ 3) : Rep xs (k + 1) (L ++ List.replicate c (xs.getD k 0)) (fun i => if i < L.length then g i else k) where
  val := fun i hi => by
    rw [List.length_append, List.length_replicate] at hi
    by_cases q : i < L.length
    · rw [if_pos q, List.getD_eq_getElem?_getD, List.getElem?_append_left q, ← List.getD_eq_getElem?_getD]
      have := h.val i q
      exact ⟨by omega, this.2⟩
    · rw [if_neg q, List.getD_eq_getElem?_getD, List.getElem?_append_right (by omega), List.getElem?_replicate, if_pos (by omega)]
      exact ⟨by omega, rfl⟩
  step := fun i hi => by
    rw [List.length_append, List.length_replicate] at hi
    by_cases q : i + 1 < L.length
    · rw [if_pos q, if_pos (by omega)]; exact h.step i q
    · by_cases q2 : i < L.length
      · rw [if_neg q, if_pos q2]
        have e : i = L.length - 1 := by omega
        have := (h.ends (by omega)).2
        have hv := (h.val i q2).1
        rw [← e] at this
        omega
      · rw [if_neg q, if_neg q2]; exact .inl rfl
  ends := fun _ => by
    rw [List.length_append, List.length_replicate]
    refine ⟨?_, by rw [if_neg (by omega)]; omega⟩
    by_cases q : 0 < L.length
    · rw [if_pos q]; exact (h.ends q).1
    · rw [if_neg q]
      have := h.lo; omega
  lo := by rw [List.length_append, List.length_replicate]; have := h.lo; omega
  hi := by rw [List.length_append, List.length_replicate]; have := h.hi; omega
theorem repeated_ap {row xs : List Int} {at_ : Nat} (hr : at_ + xs.length ≤ row.length) (h : xs.length ≤ 100) : ∃ (L : List Int) (g : Nat → Nat), F__law_repeated [iL row, .int (at_ : Int), iT xs] = some (iT L) ∧ Rep xs xs.length L g := by
  have d3 : (0 : Int) < 3 := by decide
  obtain ⟨e', hf, L, he, g, hg⟩ := forL_invR (tgt := gN 4) (body := b__law_repeated_1) (is := [4]) (lo := 0) (n := xs.length) (env := [some (.v (iL row)), some (.v (.int (at_ : Int))), some (.v (iT xs)), some (.v (.tuple [])), none])
    (fun k e => ∃ L : List Int, e = [some (.v (iL row)), some (.v (.int (at_ : Int))), some (.v (iT xs)), some (.v (iT L)), none] ∧ ∃ g, Rep xs k L g)
    ⟨[], rfl, fun _ => 0, ⟨(fun i h => by cases h), (fun i h => by cases h), (fun h => by cases h), Nat.le_refl _, Nat.le_refl _⟩⟩ (fun k e hk ⟨L, he, g, hg⟩ => by
      subst he
      obtain ⟨c, hc⟩ : ∃ c : Nat, 1 + row.getD (at_ + k) 0 % 3 = (c : Int) := ⟨(1 + row.getD (at_ + k) 0 % 3).toNat, by omega⟩
      have hrow : atI (row.map PyData.int) ((at_ : Int) + (k : Int)) = some (.int (row.getD (at_ + k) 0)) := by
        have := ixTN (p := row) (i := at_ + k) (by omega)
        push_cast at this
        exact this
      have hlh := hg.hi
      have hm : mulD (.tuple [.int (xs.getD k 0)]) (.int (c : Int)) = some (iT (List.replicate c (xs.getD k 0))) := mul1T (by omega)
      have ha : addD (iT L) (iT (List.replicate c (xs.getD k 0))) = some (iT (L ++ List.replicate c (xs.getD k 0))) := addT (by rw [List.length_replicate]; omega)
      refine ⟨_, turn_nx (e1 := [some (.v (iL row)), some (.v (.int (at_ : Int))), some (.v (iT xs)), some (.v (iT L)), some (.v (.int (0 + (k : Int))))]) rfl
        (e2 := [some (.v (iL row)), some (.v (.int (at_ : Int))), some (.v (iT xs)), some (.v (iT (L ++ List.replicate c (xs.getD k 0)))), some (.v (.int (k : Int)))]) ?_, _, rfl, _, hg.snoc hk (by omega) (by omega)⟩
      unfold b__law_repeated_1
      simp only [gt_z, gt_s, st_z, st_s, fgs_n, fgs_c, eVar_z, eVar_s, bVar_zv, bVar_zo, bVar_s, eC_ap, e2_ap, e1_ap, aNil_ap, aCons_ap, eTup_ap, eA_ap, nA_ap, eLst_ap, nLst_ap, n2_ap, eSl_ap, nSl_ap, pN_ap, pI_ap, isI_int, isB_bl, t1_ap, tAn_ap, tOr_ap, tNo_ap, eAn_ap, eOr_ap, eIf_ap, eCh_ap, tTrue_ap, nSS_ap, sNil_ap, sSeq_ap, oN_nx, oN_rt, oN_bk, oN_ct, outV_rt, outV_nx, sRet_ap, sIf_ap, sPre_ap, xV_ap, xO_ap, xN_t, xN_f, sSet_ap, sPar_ap, sPar3_ap, sAsg_ap, sAug_ap, sApp_ap, sExt_ap, isO_o, lstD_l, gN_ap, gsNil_ap, gsCons_ap, gT_ap, gLen_ap, setIx_ap, set2_ap', frz_z, frz_s, sFor_ap, sWhile_ap, sBrk_ap, sCnt_ap, addD_i, catLD_l, iaddD_i, subD_i, negD_i, ltD_i, leD_i, gtD_i, geD_i, truD_b, truD_i, truD_n, truD_l, truD_t, notD_b, isD_n, isntD_n, isD_b, isntD_b, isNonD_i, isNonD_b, isNonD_n, isNonD_t, isNonD_l, intD_i, intD_b, lenD_l, lenD_t, tupOfD_l, tupOfD_t, lstOfD_l, lstOfD_t, ixD_l, ixD_t, slD_l, slD_t, slLD_l, iSeq_ap, seqD_l, seqD_t, eqD_i, neD_i, nR1_ap, nR2_ap, eTp_ap, enD_l, enD_t, tup0, tup1, tup2, tup3, tup4, lst0, lst1, lst2, len2, len3, bq00, bq10, bq01, bq11, emp_c, emp_n, emp_cc, emp_nn, decide_true, decide_false, if_true, if_false, Bool.false_eq_true, some_bind, some_map, if_tt, if_ft, Bool.not_true, Bool.not_false, Int.zero_add, ixTN hk, hrow, modD_i (a := row.getD (at_ + k) 0) d3, hc, hm, ha])
  subst he
  refine ⟨L, g, ?_, hg⟩
  rw [fa__law_repeated]
  unfold den__law_repeated
  simp only [gt_z, gt_s, st_z, st_s, fgs_n, fgs_c, eVar_z, eVar_s, bVar_zv, bVar_zo, bVar_s, eC_ap, e2_ap, e1_ap, aNil_ap, aCons_ap, eTup_ap, eA_ap, nA_ap, eLst_ap, nLst_ap, n2_ap, eSl_ap, nSl_ap, pN_ap, pI_ap, isI_int, isB_bl, t1_ap, tAn_ap, tOr_ap, tNo_ap, eAn_ap, eOr_ap, eIf_ap, eCh_ap, tTrue_ap, nSS_ap, sNil_ap, sSeq_ap, oN_nx, oN_rt, oN_bk, oN_ct, outV_rt, outV_nx, sRet_ap, sIf_ap, sPre_ap, xV_ap, xO_ap, xN_t, xN_f, sSet_ap, sPar_ap, sPar3_ap, sAsg_ap, sAug_ap, sApp_ap, sExt_ap, isO_o, lstD_l, gN_ap, gsNil_ap, gsCons_ap, gT_ap, gLen_ap, setIx_ap, set2_ap', frz_z, frz_s, sFor_ap, sWhile_ap, sBrk_ap, sCnt_ap, addD_i, catLD_l, iaddD_i, subD_i, negD_i, ltD_i, leD_i, gtD_i, geD_i, truD_b, truD_i, truD_n, truD_l, truD_t, notD_b, isD_n, isntD_n, isD_b, isntD_b, isNonD_i, isNonD_b, isNonD_n, isNonD_t, isNonD_l, intD_i, intD_b, lenD_l, lenD_t, tupOfD_l, tupOfD_t, lstOfD_l, lstOfD_t, ixD_l, ixD_t, slD_l, slD_t, slLD_l, iSeq_ap, seqD_l, seqD_t, eqD_i, neD_i, nR1_ap, nR2_ap, eTp_ap, enD_l, enD_t, tup0, tup1, tup2, tup3, tup4, lst0, lst1, lst2, len2, len3, bq00, bq10, bq01, bq11, emp_c, emp_n, emp_cc, emp_nn, decide_true, decide_false, if_true, if_false, Bool.false_eq_true, some_bind, some_map, if_tt, if_ft, Bool.not_true, Bool.not_false, List.length_map, rg1N (show xs.length ≤ 1000000 by omega), hf]
theorem way_rep {w v : Nat → Nat → Int} {p q p' : Nat} {g : Nat → Nat} (hv : ∀ i j, i ≤ p' → v i j = w (g i) j) (hw : ∀ i j, 0 ≤ w i j) (hs : ∀ i, i < p' → g (i + 1) = g i ∨ g (i + 1) = g i + 1) (he : g p' = p) (hb : ∀ i, i ≤ p' → g i ≤ p) {i j : Nat} {c : Int} (h : Way v p' q i j c) : S w p q (g i) j ≤ c := by
  induction h with
  | stop => rw [he, S_end, hv _ _ (Nat.le_refl _), he]; omega
  | @right i j c h ih =>
    have hl := h.le
    have hg := hb i (by omega)
    rw [hv i j (by omega)]
    by_cases e : g i = p
    · rw [e] at ih ⊢; rw [S_row (by omega)]; omega
    · rw [S_in (by omega) (by omega)]; omega
  | @down i j c h ih =>
    have hl := h.le
    have hg := hb (i + 1) (by omega)
    rw [hv i j (by omega)]
    have := hw (g i) j
    rcases hs i (by omega) with e | e
    · rw [e] at ih; omega
    · rw [e] at ih hg
      by_cases e2 : j = q
      · subst e2; rw [S_col (by omega)]; omega
      · rw [S_in (by omega) (by omega)]; omega
  | @both i j c h ih =>
    have hl := h.le
    have hg := hb (i + 1) (by omega)
    have hg0 := hb i (by omega)
    rw [hv i j (by omega)]
    rcases hs i (by omega) with e | e
    · rw [e] at ih
      by_cases e2 : g i = p
      · rw [e2] at ih ⊢; rw [S_row (by omega)]; omega
      · rw [S_in (by omega) (by omega)]; omega
    · rw [e] at ih hg
      rw [S_in (by omega) (by omega)]; omega
theorem A_rep {xs s L : List Int} {g : Nat → Nat} (h : Rep xs xs.length L g) (l1 : 0 < xs.length) (l2 : 0 < s.length) : A xs s ≤ A L s := by
  have hl := h.lo
  have he := h.ends (by omega)
  unfold A
  rw [if_neg (by omega), if_neg (by omega)]
  have hw := S_way (wf L s) (p := L.length - 1) (q := s.length - 1) (i := 0) (j := 0) (Nat.zero_le _) (Nat.zero_le _)
  have := way_rep (w := wf xs s) (p := xs.length - 1) (g := g) (fun i j hi => by
    unfold wf; rw [(h.val i (by omega)).2]) (fun i j => ab_nn _) (fun i hi => h.step i (by omega)) he.2 (fun i hi => by have := (h.val i (by omega)).1; omega) hw
  rw [he.1] at this
  exact this
end K75
end

section
set_option maxRecDepth 100000
set_option maxHeartbeats 4000000
namespace K75
open PySem L2 PV PVL
theorem eqD_bb {a b : Bool} : eqD (.bool a) (.bool b) = some (.bool (a == b)) := by cases a <;> cases b <;> rfl
theorem neD_bb {a b : Bool} : neD (.bool a) (.bool b) = some (.bool (!(a == b))) := by cases a <;> cases b <;> rfl
theorem itf (ys : List Int) : PyData.tuple (ys.map PyData.int) = iT ys := id rfl
/-- (sum, way) of both -/
theorem like_sw {a : Int} {l : List (List Int)} (h : l.length ≤ 1000) (h2 : ∀ q ∈ l, q.length ≤ 1000) : F__law_like 12 [.tuple [.int a, .tuple (l.map iT)], .tuple [.int a, .tuple (l.map iT)]] = some (.bool true) := by
  refine like_refl 10 12 _ (by decide) (tl_t (n := 9) (by simp) fun x hx => ?_)
  simp only [List.mem_cons, List.not_mem_nil, or_false] at hx
  rcases hx with rfl | rfl
  · simp
  · refine tl_t (n := 8) (by rw [List.length_map]; omega) fun y hy => ?_
    obtain ⟨q, hq, rfl⟩ := List.mem_map.mp hy
    exact tl_ints (n := 7) (by have := h2 q hq; omega)
theorem way_two {w : Nat → Nat → Int} {p q : Nat} : ∀ z ∈ way w p q, z.length ≤ 1000 := fun z hz => by
  unfold way at hz
  rcases List.mem_cons.mp hz with rfl | hz
  · simp
  · obtain ⟨x, y, rfl, _⟩ := wl_two (p + q + 1) 0 0 (Nat.zero_le _) (Nat.zero_le _) z hz
    simp
theorem moved_ap {row f s : List Int} (hr : 60 < row.length) (h1 : f.length ≤ 8) (h2 : s.length ≤ 8) (l1 : 0 < f.length) (l2 : 0 < s.length) : F__law_moved_right [iL row, iT f, iT s] = some (.bool true) := by
  have d1 : (0 : Int) < 2001 := by decide
  have d9 : (0 : Int) < 9 := by decide
  have i28 : atI (row.map PyData.int) 28 = some (.int (row.getD 28 0)) := ixTN (i := 28) (by omega)
  have i29 : atI (row.map PyData.int) 29 = some (.int (row.getD 29 0)) := ixTN (i := 29) (by omega)
  obtain ⟨k, hk⟩ : ∃ k, row.getD 28 0 % 2001 - 1000 = k := ⟨_, rfl⟩
  obtain ⟨t, ht⟩ : ∃ t, 1 + row.getD 29 0 % 9 = t := ⟨_, rfl⟩
  have ht1 : 1 ≤ t ∧ t ≤ 9 := by omega
  have hA := aligned_ap (f := f) (s := s) (by omega) (by omega)
  have hW := way_ap (f := f) (s := s) (by omega) (by omega) l1 l2
  have hwl := way_len (wf f s) (f.length - 1) (s.length - 1)
  obtain ⟨x, f', hf⟩ : ∃ x f', f = x :: f' := by cases f with | nil => cases l1 | cons x r => exact ⟨x, r, rfl⟩
  obtain ⟨y, s', hs⟩ : ∃ y s', s = y :: s' := by cases s with | nil => cases l2 | cons x r => exact ⟨x, r, rfl⟩
  have hz : (A f s == 0) = decide (pl f = pl s) := by
    have := A_zero (f'.length + s'.length) x y f' s' (Nat.le_refl _)
    rw [← hf, ← hs] at this
    rw [Bool.eq_iff_iff, beq_iff_eq, decide_eq_true_eq]; exact this
  have hp1 := plain_ap (xs := f) (by omega)
  have hp2 := plain_ap (xs := s) (by omega)
  obtain ⟨Z1, hZ1, hY1⟩ := said_ap (xs := f) l1 (by omega)
  obtain ⟨Z2, hZ2, hY2⟩ := said_ap (xs := s) l2 (by omega)
  obtain ⟨L, g, hL, hg⟩ := repeated_ap (row := row) (xs := f) (at_ := 32) (by omega) (by omega)
  have hL' : F__law_repeated [iL row, .int 32, iT f] = some (iT L) := hL
  have hLh := hg.hi
  have hAL := aligned_ap (f := L) (s := s) (by omega) (by omega)
  have hrep := A_rep hg l1 l2
  have hlt : decide (A L s < A f s) = false := decide_eq_false (by omega)
  have hbody : ∀ (u c : Int), c ≠ 0 → -9 ≤ c → c ≤ 9 → turn (gLen 2 (gT (gsCons (gN 10) (gsCons (gN 11) gsNil)))) b__law_moved_right_1 [10, 11, 12, 13] (.tuple [.int u, .int c])
      [some (.v (iL row)), some (.v (iT f)), some (.v (iT s)), some (.v (.int (A f s))), some (.v (.tuple ((way (wf f s) (f.length - 1) (s.length - 1)).map iT))), some (.v (iT (pl f))), some (.v (iT (pl s))), some (.v (iT L)), some (.v (.int k)), some (.v (.int t)), none, none, none, none, none] =
      some (.nx [some (.v (iL row)), some (.v (iT f)), some (.v (iT s)), some (.v (.int (A f s))), some (.v (.tuple ((way (wf f s) (f.length - 1) (s.length - 1)).map iT))), some (.v (iT (pl f))), some (.v (iT (pl s))), some (.v (iT L)), some (.v (.int k)), some (.v (.int t)), none, none, none, none, none]) := fun u c hc c1 c2 => by
    have hcm1 : ∀ e12 e13 : Option SV, c__law_moved_right_1 [some (.v (iL row)), some (.v (iT f)), some (.v (iT s)), some (.v (.int (A f s))), some (.v (.tuple ((way (wf f s) (f.length - 1) (s.length - 1)).map iT))), some (.v (iT (pl f))), some (.v (iT (pl s))), some (.v (iT L)), some (.v (.int k)), some (.v (.int t)), some (.v (.int u)), some (.v (.int c)), e12, e13, none] = some ((f.map fun z => c * z + u).map .int) := fun e12 e13 => by
      unfold c__law_moved_right_1
      rw [List.map_map]
      exact compL (f := PyData.int) (by simp only [gt_z, gt_s, st_z, st_s, fgs_n, fgs_c, eVar_z, eVar_s, bVar_zv, bVar_zo, bVar_s, eC_ap, e2_ap, e1_ap, aNil_ap, aCons_ap, eTup_ap, eA_ap, nA_ap, eLst_ap, nLst_ap, n2_ap, eSl_ap, nSl_ap, pN_ap, pI_ap, isI_int, isB_bl, t1_ap, tAn_ap, tOr_ap, tNo_ap, eAn_ap, eOr_ap, eIf_ap, eCh_ap, tTrue_ap, nSS_ap, sNil_ap, sSeq_ap, oN_nx, oN_rt, oN_bk, oN_ct, outV_rt, outV_nx, sRet_ap, sIf_ap, sPre_ap, xV_ap, xO_ap, xN_t, xN_f, sSet_ap, sPar_ap, sPar3_ap, sAsg_ap, sAug_ap, sApp_ap, sExt_ap, isO_o, lstD_l, gN_ap, gsNil_ap, gsCons_ap, gT_ap, gLen_ap, setIx_ap, set2_ap', frz_z, frz_s, sFor_ap, sWhile_ap, sBrk_ap, sCnt_ap, addD_i, catLD_l, iaddD_i, subD_i, negD_i, ltD_i, leD_i, gtD_i, geD_i, truD_b, truD_i, truD_n, truD_l, truD_t, notD_b, isD_n, isntD_n, isD_b, isntD_b, isNonD_i, isNonD_b, isNonD_n, isNonD_t, isNonD_l, intD_i, intD_b, lenD_l, lenD_t, tupOfD_l, tupOfD_t, lstOfD_l, lstOfD_t, ixD_l, ixD_t, slD_l, slD_t, slLD_l, iSeq_ap, seqD_l, seqD_t, eqD_i, neD_i, nR1_ap, nR2_ap, eTp_ap, enD_l, enD_t, tup0, tup1, tup2, tup3, tup4, lst0, lst1, lst2, len2, len3, bq00, bq10, bq01, bq11, emp_c, emp_n, emp_cc, emp_nn, decide_true, decide_false, if_true, if_false, Bool.false_eq_true, some_bind, some_map, if_tt, if_ft, Bool.not_true, Bool.not_false, iT]) (by omega) fun z hz => by simp only [gt_z, gt_s, st_z, st_s, fgs_n, fgs_c, eVar_z, eVar_s, bVar_zv, bVar_zo, bVar_s, eC_ap, e2_ap, e1_ap, aNil_ap, aCons_ap, eTup_ap, eA_ap, nA_ap, eLst_ap, nLst_ap, n2_ap, eSl_ap, nSl_ap, pN_ap, pI_ap, isI_int, isB_bl, t1_ap, tAn_ap, tOr_ap, tNo_ap, eAn_ap, eOr_ap, eIf_ap, eCh_ap, tTrue_ap, nSS_ap, sNil_ap, sSeq_ap, oN_nx, oN_rt, oN_bk, oN_ct, outV_rt, outV_nx, sRet_ap, sIf_ap, sPre_ap, xV_ap, xO_ap, xN_t, xN_f, sSet_ap, sPar_ap, sPar3_ap, sAsg_ap, sAug_ap, sApp_ap, sExt_ap, isO_o, lstD_l, gN_ap, gsNil_ap, gsCons_ap, gT_ap, gLen_ap, setIx_ap, set2_ap', frz_z, frz_s, sFor_ap, sWhile_ap, sBrk_ap, sCnt_ap, addD_i, catLD_l, iaddD_i, subD_i, negD_i, ltD_i, leD_i, gtD_i, geD_i, truD_b, truD_i, truD_n, truD_l, truD_t, notD_b, isD_n, isntD_n, isD_b, isntD_b, isNonD_i, isNonD_b, isNonD_n, isNonD_t, isNonD_l, intD_i, intD_b, lenD_l, lenD_t, tupOfD_l, tupOfD_t, lstOfD_l, lstOfD_t, ixD_l, ixD_t, slD_l, slD_t, slLD_l, iSeq_ap, seqD_l, seqD_t, eqD_i, neD_i, nR1_ap, nR2_ap, eTp_ap, enD_l, enD_t, tup0, tup1, tup2, tup3, tup4, lst0, lst1, lst2, len2, len3, bq00, bq10, bq01, bq11, emp_c, emp_n, emp_cc, emp_nn, decide_true, decide_false, if_true, if_false, Bool.false_eq_true, some_bind, some_map, if_tt, if_ft, Bool.not_true, Bool.not_false, mulD_l (a := c) (b := z) (by omega) (by omega)]; rfl
    have hcm2 : ∀ e12 e13 : Option SV, c__law_moved_right_2 [some (.v (iL row)), some (.v (iT f)), some (.v (iT s)), some (.v (.int (A f s))), some (.v (.tuple ((way (wf f s) (f.length - 1) (s.length - 1)).map iT))), some (.v (iT (pl f))), some (.v (iT (pl s))), some (.v (iT L)), some (.v (.int k)), some (.v (.int t)), some (.v (.int u)), some (.v (.int c)), e12, e13, none] = some ((s.map fun z => c * z + u).map .int) := fun e12 e13 => by
      unfold c__law_moved_right_2
      rw [List.map_map]
      exact compL (f := PyData.int) (by simp only [gt_z, gt_s, st_z, st_s, fgs_n, fgs_c, eVar_z, eVar_s, bVar_zv, bVar_zo, bVar_s, eC_ap, e2_ap, e1_ap, aNil_ap, aCons_ap, eTup_ap, eA_ap, nA_ap, eLst_ap, nLst_ap, n2_ap, eSl_ap, nSl_ap, pN_ap, pI_ap, isI_int, isB_bl, t1_ap, tAn_ap, tOr_ap, tNo_ap, eAn_ap, eOr_ap, eIf_ap, eCh_ap, tTrue_ap, nSS_ap, sNil_ap, sSeq_ap, oN_nx, oN_rt, oN_bk, oN_ct, outV_rt, outV_nx, sRet_ap, sIf_ap, sPre_ap, xV_ap, xO_ap, xN_t, xN_f, sSet_ap, sPar_ap, sPar3_ap, sAsg_ap, sAug_ap, sApp_ap, sExt_ap, isO_o, lstD_l, gN_ap, gsNil_ap, gsCons_ap, gT_ap, gLen_ap, setIx_ap, set2_ap', frz_z, frz_s, sFor_ap, sWhile_ap, sBrk_ap, sCnt_ap, addD_i, catLD_l, iaddD_i, subD_i, negD_i, ltD_i, leD_i, gtD_i, geD_i, truD_b, truD_i, truD_n, truD_l, truD_t, notD_b, isD_n, isntD_n, isD_b, isntD_b, isNonD_i, isNonD_b, isNonD_n, isNonD_t, isNonD_l, intD_i, intD_b, lenD_l, lenD_t, tupOfD_l, tupOfD_t, lstOfD_l, lstOfD_t, ixD_l, ixD_t, slD_l, slD_t, slLD_l, iSeq_ap, seqD_l, seqD_t, eqD_i, neD_i, nR1_ap, nR2_ap, eTp_ap, enD_l, enD_t, tup0, tup1, tup2, tup3, tup4, lst0, lst1, lst2, len2, len3, bq00, bq10, bq01, bq11, emp_c, emp_n, emp_cc, emp_nn, decide_true, decide_false, if_true, if_false, Bool.false_eq_true, some_bind, some_map, if_tt, if_ft, Bool.not_true, Bool.not_false, iT]) (by omega) fun z hz => by simp only [gt_z, gt_s, st_z, st_s, fgs_n, fgs_c, eVar_z, eVar_s, bVar_zv, bVar_zo, bVar_s, eC_ap, e2_ap, e1_ap, aNil_ap, aCons_ap, eTup_ap, eA_ap, nA_ap, eLst_ap, nLst_ap, n2_ap, eSl_ap, nSl_ap, pN_ap, pI_ap, isI_int, isB_bl, t1_ap, tAn_ap, tOr_ap, tNo_ap, eAn_ap, eOr_ap, eIf_ap, eCh_ap, tTrue_ap, nSS_ap, sNil_ap, sSeq_ap, oN_nx, oN_rt, oN_bk, oN_ct, outV_rt, outV_nx, sRet_ap, sIf_ap, sPre_ap, xV_ap, xO_ap, xN_t, xN_f, sSet_ap, sPar_ap, sPar3_ap, sAsg_ap, sAug_ap, sApp_ap, sExt_ap, isO_o, lstD_l, gN_ap, gsNil_ap, gsCons_ap, gT_ap, gLen_ap, setIx_ap, set2_ap', frz_z, frz_s, sFor_ap, sWhile_ap, sBrk_ap, sCnt_ap, addD_i, catLD_l, iaddD_i, subD_i, negD_i, ltD_i, leD_i, gtD_i, geD_i, truD_b, truD_i, truD_n, truD_l, truD_t, notD_b, isD_n, isntD_n, isD_b, isntD_b, isNonD_i, isNonD_b, isNonD_n, isNonD_t, isNonD_l, intD_i, intD_b, lenD_l, lenD_t, tupOfD_l, tupOfD_t, lstOfD_l, lstOfD_t, ixD_l, ixD_t, slD_l, slD_t, slLD_l, iSeq_ap, seqD_l, seqD_t, eqD_i, neD_i, nR1_ap, nR2_ap, eTp_ap, enD_l, enD_t, tup0, tup1, tup2, tup3, tup4, lst0, lst1, lst2, len2, len3, bq00, bq10, bq01, bq11, emp_c, emp_n, emp_cc, emp_nn, decide_true, decide_false, if_true, if_false, Bool.false_eq_true, some_bind, some_map, if_tt, if_ft, Bool.not_true, Bool.not_false, mulD_l (a := c) (b := z) (by omega) (by omega)]; rfl
    have hA2 := aligned_ap (f := f.map fun z => c * z + u) (s := s.map fun z => c * z + u) (by rw [List.length_map]; omega) (by rw [List.length_map]; omega)
    have hW2 := way_ap (f := f.map fun z => c * z + u) (s := s.map fun z => c * z + u) (by rw [List.length_map]; omega) (by rw [List.length_map]; omega) (by rw [List.length_map]; omega) (by rw [List.length_map]; omega)
    rw [List.length_map, List.length_map, way_aff hc l1 l2] at hW2
    rw [A_aff hc l1 l2] at hA2
    have hlk := like_sw (a := ab c * A f s) (l := way (wf f s) (f.length - 1) (s.length - 1)) (by omega) way_two
    have habs : (if c < 0 then -c else c) = ab c := rfl
    have hmul : mulD (.int (ab c)) (.int (A f s)) = some (.int (ab c * A f s)) := mulD_l (by unfold ab; split <;> omega) (by unfold ab; split <;> omega)
    refine turn_nx (e1 := [some (.v (iL row)), some (.v (iT f)), some (.v (iT s)), some (.v (.int (A f s))), some (.v (.tuple ((way (wf f s) (f.length - 1) (s.length - 1)).map iT))), some (.v (iT (pl f))), some (.v (iT (pl s))), some (.v (iT L)), some (.v (.int k)), some (.v (.int t)), some (.v (.int u)), some (.v (.int c)), none, none, none]) rfl
      (e2 := [some (.v (iL row)), some (.v (iT f)), some (.v (iT s)), some (.v (.int (A f s))), some (.v (.tuple ((way (wf f s) (f.length - 1) (s.length - 1)).map iT))), some (.v (iT (pl f))), some (.v (iT (pl s))), some (.v (iT L)), some (.v (.int k)), some (.v (.int t)), some (.v (.int u)), some (.v (.int c)), some (.v (iT (f.map fun z => c * z + u))), some (.v (iT (s.map fun z => c * z + u))), none]) ?_
    unfold b__law_moved_right_1
    simp only [gt_z, gt_s, st_z, st_s, fgs_n, fgs_c, eVar_z, eVar_s, bVar_zv, bVar_zo, bVar_s, eC_ap, e2_ap, e1_ap, aNil_ap, aCons_ap, eTup_ap, eA_ap, nA_ap, eLst_ap, nLst_ap, n2_ap, eSl_ap, nSl_ap, pN_ap, pI_ap, isI_int, isB_bl, t1_ap, tAn_ap, tOr_ap, tNo_ap, eAn_ap, eOr_ap, eIf_ap, eCh_ap, tTrue_ap, nSS_ap, sNil_ap, sSeq_ap, oN_nx, oN_rt, oN_bk, oN_ct, outV_rt, outV_nx, sRet_ap, sIf_ap, sPre_ap, xV_ap, xO_ap, xN_t, xN_f, sSet_ap, sPar_ap, sPar3_ap, sAsg_ap, sAug_ap, sApp_ap, sExt_ap, isO_o, lstD_l, gN_ap, gsNil_ap, gsCons_ap, gT_ap, gLen_ap, setIx_ap, set2_ap', frz_z, frz_s, sFor_ap, sWhile_ap, sBrk_ap, sCnt_ap, addD_i, catLD_l, iaddD_i, subD_i, negD_i, ltD_i, leD_i, gtD_i, geD_i, truD_b, truD_i, truD_n, truD_l, truD_t, notD_b, isD_n, isntD_n, isD_b, isntD_b, isNonD_i, isNonD_b, isNonD_n, isNonD_t, isNonD_l, intD_i, intD_b, lenD_l, lenD_t, tupOfD_l, tupOfD_t, lstOfD_l, lstOfD_t, ixD_l, ixD_t, slD_l, slD_t, slLD_l, iSeq_ap, seqD_l, seqD_t, eqD_i, neD_i, nR1_ap, nR2_ap, eTp_ap, enD_l, enD_t, tup0, tup1, tup2, tup3, tup4, lst0, lst1, lst2, len2, len3, bq00, bq10, bq01, bq11, emp_c, emp_n, emp_cc, emp_nn, decide_true, decide_false, if_true, if_false, Bool.false_eq_true, some_bind, some_map, if_tt, if_ft, Bool.not_true, Bool.not_false, hcm1, hcm2, itf, hA2, hW2, absD_i, habs, hmul, hlk]
  have hf4 := forL_run (tgt := gLen 2 (gT (gsCons (gN 10) (gsCons (gN 11) gsNil)))) (body := b__law_moved_right_1) (is := [10, 11, 12, 13]) (ds := [.tuple [.int k, .int 1], .tuple [.int 0, .int (-1)], .tuple [.int k, .int t], .tuple [.int 0, .int (-t)]])
    (fun _ => [some (.v (iL row)), some (.v (iT f)), some (.v (iT s)), some (.v (.int (A f s))), some (.v (.tuple ((way (wf f s) (f.length - 1) (s.length - 1)).map iT))), some (.v (iT (pl f))), some (.v (iT (pl s))), some (.v (iT L)), some (.v (.int k)), some (.v (.int t)), none, none, none, none, none]) fun i d hd => by
      match i, hd with
      | 0, hd => cases hd; exact hbody _ _ (by decide) (by decide) (by decide)
      | 1, hd => cases hd; exact hbody _ _ (by decide) (by decide) (by decide)
      | 2, hd => cases hd; exact hbody _ _ (by omega) (by omega) (by omega)
      | 3, hd => cases hd; exact hbody _ _ (by omega) (by omega) (by omega)
      | n + 4, hd => simp at hd
  have t4 : ∀ a b c d : D, tupD [a, b, c, d] = some (.tuple [a, b, c, d]) := fun _ _ _ _ => rfl
  rw [fa__law_moved_right]
  unfold den__law_moved_right
  simp only [gt_z, gt_s, st_z, st_s, fgs_n, fgs_c, eVar_z, eVar_s, bVar_zv, bVar_zo, bVar_s, eC_ap, e2_ap, e1_ap, aNil_ap, aCons_ap, eTup_ap, eA_ap, nA_ap, eLst_ap, nLst_ap, n2_ap, eSl_ap, nSl_ap, pN_ap, pI_ap, isI_int, isB_bl, t1_ap, tAn_ap, tOr_ap, tNo_ap, eAn_ap, eOr_ap, eIf_ap, eCh_ap, tTrue_ap, nSS_ap, sNil_ap, sSeq_ap, oN_nx, oN_rt, oN_bk, oN_ct, outV_rt, outV_nx, sRet_ap, sIf_ap, sPre_ap, xV_ap, xO_ap, xN_t, xN_f, sSet_ap, sPar_ap, sPar3_ap, sAsg_ap, sAug_ap, sApp_ap, sExt_ap, isO_o, lstD_l, gN_ap, gsNil_ap, gsCons_ap, gT_ap, gLen_ap, setIx_ap, set2_ap', frz_z, frz_s, sFor_ap, sWhile_ap, sBrk_ap, sCnt_ap, addD_i, catLD_l, iaddD_i, subD_i, negD_i, ltD_i, leD_i, gtD_i, geD_i, truD_b, truD_i, truD_n, truD_l, truD_t, notD_b, isD_n, isntD_n, isD_b, isntD_b, isNonD_i, isNonD_b, isNonD_n, isNonD_t, isNonD_l, intD_i, intD_b, lenD_l, lenD_t, tupOfD_l, tupOfD_t, lstOfD_l, lstOfD_t, ixD_l, ixD_t, slD_l, slD_t, slLD_l, iSeq_ap, seqD_l, seqD_t, eqD_i, neD_i, nR1_ap, nR2_ap, eTp_ap, enD_l, enD_t, tup0, tup1, tup2, tup3, tup4, lst0, lst1, lst2, len2, len3, bq00, bq10, bq01, bq11, emp_c, emp_n, emp_cc, emp_nn, decide_true, decide_false, if_true, if_false, Bool.false_eq_true, some_bind, some_map, if_tt, if_ft, Bool.not_true, Bool.not_false, hA, hW, hp1, hp2, hz, eqD_iT, neD_bb, beq_self_eq_true, hZ1, hZ2, hY1, hY2, neD_iT, decide_true, hL', List.length_map]
  by_cases q9 : (L.length : Int) < 9
  · simp only [decide_eq_true q9, gt_z, gt_s, st_z, st_s, fgs_n, fgs_c, eVar_z, eVar_s, bVar_zv, bVar_zo, bVar_s, eC_ap, e2_ap, e1_ap, aNil_ap, aCons_ap, eTup_ap, eA_ap, nA_ap, eLst_ap, nLst_ap, n2_ap, eSl_ap, nSl_ap, pN_ap, pI_ap, isI_int, isB_bl, t1_ap, tAn_ap, tOr_ap, tNo_ap, eAn_ap, eOr_ap, eIf_ap, eCh_ap, tTrue_ap, nSS_ap, sNil_ap, sSeq_ap, oN_nx, oN_rt, oN_bk, oN_ct, outV_rt, outV_nx, sRet_ap, sIf_ap, sPre_ap, xV_ap, xO_ap, xN_t, xN_f, sSet_ap, sPar_ap, sPar3_ap, sAsg_ap, sAug_ap, sApp_ap, sExt_ap, isO_o, lstD_l, gN_ap, gsNil_ap, gsCons_ap, gT_ap, gLen_ap, setIx_ap, set2_ap', frz_z, frz_s, sFor_ap, sWhile_ap, sBrk_ap, sCnt_ap, addD_i, catLD_l, iaddD_i, subD_i, negD_i, ltD_i, leD_i, gtD_i, geD_i, truD_b, truD_i, truD_n, truD_l, truD_t, notD_b, isD_n, isntD_n, isD_b, isntD_b, isNonD_i, isNonD_b, isNonD_n, isNonD_t, isNonD_l, intD_i, intD_b, lenD_l, lenD_t, tupOfD_l, tupOfD_t, lstOfD_l, lstOfD_t, ixD_l, ixD_t, slD_l, slD_t, slLD_l, iSeq_ap, seqD_l, seqD_t, eqD_i, neD_i, nR1_ap, nR2_ap, eTp_ap, enD_l, enD_t, tup0, tup1, tup2, tup3, tup4, lst0, lst1, lst2, len2, len3, bq00, bq10, bq01, bq11, emp_c, emp_n, emp_cc, emp_nn, decide_true, decide_false, if_true, if_false, Bool.false_eq_true, some_bind, some_map, if_tt, if_ft, Bool.not_true, Bool.not_false, hAL, hlt, i28, i29, modD_i (a := row.getD 28 0) d1, modD_i (a := row.getD 29 0) d9, hk, ht, hf4]
  · simp only [decide_eq_false q9, gt_z, gt_s, st_z, st_s, fgs_n, fgs_c, eVar_z, eVar_s, bVar_zv, bVar_zo, bVar_s, eC_ap, e2_ap, e1_ap, aNil_ap, aCons_ap, eTup_ap, eA_ap, nA_ap, eLst_ap, nLst_ap, n2_ap, eSl_ap, nSl_ap, pN_ap, pI_ap, isI_int, isB_bl, t1_ap, tAn_ap, tOr_ap, tNo_ap, eAn_ap, eOr_ap, eIf_ap, eCh_ap, tTrue_ap, nSS_ap, sNil_ap, sSeq_ap, oN_nx, oN_rt, oN_bk, oN_ct, outV_rt, outV_nx, sRet_ap, sIf_ap, sPre_ap, xV_ap, xO_ap, xN_t, xN_f, sSet_ap, sPar_ap, sPar3_ap, sAsg_ap, sAug_ap, sApp_ap, sExt_ap, isO_o, lstD_l, gN_ap, gsNil_ap, gsCons_ap, gT_ap, gLen_ap, setIx_ap, set2_ap', frz_z, frz_s, sFor_ap, sWhile_ap, sBrk_ap, sCnt_ap, addD_i, catLD_l, iaddD_i, subD_i, negD_i, ltD_i, leD_i, gtD_i, geD_i, truD_b, truD_i, truD_n, truD_l, truD_t, notD_b, isD_n, isntD_n, isD_b, isntD_b, isNonD_i, isNonD_b, isNonD_n, isNonD_t, isNonD_l, intD_i, intD_b, lenD_l, lenD_t, tupOfD_l, tupOfD_t, lstOfD_l, lstOfD_t, ixD_l, ixD_t, slD_l, slD_t, slLD_l, iSeq_ap, seqD_l, seqD_t, eqD_i, neD_i, nR1_ap, nR2_ap, eTp_ap, enD_l, enD_t, tup0, tup1, tup2, tup3, tup4, lst0, lst1, lst2, len2, len3, bq00, bq10, bq01, bq11, emp_c, emp_n, emp_cc, emp_nn, decide_true, decide_false, if_true, if_false, Bool.false_eq_true, some_bind, some_map, if_tt, if_ft, Bool.not_true, Bool.not_false, hAL, hlt, i28, i29, modD_i (a := row.getD 28 0) d1, modD_i (a := row.getD 29 0) d9, hk, ht, hf4]
end K75
end

section
set_option maxRecDepth 100000
set_option maxHeartbeats 4000000
namespace K75
open PySem L2 PV PVL
/-! ### turns -/
def az (f s : List Int) : Int := ((f.zip s).map fun p => ab (p.1 - p.2)).sum
def tn (s : List Int) (k : Nat) : List Int := s.drop k ++ s.take k
theorem tn_len (s : List Int) (k : Nat) : (tn s k).length = s.length := by unfold tn; rw [List.length_append, List.length_drop, List.length_take]; omega
theorem ab_sym (x y : Int) : ab (x - y) = ab (y - x) := by unfold ab; split <;> split <;> omega
theorem az_sym : ∀ (f s : List Int), az f s = az s f
  | [], [] => rfl
  | [], _ :: _ => rfl
  | _ :: _, [] => rfl
  | x :: f, y :: s => by
    have := az_sym f s
    unfold az at this ⊢
    simp only [List.zip_cons_cons, List.map_cons, List.sum_cons, this, ab_sym x y]
theorem az_app {a b c d : List Int} (h : a.length = c.length) : az (a ++ b) (c ++ d) = az a c + az b d := by
  unfold az
  rw [List.zip_append h, List.map_append, List.sum_append]
theorem tn_end (s : List Int) : tn s s.length = tn s 0 := by unfold tn; simp
theorem az_turn {f s : List Int} (h : f.length = s.length) {k : Nat} (hk : k ≤ s.length) : az s (tn f k) = az f (tn s (s.length - k)) := by
  have e1 : az s (tn f k) = az (s.take (s.length - k) ++ s.drop (s.length - k)) (f.drop k ++ f.take k) := by rw [List.take_append_drop]; rfl
  have e2 : az f (tn s (s.length - k)) = az (f.take k ++ f.drop k) (s.drop (s.length - k) ++ s.take (s.length - k)) := by rw [List.take_append_drop]; rfl
  rw [e1, e2, az_app (by simp; omega), az_app (by simp; omega), az_sym (s.take _), az_sym (s.drop _)]
  omega
theorem tn_tn {s : List Int} {b k : Nat} (hb : b ≤ s.length) (hk : k ≤ s.length) : tn (tn s b) k = if b + k ≤ s.length then tn s (b + k) else tn s (b + k - s.length) := by
  unfold tn
  split
  · rename_i h
    rw [List.drop_append_of_le_length (by rw [List.length_drop]; omega), List.take_append_of_le_length (by rw [List.length_drop]; omega), List.drop_drop, List.append_assoc, List.take_add]
  · rename_i h
    have e1 : (s.drop b).drop k = [] := by rw [List.drop_drop]; exact List.drop_eq_nil_of_le (by omega)
    have e2 : (s.drop b).take k = s.drop b := List.take_of_length_le (by rw [List.length_drop]; omega)
    have ej : k - (s.length - b) = b + k - s.length := by omega
    rw [List.drop_append, List.take_append, e1, e2, List.length_drop, ej, List.take_take, Nat.min_eq_left (show b + k - s.length ≤ b by omega), List.nil_append, ← List.append_assoc]
    congr 1
    have : s.drop (b + k - s.length) = (s.take b ++ s.drop b).drop (b + k - s.length) := by rw [List.take_append_drop]
    rw [this, List.drop_append_of_le_length (by rw [List.length_take]; omega)]
theorem A_diag : ∀ (f s : List Int), f.length = s.length → A f s ≤ az f s
  | [], [], _ => by simp [A, az]
  | [], _ :: _, h => by simp at h
  | _ :: _, [], h => by simp at h
  | x :: f, y :: s, h => by
    have ih := A_diag f s (by simpa using h)
    have e : az (x :: f) (y :: s) = ab (x - y) + az f s := by unfold az; simp
    rw [e, A_cons]
    by_cases h1 : f = []
    · subst h1
      have h2 : s = [] := List.length_eq_zero_iff.mp (by simpa using h.symm)
      subst h2
      simp [az]
    · have h2 : s ≠ [] := fun c => h1 (by subst c; exact List.length_eq_zero_iff.mp (by simpa using h))
      rw [if_neg h1, if_neg h2]; omega
theorem rot_ap {s : List Int} {k : Nat} (h : s.length ≤ 100) : ∃ a b, slD (iT s) (some (k : Int)) none = some a ∧ slD (iT s) none (some (k : Int)) = some b ∧ addD a b = some (iT (tn s k)) :=
  ⟨_, _, slT_from, slT_to, addT (by rw [List.length_drop, List.length_take]; omega)⟩
theorem closest_ap {f s : List Int} (h : f.length = s.length) (l1 : 0 < s.length) (h1 : s.length ≤ 100) : ∃ K : Nat, F_closest_turn [iT f, iT s] = some (iT [az f (tn s K), (K : Int)]) ∧ K < s.length ∧ (∀ k, k < s.length → az f (tn s K) ≤ az f (tn s k)) ∧ ∀ k, k < K → az f (tn s K) < az f (tn s k) := by
  have hf := forL_rng (tgt := gN 4) (body := b_closest_turn_1) (is := [4, 5]) (lo := 0) (n := s.length)
    (fun k => [some (.v (iT f)), some (.v (iT s)), some (.v (.int (s.length : Int))), some (.own (((List.range k).map fun (j : Nat) => [az f (tn s j), (j : Int)]).map iT)), none, none, none, none]) fun k hk => by
      rw [Int.zero_add]
      obtain ⟨a, b, r1, r2, r3⟩ := rot_ap (s := s) (k := k) h1
      have hc : c_closest_turn_1 [some (.v (iT f)), some (.v (iT s)), some (.v (.int (s.length : Int))), some (.own (((List.range k).map fun (j : Nat) => [az f (tn s j), (j : Int)]).map iT)), some (.v (.int (k : Int))), some (.v (iT (tn s k))), none, none] = some (((f.zip (tn s k)).map fun p => ab (p.1 - p.2)).map .int) := by
        unfold c_closest_turn_1
        have ez : ((f.zip (tn s k)).map fun p => ab (p.1 - p.2)).map PyData.int = (f.zip (tn s k)).map fun p => PyData.int (ab (p.1 - p.2)) := by rw [List.map_map]; rfl
        rw [ez]
        refine nLc_map (tgt := gLen 2 (gT (gsCons (gN 6) (gsCons (gN 7) gsNil)))) (cond := tTrue) (xs := f.zip (tn s k)) (f := fun p => .tuple [.int p.1, .int p.2]) (h := fun p => .int (ab (p.1 - p.2))) ?_ (PVL.le_line (by rw [List.length_zip, tn_len]; omega)) fun p hp => ⟨_, rfl, rfl, ?_⟩
        · have : zipL (f.map PyData.int) ((tn s k).map PyData.int) = (f.zip (tn s k)).map fun p => .tuple [.int p.1, .int p.2] := by
            unfold zipL
            rw [List.zip_map, List.map_map]; rfl
          simp only [gt_z, gt_s, st_z, st_s, fgs_n, fgs_c, eVar_z, eVar_s, bVar_zv, bVar_zo, bVar_s, eC_ap, e2_ap, e1_ap, aNil_ap, aCons_ap, eTup_ap, eA_ap, nA_ap, eLst_ap, nLst_ap, n2_ap, eSl_ap, nSl_ap, pN_ap, pI_ap, isI_int, isB_bl, t1_ap, tAn_ap, tOr_ap, tNo_ap, eAn_ap, eOr_ap, eIf_ap, eCh_ap, tTrue_ap, nSS_ap, sNil_ap, sSeq_ap, oN_nx, oN_rt, oN_bk, oN_ct, outV_rt, outV_nx, sRet_ap, sIf_ap, sPre_ap, xV_ap, xO_ap, xN_t, xN_f, sSet_ap, sPar_ap, sPar3_ap, sAsg_ap, sAug_ap, sApp_ap, sExt_ap, isO_o, lstD_l, gN_ap, gsNil_ap, gsCons_ap, gT_ap, gLen_ap, setIx_ap, set2_ap', frz_z, frz_s, sFor_ap, sWhile_ap, sBrk_ap, sCnt_ap, addD_i, catLD_l, iaddD_i, subD_i, negD_i, ltD_i, leD_i, gtD_i, geD_i, truD_b, truD_i, truD_n, truD_l, truD_t, notD_b, isD_n, isntD_n, isD_b, isntD_b, isNonD_i, isNonD_b, isNonD_n, isNonD_t, isNonD_l, intD_i, intD_b, lenD_l, lenD_t, tupOfD_l, tupOfD_t, lstOfD_l, lstOfD_t, ixD_l, ixD_t, slD_l, slD_t, slLD_l, iSeq_ap, seqD_l, seqD_t, eqD_i, neD_i, nR1_ap, nR2_ap, eTp_ap, enD_l, enD_t, tup0, tup1, tup2, tup3, tup4, lst0, lst1, lst2, len2, len3, bq00, bq10, bq01, bq11, emp_c, emp_n, emp_cc, emp_nn, decide_true, decide_false, if_true, if_false, Bool.false_eq_true, some_bind, some_map, if_tt, if_ft, Bool.not_true, Bool.not_false]
          show zipD [iT f, iT (tn s k)] = _
          show some (zipL (f.map PyData.int) ((tn s k).map PyData.int)) = _
          rw [this]
        · simp only [gt_z, gt_s, st_z, st_s, fgs_n, fgs_c, eVar_z, eVar_s, bVar_zv, bVar_zo, bVar_s, eC_ap, e2_ap, e1_ap, aNil_ap, aCons_ap, eTup_ap, eA_ap, nA_ap, eLst_ap, nLst_ap, n2_ap, eSl_ap, nSl_ap, pN_ap, pI_ap, isI_int, isB_bl, t1_ap, tAn_ap, tOr_ap, tNo_ap, eAn_ap, eOr_ap, eIf_ap, eCh_ap, tTrue_ap, nSS_ap, sNil_ap, sSeq_ap, oN_nx, oN_rt, oN_bk, oN_ct, outV_rt, outV_nx, sRet_ap, sIf_ap, sPre_ap, xV_ap, xO_ap, xN_t, xN_f, sSet_ap, sPar_ap, sPar3_ap, sAsg_ap, sAug_ap, sApp_ap, sExt_ap, isO_o, lstD_l, gN_ap, gsNil_ap, gsCons_ap, gT_ap, gLen_ap, setIx_ap, set2_ap', frz_z, frz_s, sFor_ap, sWhile_ap, sBrk_ap, sCnt_ap, addD_i, catLD_l, iaddD_i, subD_i, negD_i, ltD_i, leD_i, gtD_i, geD_i, truD_b, truD_i, truD_n, truD_l, truD_t, notD_b, isD_n, isntD_n, isD_b, isntD_b, isNonD_i, isNonD_b, isNonD_n, isNonD_t, isNonD_l, intD_i, intD_b, lenD_l, lenD_t, tupOfD_l, tupOfD_t, lstOfD_l, lstOfD_t, ixD_l, ixD_t, slD_l, slD_t, slLD_l, iSeq_ap, seqD_l, seqD_t, eqD_i, neD_i, nR1_ap, nR2_ap, eTp_ap, enD_l, enD_t, tup0, tup1, tup2, tup3, tup4, lst0, lst1, lst2, len2, len3, bq00, bq10, bq01, bq11, emp_c, emp_n, emp_cc, emp_nn, decide_true, decide_false, if_true, if_false, Bool.false_eq_true, some_bind, some_map, if_tt, if_ft, Bool.not_true, Bool.not_false, absD_i]; rfl
      refine turn_nx (e1 := [some (.v (iT f)), some (.v (iT s)), some (.v (.int (s.length : Int))), some (.own (((List.range k).map fun (j : Nat) => [az f (tn s j), (j : Int)]).map iT)), some (.v (.int (k : Int))), none, none, none]) rfl
        (e2 := [some (.v (iT f)), some (.v (iT s)), some (.v (.int (s.length : Int))), some (.own (((List.range (k + 1)).map fun (j : Nat) => [az f (tn s j), (j : Int)]).map iT)), some (.v (.int (k : Int))), some (.v (iT (tn s k))), none, none]) ?_
      unfold b_closest_turn_1
      simp only [gt_z, gt_s, st_z, st_s, fgs_n, fgs_c, eVar_z, eVar_s, bVar_zv, bVar_zo, bVar_s, eC_ap, e2_ap, e1_ap, aNil_ap, aCons_ap, eTup_ap, eA_ap, nA_ap, eLst_ap, nLst_ap, n2_ap, eSl_ap, nSl_ap, pN_ap, pI_ap, isI_int, isB_bl, t1_ap, tAn_ap, tOr_ap, tNo_ap, eAn_ap, eOr_ap, eIf_ap, eCh_ap, tTrue_ap, nSS_ap, sNil_ap, sSeq_ap, oN_nx, oN_rt, oN_bk, oN_ct, outV_rt, outV_nx, sRet_ap, sIf_ap, sPre_ap, xV_ap, xO_ap, xN_t, xN_f, sSet_ap, sPar_ap, sPar3_ap, sAsg_ap, sAug_ap, sApp_ap, sExt_ap, isO_o, lstD_l, gN_ap, gsNil_ap, gsCons_ap, gT_ap, gLen_ap, setIx_ap, set2_ap', frz_z, frz_s, sFor_ap, sWhile_ap, sBrk_ap, sCnt_ap, addD_i, catLD_l, iaddD_i, subD_i, negD_i, ltD_i, leD_i, gtD_i, geD_i, truD_b, truD_i, truD_n, truD_l, truD_t, notD_b, isD_n, isntD_n, isD_b, isntD_b, isNonD_i, isNonD_b, isNonD_n, isNonD_t, isNonD_l, intD_i, intD_b, lenD_l, lenD_t, tupOfD_l, tupOfD_t, lstOfD_l, lstOfD_t, ixD_l, ixD_t, slD_l, slD_t, slLD_l, iSeq_ap, seqD_l, seqD_t, eqD_i, neD_i, nR1_ap, nR2_ap, eTp_ap, enD_l, enD_t, tup0, tup1, tup2, tup3, tup4, lst0, lst1, lst2, len2, len3, bq00, bq10, bq01, bq11, emp_c, emp_n, emp_cc, emp_nn, decide_true, decide_false, if_true, if_false, Bool.false_eq_true, some_bind, some_map, if_tt, if_ft, Bool.not_true, Bool.not_false, r1, r2, r3, hc, sumD_l, List.length_map, List.length_range, if_lt (show k ≤ 1000000 by omega)]
      rw [List.range_succ, List.map_append, List.map_append]; rfl
  obtain ⟨m, hm, hmem, hlx⟩ := minD_iTs (xs := (List.range s.length).map fun (j : Nat) => [az f (tn s j), (j : Int)]) (by
    intro e
    rw [List.map_eq_nil_iff, List.range_eq_nil] at e; omega)
  obtain ⟨K, hK, rfl⟩ := List.mem_map.mp hmem
  have hK := List.mem_range.mp hK
  have hle : ∀ k, k < s.length → ¬ (az f (tn s k) < az f (tn s K)) ∧ ¬ (az f (tn s k) = az f (tn s K) ∧ k < K) := fun k hk => by
    have := hlx _ (List.mem_map.mpr ⟨k, List.mem_range.mpr hk, rfl⟩)
    rw [lx2, Bool.or_eq_false_iff, Bool.and_eq_false_iff] at this
    simp only [decide_eq_false_iff_not] at this
    omega
  refine ⟨K, ?_, hK, fun k hk => by have := (hle k hk).1; omega, fun k hk => by have := hle k (by omega); omega⟩
  have hmx : maxD [.int (s.length : Int), .int 1] = some (.int (s.length : Int)) := by
    rw [max2, Int.max_eq_left (by omega)]
  have hf0 : forL (gN 4) b_closest_turn_1 [4, 5] (rngD 0 s.length) [some (.v (iT f)), some (.v (iT s)), some (.v (.int (s.length : Int))), some (.own []), none, none, none, none] = some (.nx [some (.v (iT f)), some (.v (iT s)), some (.v (.int (s.length : Int))), some (.own (((List.range s.length).map fun (j : Nat) => [az f (tn s j), (j : Int)]).map iT)), none, none, none, none]) := hf
  rw [fa_closest_turn]
  unfold den_closest_turn
  simp only [gt_z, gt_s, st_z, st_s, fgs_n, fgs_c, eVar_z, eVar_s, bVar_zv, bVar_zo, bVar_s, eC_ap, e2_ap, e1_ap, aNil_ap, aCons_ap, eTup_ap, eA_ap, nA_ap, eLst_ap, nLst_ap, n2_ap, eSl_ap, nSl_ap, pN_ap, pI_ap, isI_int, isB_bl, t1_ap, tAn_ap, tOr_ap, tNo_ap, eAn_ap, eOr_ap, eIf_ap, eCh_ap, tTrue_ap, nSS_ap, sNil_ap, sSeq_ap, oN_nx, oN_rt, oN_bk, oN_ct, outV_rt, outV_nx, sRet_ap, sIf_ap, sPre_ap, xV_ap, xO_ap, xN_t, xN_f, sSet_ap, sPar_ap, sPar3_ap, sAsg_ap, sAug_ap, sApp_ap, sExt_ap, isO_o, lstD_l, gN_ap, gsNil_ap, gsCons_ap, gT_ap, gLen_ap, setIx_ap, set2_ap', frz_z, frz_s, sFor_ap, sWhile_ap, sBrk_ap, sCnt_ap, addD_i, catLD_l, iaddD_i, subD_i, negD_i, ltD_i, leD_i, gtD_i, geD_i, truD_b, truD_i, truD_n, truD_l, truD_t, notD_b, isD_n, isntD_n, isD_b, isntD_b, isNonD_i, isNonD_b, isNonD_n, isNonD_t, isNonD_l, intD_i, intD_b, lenD_l, lenD_t, tupOfD_l, tupOfD_t, lstOfD_l, lstOfD_t, ixD_l, ixD_t, slD_l, slD_t, slLD_l, iSeq_ap, seqD_l, seqD_t, eqD_i, neD_i, nR1_ap, nR2_ap, eTp_ap, enD_l, enD_t, tup0, tup1, tup2, tup3, tup4, lst0, lst1, lst2, len2, len3, bq00, bq10, bq01, bq11, emp_c, emp_n, emp_cc, emp_nn, decide_true, decide_false, if_true, if_false, Bool.false_eq_true, some_bind, some_map, if_tt, if_ft, Bool.not_true, Bool.not_false, List.length_map, hmx, rg1N (show s.length ≤ 1000000 by omega), hf0, hm]
end K75
end

section
set_option maxRecDepth 100000
set_option maxHeartbeats 4000000
namespace K75
open PySem L2 PV PVL
theorem apart_ap {f t : List Int} (h : f.length = t.length) (h1 : f.length ≤ 100) : F__law_apart [iT f, iT t] = some (.int (az f t)) := by
  have e : ((List.range f.length).map fun k => ab (f.getD k 0 - t.getD k 0)) = (f.zip t).map fun p => ab (p.1 - p.2) := by
    apply List.ext_getElem
    · simp; omega
    · intro i g1 g2
      have hi : i < f.length := by simpa using g1
      simp only [List.getElem_map, List.getElem_range, List.getElem_zip]
      rw [List.getD_eq_getElem?_getD, List.getElem?_eq_getElem hi, List.getD_eq_getElem?_getD, List.getElem?_eq_getElem (by omega)]; rfl
  have hc : c__law_apart_1 [some (.v (iT f)), some (.v (iT t)), none] = some (((List.range f.length).map fun k => ab (f.getD k 0 - t.getD k 0)).map .int) := by
    unfold c__law_apart_1
    refine compR (lo := 0) (n := f.length) ?_ (by omega) fun k hk => ?_
    · simp only [gt_z, gt_s, st_z, st_s, fgs_n, fgs_c, eVar_z, eVar_s, bVar_zv, bVar_zo, bVar_s, eC_ap, e2_ap, e1_ap, aNil_ap, aCons_ap, eTup_ap, eA_ap, nA_ap, eLst_ap, nLst_ap, n2_ap, eSl_ap, nSl_ap, pN_ap, pI_ap, isI_int, isB_bl, t1_ap, tAn_ap, tOr_ap, tNo_ap, eAn_ap, eOr_ap, eIf_ap, eCh_ap, tTrue_ap, nSS_ap, sNil_ap, sSeq_ap, oN_nx, oN_rt, oN_bk, oN_ct, outV_rt, outV_nx, sRet_ap, sIf_ap, sPre_ap, xV_ap, xO_ap, xN_t, xN_f, sSet_ap, sPar_ap, sPar3_ap, sAsg_ap, sAug_ap, sApp_ap, sExt_ap, isO_o, lstD_l, gN_ap, gsNil_ap, gsCons_ap, gT_ap, gLen_ap, setIx_ap, set2_ap', frz_z, frz_s, sFor_ap, sWhile_ap, sBrk_ap, sCnt_ap, addD_i, catLD_l, iaddD_i, subD_i, negD_i, ltD_i, leD_i, gtD_i, geD_i, truD_b, truD_i, truD_n, truD_l, truD_t, notD_b, isD_n, isntD_n, isD_b, isntD_b, isNonD_i, isNonD_b, isNonD_n, isNonD_t, isNonD_l, intD_i, intD_b, lenD_l, lenD_t, tupOfD_l, tupOfD_t, lstOfD_l, lstOfD_t, ixD_l, ixD_t, slD_l, slD_t, slLD_l, iSeq_ap, seqD_l, seqD_t, eqD_i, neD_i, nR1_ap, nR2_ap, eTp_ap, enD_l, enD_t, tup0, tup1, tup2, tup3, tup4, lst0, lst1, lst2, len2, len3, bq00, bq10, bq01, bq11, emp_c, emp_n, emp_cc, emp_nn, decide_true, decide_false, if_true, if_false, Bool.false_eq_true, some_bind, some_map, if_tt, if_ft, Bool.not_true, Bool.not_false, List.length_map]
      exact rg1N (by omega)
    · simp only [gt_z, gt_s, st_z, st_s, fgs_n, fgs_c, eVar_z, eVar_s, bVar_zv, bVar_zo, bVar_s, eC_ap, e2_ap, e1_ap, aNil_ap, aCons_ap, eTup_ap, eA_ap, nA_ap, eLst_ap, nLst_ap, n2_ap, eSl_ap, nSl_ap, pN_ap, pI_ap, isI_int, isB_bl, t1_ap, tAn_ap, tOr_ap, tNo_ap, eAn_ap, eOr_ap, eIf_ap, eCh_ap, tTrue_ap, nSS_ap, sNil_ap, sSeq_ap, oN_nx, oN_rt, oN_bk, oN_ct, outV_rt, outV_nx, sRet_ap, sIf_ap, sPre_ap, xV_ap, xO_ap, xN_t, xN_f, sSet_ap, sPar_ap, sPar3_ap, sAsg_ap, sAug_ap, sApp_ap, sExt_ap, isO_o, lstD_l, gN_ap, gsNil_ap, gsCons_ap, gT_ap, gLen_ap, setIx_ap, set2_ap', frz_z, frz_s, sFor_ap, sWhile_ap, sBrk_ap, sCnt_ap, addD_i, catLD_l, iaddD_i, subD_i, negD_i, ltD_i, leD_i, gtD_i, geD_i, truD_b, truD_i, truD_n, truD_l, truD_t, notD_b, isD_n, isntD_n, isD_b, isntD_b, isNonD_i, isNonD_b, isNonD_n, isNonD_t, isNonD_l, intD_i, intD_b, lenD_l, lenD_t, tupOfD_l, tupOfD_t, lstOfD_l, lstOfD_t, ixD_l, ixD_t, slD_l, slD_t, slLD_l, iSeq_ap, seqD_l, seqD_t, eqD_i, neD_i, nR1_ap, nR2_ap, eTp_ap, enD_l, enD_t, tup0, tup1, tup2, tup3, tup4, lst0, lst1, lst2, len2, len3, bq00, bq10, bq01, bq11, emp_c, emp_n, emp_cc, emp_nn, decide_true, decide_false, if_true, if_false, Bool.false_eq_true, some_bind, some_map, if_tt, if_ft, Bool.not_true, Bool.not_false, Int.zero_add, ixTN hk, ixTN (show k < t.length by omega), absD_i]; rfl
  rw [fa__law_apart]
  unfold den__law_apart
  simp only [gt_z, gt_s, st_z, st_s, fgs_n, fgs_c, eVar_z, eVar_s, bVar_zv, bVar_zo, bVar_s, eC_ap, e2_ap, e1_ap, aNil_ap, aCons_ap, eTup_ap, eA_ap, nA_ap, eLst_ap, nLst_ap, n2_ap, eSl_ap, nSl_ap, pN_ap, pI_ap, isI_int, isB_bl, t1_ap, tAn_ap, tOr_ap, tNo_ap, eAn_ap, eOr_ap, eIf_ap, eCh_ap, tTrue_ap, nSS_ap, sNil_ap, sSeq_ap, oN_nx, oN_rt, oN_bk, oN_ct, outV_rt, outV_nx, sRet_ap, sIf_ap, sPre_ap, xV_ap, xO_ap, xN_t, xN_f, sSet_ap, sPar_ap, sPar3_ap, sAsg_ap, sAug_ap, sApp_ap, sExt_ap, isO_o, lstD_l, gN_ap, gsNil_ap, gsCons_ap, gT_ap, gLen_ap, setIx_ap, set2_ap', frz_z, frz_s, sFor_ap, sWhile_ap, sBrk_ap, sCnt_ap, addD_i, catLD_l, iaddD_i, subD_i, negD_i, ltD_i, leD_i, gtD_i, geD_i, truD_b, truD_i, truD_n, truD_l, truD_t, notD_b, isD_n, isntD_n, isD_b, isntD_b, isNonD_i, isNonD_b, isNonD_n, isNonD_t, isNonD_l, intD_i, intD_b, lenD_l, lenD_t, tupOfD_l, tupOfD_t, lstOfD_l, lstOfD_t, ixD_l, ixD_t, slD_l, slD_t, slLD_l, iSeq_ap, seqD_l, seqD_t, eqD_i, neD_i, nR1_ap, nR2_ap, eTp_ap, enD_l, enD_t, tup0, tup1, tup2, tup3, tup4, lst0, lst1, lst2, len2, len3, bq00, bq10, bq01, bq11, emp_c, emp_n, emp_cc, emp_nn, decide_true, decide_false, if_true, if_false, Bool.false_eq_true, some_bind, some_map, if_tt, if_ft, Bool.not_true, Bool.not_false, hc, sumD_l]
  rw [e]; rfl
theorem min_any {f s : List Int} {K : Nat} (l1 : 0 < s.length) (hm : ∀ k, k < s.length → az f (tn s K) ≤ az f (tn s k)) {k : Nat} (hk : k ≤ s.length) : az f (tn s K) ≤ az f (tn s k) := by
  by_cases e : k = s.length
  · subst e; rw [tn_end]; exact hm 0 l1
  · exact hm k (by omega)
theorem turn_right_ap {f s : List Int} {b : Nat} (h : f.length = s.length) (l1 : 0 < s.length) (h1 : s.length ≤ 100) (hb : b < s.length) : F__law_turn_right [iT f, iT s, .int (b : Int)] = some (.bool true) := by
  obtain ⟨K, c1, hK, hm, hlt⟩ := closest_ap h l1 h1
  obtain ⟨K2, c2, hK2, hm2, _⟩ := closest_ap (f := s) (s := f) h.symm (by omega) (by omega)
  obtain ⟨K3, c3, hK3, hm3, _⟩ := closest_ap (f := f) (s := tn s b) (by rw [tn_len]; exact h) (by rw [tn_len]; exact l1) (by rw [tn_len]; exact h1)
  rw [tn_len] at hK3 hm3
  have e2 : az s (tn f K2) = az f (tn s K) := by
    have a1 := az_turn (f := f) (s := s) h (k := K2) (by omega)
    have a2 := min_any l1 hm (k := s.length - K2) (by omega)
    have a3 := az_turn (f := f) (s := s) h (k := s.length - K) (by omega)
    rw [show s.length - (s.length - K) = K by omega] at a3
    have a4 := min_any (f := s) (s := f) (K := K2) (by omega) hm2 (k := s.length - K) (by omega)
    omega
  have e3 : az f (tn (tn s b) K3) = az f (tn s K) := by
    have a1 : az f (tn s K) ≤ az f (tn (tn s b) K3) := by
      rw [tn_tn (by omega) (by omega)]
      split
      · exact min_any l1 hm (by omega)
      · exact min_any l1 hm (by omega)
    have a2 : az f (tn (tn s b) K3) ≤ az f (tn s K) := by
      by_cases q : b ≤ K
      · have := hm3 (K - b) (by omega)
        rw [tn_tn (by omega) (by omega), tn_tn (by omega) (by omega), if_pos (show b + (K - b) ≤ s.length by omega), show b + (K - b) = K by omega, ← tn_tn (s := s) (by omega) (by omega)] at this
        exact this
      · have := hm3 (s.length - b + K) (by omega)
        have e : tn (tn s b) (s.length - b + K) = tn s K := by
          rw [tn_tn (by omega) (by omega)]
          by_cases q0 : K = 0
          · subst q0
            rw [if_pos (by omega), show b + (s.length - b + 0) = s.length by omega, tn_end]
          · rw [if_neg (by omega), show b + (s.length - b + K) - s.length = K by omega]
        rw [e] at this
        exact this
    omega
  have hdiag := A_diag f (tn s K) (by rw [tn_len]; exact h)
  have hal := aligned_ap (f := f) (s := tn s K) (by omega) (by rw [tn_len]; omega)
  obtain ⟨M, hM⟩ : ∃ M, az f (tn s K) = M := ⟨_, rfl⟩
  rw [e2] at c2
  rw [e3] at c3
  rw [hM] at c1 c2 c3 hdiag
  have c1' : F_closest_turn [iT f, iT s] = some (.tuple [.int M, .int (K : Int)]) := c1
  have c2' : F_closest_turn [iT s, iT f] = some (.tuple [.int M, .int (K2 : Int)]) := c2
  have c3' : F_closest_turn [iT f, iT (tn s b)] = some (.tuple [.int M, .int (K3 : Int)]) := c3
  let sm : List Int := (List.range s.length).map fun k => az f (tn s k)
  have hlen : sm.length = s.length := by simp [sm]
  have hget : ∀ k (hk : k < sm.length), sm[k] = az f (tn s k) := fun k hk => by simp [sm]
  have hmn : mn sm = M := by
    have g1 : M ∈ sm := List.mem_map.mpr ⟨K, List.mem_range.mpr hK, hM⟩
    have g2 := mn_le g1
    have g3 := mn_mem (xs := sm) (by intro e; rw [e] at g1; cases g1)
    obtain ⟨k, hk, e⟩ := List.mem_map.mp g3
    have := hm k (List.mem_range.mp hk)
    have e : az f (tn s k) = mn sm := e
    omega
  have hix : indexD (.list (sm.map .int)) (.int M) = some (.int (K : Int)) := by
    have := indexD_i (a := M) (xs := sm) (List.mem_map.mpr ⟨K, List.mem_range.mpr hK, hM⟩)
    have hi : sm.idxOf M = K := by
      unfold List.idxOf
      refine (List.findIdx_eq (by omega)).mpr ⟨?_, fun j hj => ?_⟩
      · rw [hget K (by omega), hM]; simp
      · have := hlt j hj
        rw [hget j (by omega)]
        simp; omega
    rw [hi] at this
    exact this
  have hcs : c__law_turn_right_1 [some (.v (iT f)), some (.v (iT s)), some (.v (.int (b : Int))), some (.v (.tuple [.int M, .int (K : Int)])), none, none, none, none] = some (sm.map .int) := by
    unfold c__law_turn_right_1
    refine compR (lo := 0) (n := s.length) ?_ (by omega) fun k hk => ?_
    · simp only [gt_z, gt_s, st_z, st_s, fgs_n, fgs_c, eVar_z, eVar_s, bVar_zv, bVar_zo, bVar_s, eC_ap, e2_ap, e1_ap, aNil_ap, aCons_ap, eTup_ap, eA_ap, nA_ap, eLst_ap, nLst_ap, n2_ap, eSl_ap, nSl_ap, pN_ap, pI_ap, isI_int, isB_bl, t1_ap, tAn_ap, tOr_ap, tNo_ap, eAn_ap, eOr_ap, eIf_ap, eCh_ap, tTrue_ap, nSS_ap, sNil_ap, sSeq_ap, oN_nx, oN_rt, oN_bk, oN_ct, outV_rt, outV_nx, sRet_ap, sIf_ap, sPre_ap, xV_ap, xO_ap, xN_t, xN_f, sSet_ap, sPar_ap, sPar3_ap, sAsg_ap, sAug_ap, sApp_ap, sExt_ap, isO_o, lstD_l, gN_ap, gsNil_ap, gsCons_ap, gT_ap, gLen_ap, setIx_ap, set2_ap', frz_z, frz_s, sFor_ap, sWhile_ap, sBrk_ap, sCnt_ap, addD_i, catLD_l, iaddD_i, subD_i, negD_i, ltD_i, leD_i, gtD_i, geD_i, truD_b, truD_i, truD_n, truD_l, truD_t, notD_b, isD_n, isntD_n, isD_b, isntD_b, isNonD_i, isNonD_b, isNonD_n, isNonD_t, isNonD_l, intD_i, intD_b, lenD_l, lenD_t, tupOfD_l, tupOfD_t, lstOfD_l, lstOfD_t, ixD_l, ixD_t, slD_l, slD_t, slLD_l, iSeq_ap, seqD_l, seqD_t, eqD_i, neD_i, nR1_ap, nR2_ap, eTp_ap, enD_l, enD_t, tup0, tup1, tup2, tup3, tup4, lst0, lst1, lst2, len2, len3, bq00, bq10, bq01, bq11, emp_c, emp_n, emp_cc, emp_nn, decide_true, decide_false, if_true, if_false, Bool.false_eq_true, some_bind, some_map, if_tt, if_ft, Bool.not_true, Bool.not_false, List.length_map, h]
      exact rg1N (by omega)
    · obtain ⟨u, v, r1, r2, r3⟩ := rot_ap (s := s) (k := k) h1
      simp only [gt_z, gt_s, st_z, st_s, fgs_n, fgs_c, eVar_z, eVar_s, bVar_zv, bVar_zo, bVar_s, eC_ap, e2_ap, e1_ap, aNil_ap, aCons_ap, eTup_ap, eA_ap, nA_ap, eLst_ap, nLst_ap, n2_ap, eSl_ap, nSl_ap, pN_ap, pI_ap, isI_int, isB_bl, t1_ap, tAn_ap, tOr_ap, tNo_ap, eAn_ap, eOr_ap, eIf_ap, eCh_ap, tTrue_ap, nSS_ap, sNil_ap, sSeq_ap, oN_nx, oN_rt, oN_bk, oN_ct, outV_rt, outV_nx, sRet_ap, sIf_ap, sPre_ap, xV_ap, xO_ap, xN_t, xN_f, sSet_ap, sPar_ap, sPar3_ap, sAsg_ap, sAug_ap, sApp_ap, sExt_ap, isO_o, lstD_l, gN_ap, gsNil_ap, gsCons_ap, gT_ap, gLen_ap, setIx_ap, set2_ap', frz_z, frz_s, sFor_ap, sWhile_ap, sBrk_ap, sCnt_ap, addD_i, catLD_l, iaddD_i, subD_i, negD_i, ltD_i, leD_i, gtD_i, geD_i, truD_b, truD_i, truD_n, truD_l, truD_t, notD_b, isD_n, isntD_n, isD_b, isntD_b, isNonD_i, isNonD_b, isNonD_n, isNonD_t, isNonD_l, intD_i, intD_b, lenD_l, lenD_t, tupOfD_l, tupOfD_t, lstOfD_l, lstOfD_t, ixD_l, ixD_t, slD_l, slD_t, slLD_l, iSeq_ap, seqD_l, seqD_t, eqD_i, neD_i, nR1_ap, nR2_ap, eTp_ap, enD_l, enD_t, tup0, tup1, tup2, tup3, tup4, lst0, lst1, lst2, len2, len3, bq00, bq10, bq01, bq11, emp_c, emp_n, emp_cc, emp_nn, decide_true, decide_false, if_true, if_false, Bool.false_eq_true, some_bind, some_map, if_tt, if_ft, Bool.not_true, Bool.not_false, Int.zero_add, r1, r2, r3, apart_ap (f := f) (t := tn s k) (by rw [tn_len]; exact h) (by omega)]
  have hmin : minD [.list (sm.map .int)] = some (.int M) := by rw [minD_l (by omega), hmn]
  obtain ⟨u, v, r1, r2, r3⟩ := rot_ap (s := s) (k := K) h1
  obtain ⟨u', v', r1', r2', r3'⟩ := rot_ap (s := s) (k := b) h1
  have ti : isiD' "tuple" (.tuple [.int M, .int (K : Int)]) = some (.bool true) := rfl
  have a0 : ∀ x y : D, atI [x, y] 0 = some x := fun _ _ => rfl
  have a1 : ∀ x y : D, atI [x, y] 1 = some y := fun _ _ => rfl
  have hne : neD (.tuple [.int M, .int (K : Int)]) (.tuple [.int M, .int (K : Int)]) = some (.bool false) := (neD_iT (xs := [M, (K : Int)]) (ys := [M, (K : Int)])).trans (by simp)
  have hl2 : ((([PyData.int M, .int (K : Int)] : List D).length : Nat) : Int) = 2 := rfl
  have b2 : ((2 : Int) == 2) = true := rfl
  have hle : decide (A f (tn s K) ≤ M) = true := decide_eq_true hdiag
  rw [fa__law_turn_right]
  unfold den__law_turn_right
  simp only [gt_z, gt_s, st_z, st_s, fgs_n, fgs_c, eVar_z, eVar_s, bVar_zv, bVar_zo, bVar_s, eC_ap, e2_ap, e1_ap, aNil_ap, aCons_ap, eTup_ap, eA_ap, nA_ap, eLst_ap, nLst_ap, n2_ap, eSl_ap, nSl_ap, pN_ap, pI_ap, isI_int, isB_bl, t1_ap, tAn_ap, tOr_ap, tNo_ap, eAn_ap, eOr_ap, eIf_ap, eCh_ap, tTrue_ap, nSS_ap, sNil_ap, sSeq_ap, oN_nx, oN_rt, oN_bk, oN_ct, outV_rt, outV_nx, sRet_ap, sIf_ap, sPre_ap, xV_ap, xO_ap, xN_t, xN_f, sSet_ap, sPar_ap, sPar3_ap, sAsg_ap, sAug_ap, sApp_ap, sExt_ap, isO_o, lstD_l, gN_ap, gsNil_ap, gsCons_ap, gT_ap, gLen_ap, setIx_ap, set2_ap', frz_z, frz_s, sFor_ap, sWhile_ap, sBrk_ap, sCnt_ap, addD_i, catLD_l, iaddD_i, subD_i, negD_i, ltD_i, leD_i, gtD_i, geD_i, truD_b, truD_i, truD_n, truD_l, truD_t, notD_b, isD_n, isntD_n, isD_b, isntD_b, isNonD_i, isNonD_b, isNonD_n, isNonD_t, isNonD_l, intD_i, intD_b, lenD_l, lenD_t, tupOfD_l, tupOfD_t, lstOfD_l, lstOfD_t, ixD_l, ixD_t, slD_l, slD_t, slLD_l, iSeq_ap, seqD_l, seqD_t, eqD_i, neD_i, nR1_ap, nR2_ap, eTp_ap, enD_l, enD_t, tup0, tup1, tup2, tup3, tup4, lst0, lst1, lst2, len2, len3, bq00, bq10, bq01, bq11, emp_c, emp_n, emp_cc, emp_nn, decide_true, decide_false, if_true, if_false, Bool.false_eq_true, some_bind, some_map, if_tt, if_ft, Bool.not_true, Bool.not_false, c1', ti, hl2, b2, a0, a1, is_int_i, hcs, hmin, hix, hne, r1, r2, r3, r1', r2', r3', c2', c3', beq_self_eq_true, hal, hle]
end K75
end

section
set_option maxRecDepth 100000
set_option maxHeartbeats 4000000
namespace K75
open PySem L2 PV PVL
def G (f s : List Int) (most : Int) : Nat → Nat → Int
  | 0, 0 => 0
  | 0, _ + 1 => most
  | _ + 1, 0 => most
  | r + 1, c + 1 => min (G f s most r (c + 1)) (G f s most r c) + ab (f.getD r 0 - s.getD c 0)
theorem way_snoc {w : Nat → Nat → Int} {p q p' q' : Nat} (h : (p' = p ∧ q' = q + 1) ∨ (p' = p + 1 ∧ q' = q) ∨ (p' = p + 1 ∧ q' = q + 1)) : S w p' q' 0 0 ≤ S w p q 0 0 + w p' q' := by
  have h1 := S_way w (p := p) (q := q) (Nat.zero_le _) (Nat.zero_le _)
  have h2 : Way w p' q' p q (w p q + w p' q') := by
    rcases h with ⟨rfl, rfl⟩ | ⟨rfl, rfl⟩ | ⟨rfl, rfl⟩
    · exact .right .stop
    · exact .down .stop
    · exact .both .stop
  have := (h1.join h2).min
  omega
theorem G_ge {f s : List Int} {most : Int} (hmo : 0 ≤ most) : ∀ r c : Nat, most ≤ G f s most r c ∨ (r = 0 ∧ c = 0 ∧ G f s most r c = 0) ∨ (1 ≤ r ∧ 1 ≤ c ∧ S (wf f s) (r - 1) (c - 1) 0 0 ≤ G f s most r c)
  | 0, 0 => .inr (.inl ⟨rfl, rfl, rfl⟩)
  | 0, c + 1 => .inl (Int.le_refl _)
  | r + 1, 0 => .inl (Int.le_refl _)
  | r + 1, c + 1 => by
    have a := G_ge (f := f) (s := s) hmo r (c + 1)
    have b := G_ge (f := f) (s := s) hmo r c
    have hn := ab_nn (f.getD r 0 - s.getD c 0)
    have hw : wf f s r c = ab (f.getD r 0 - s.getD c 0) := rfl
    have e : G f s most (r + 1) (c + 1) = min (G f s most r (c + 1)) (G f s most r c) + ab (f.getD r 0 - s.getD c 0) := rfl
    rw [e]
    simp only [Nat.add_sub_cancel] at a ⊢
    rcases (by omega : min (G f s most r (c + 1)) (G f s most r c) = G f s most r (c + 1) ∨ min (G f s most r (c + 1)) (G f s most r c) = G f s most r c) with m | m
    · rw [m]
      rcases a with a | ⟨_, h, _⟩ | ⟨h1, h2, h3⟩
      · left; omega
      · omega
      · right; right
        have := way_snoc (w := wf f s) (p := r - 1) (q := c) (p' := r) (q' := c) (.inr (.inl ⟨by omega, rfl⟩))
        exact ⟨by omega, by omega, by omega⟩
    · rw [m]
      rcases b with b | ⟨h0, h, h'⟩ | ⟨h1, h2, h3⟩
      · left; omega
      · right; right
        subst h0 h
        rw [S_end, hw]
        exact ⟨by omega, by omega, by omega⟩
      · right; right
        have := way_snoc (w := wf f s) (p := r - 1) (q := c - 1) (p' := r) (q' := c) (.inr (.inr ⟨by omega, by omega⟩))
        exact ⟨by omega, by omega, by omega⟩
theorem A_bound {M : Int} (hM : 0 ≤ M) : ∀ (f s : List Int), 0 < s.length → s.length ≤ f.length → (∀ x ∈ f, ∀ y ∈ s, ab (x - y) ≤ M) → A f s ≤ (f.length : Int) * M
  | [], s, h0, h, _ => by
    have : s = [] := by simpa using h
    subst this; cases h0
  | _ :: _, [], h0, _, _ => by simp at h0
  | x :: f, y :: s, h0, h, hb => by
    have e := hb x (by simp) y (by simp)
    have hl : ((x :: f).length : Int) * M = (f.length : Int) * M + M := by
      rw [List.length_cons]; push_cast; rw [Int.add_mul, Int.one_mul]
    have hnn : 0 ≤ (f.length : Int) * M := Int.mul_nonneg (Int.natCast_nonneg _) hM
    rw [A_cons, hl]
    by_cases h1 : f = []
    · subst h1
      have h2 : s = [] := List.length_eq_zero_iff.mp (by simpa using h)
      subst h2
      simp; omega
    · rw [if_neg h1]
      have l1 : 0 < f.length := List.length_pos_iff.mpr h1
      by_cases h2 : s = []
      · subst h2
        rw [if_pos rfl]
        have := A_bound hM f [y] (by simp) (by simp; omega) fun a ha b hb' => hb a (by simp [ha]) b hb'
        omega
      · rw [if_neg h2]
        have := A_bound hM f s (List.length_pos_iff.mpr h2) (by simpa using h) fun a ha b hb' => hb a (by simp [ha]) b (by simp [hb'])
        omega
def GL (f s : List Int) (most : Int) (r k : Nat) : List Int := (List.range (k + 1)).map (G f s most r)
theorem GL_get {f s : List Int} {most : Int} {r k i : Nat} (h : i ≤ k) : atI ((GL f s most r k).map PyData.int) (i : Int) = some (.int (G f s most r i)) := by
  have := ixTN (p := GL f s most r k) (i := i) (by simp [GL]; omega)
  rw [this]
  congr 2
  unfold GL
  rw [List.getD_eq_getElem?_getD, List.getElem?_map, List.getElem?_range (by omega)]; rfl
theorem flow_ap {f s : List Int} (h1 : f.length ≤ 8) (h2 : s.length ≤ f.length) (l2 : 0 < s.length) (hb : ∀ x ∈ f ++ s, 0 ≤ x ∧ x ≤ 100) : ∃ v, F_flow_swaps [iT f, iT s] = some (.int v) ∧ A f s ≤ v := by
  obtain ⟨X, hX⟩ : ∃ X, X = mx (f ++ s ++ [0]) := ⟨_, rfl⟩
  have hXle : ∀ x ∈ f ++ s, x ≤ X := fun x hx => by rw [hX]; exact mx_le (by simp only [List.mem_append] at hx ⊢; exact .inl hx)
  have hX0 : 0 ≤ X := by rw [hX]; exact mx_le (by simp)
  have hX1 : X ≤ 100 := by
    have := mx_mem (xs := f ++ s ++ [0]) (by simp)
    rw [← hX] at this
    rcases List.mem_append.mp this with q | q
    · exact (hb X q).2
    · simp at q; omega
  obtain ⟨most, hmo⟩ : ∃ most, most = (f.length : Int) * (X + 1) := ⟨_, rfl⟩
  have hm0 : 0 ≤ most := by rw [hmo]; exact Int.mul_nonneg (Int.natCast_nonneg _) (by omega)
  have hmul : mulD (.int (f.length : Int)) (.int (X + 1)) = some (.int most) := by rw [hmo]; exact mulD_l (by omega) (by omega)
  have habs : ∀ x : Int, (if x < 0 then -x else x) = ab x := fun _ => rfl
  have he : enS [iT s, .int 1] = some (enumS 1 (s.map .int)) := rfl
  have inner : ∀ (r : Nat) (rows : List D), r < f.length → forL (gLen 2 (gT (gsCons (gN 7) (gsCons (gN 8) gsNil)))) b_flow_swaps_1 [7, 8] (enumS 1 (s.map .int)) [some (.v (iT f)), some (.v (iT s)), some (.v (.int most)), some (.own rows), some (.v (.int (f.getD r 0))), some (.v (iL (GL f s most r s.length))), some (.own [.int most]), none, none] =
      some (.nx [some (.v (iT f)), some (.v (iT s)), some (.v (.int most)), some (.own rows), some (.v (.int (f.getD r 0))), some (.v (iL (GL f s most r s.length))), some (.own ((GL f s most (r + 1) s.length).map .int)), none, none]) := fun r rows hr => by
    have := forL_run (tgt := gLen 2 (gT (gsCons (gN 7) (gsCons (gN 8) gsNil)))) (body := b_flow_swaps_1) (is := [7, 8]) (ds := enumS 1 (s.map .int))
      (fun k => [some (.v (iT f)), some (.v (iT s)), some (.v (.int most)), some (.own rows), some (.v (.int (f.getD r 0))), some (.v (iL (GL f s most r s.length))), some (.own ((GL f s most (r + 1) k).map .int)), none, none]) fun k d hd => by
        have hk : k < s.length := by
          have := (List.getElem?_eq_some_iff.mp hd).1
          rw [enumS_length, List.length_map] at this; exact this
        have hg : (s.map PyData.int)[k]? = some (.int (s.getD k 0)) := by
          rw [List.getElem?_map, List.getElem?_eq_getElem hk, List.getD_eq_getElem?_getD, List.getElem?_eq_getElem hk]; rfl
        rw [enumS_get hg] at hd
        cases hd
        have e1 : (1 : Int) + (k : Int) = ((k + 1 : Nat) : Int) := by omega
        have e2 : ((k + 1 : Nat) : Int) - 1 = (k : Int) := by omega
        have q1 := GL_get (f := f) (s := s) (most := most) (r := r) (k := s.length) (i := k + 1) (by omega)
        have q2 := GL_get (f := f) (s := s) (most := most) (r := r) (k := s.length) (i := k) (by omega)
        have eg : GL f s most (r + 1) (k + 1) = GL f s most (r + 1) k ++ [min (G f s most r (k + 1)) (G f s most r k) + ab (f.getD r 0 - s.getD k 0)] := by
          unfold GL
          rw [List.range_succ (n := k + 1), List.map_append]; rfl
        rw [e1]
        refine turn_nx (e1 := [some (.v (iT f)), some (.v (iT s)), some (.v (.int most)), some (.own rows), some (.v (.int (f.getD r 0))), some (.v (iL (GL f s most r s.length))), some (.own ((GL f s most (r + 1) k).map .int)), some (.v (.int ((k + 1 : Nat) : Int))), some (.v (.int (s.getD k 0)))]) rfl
          (e2 := [some (.v (iT f)), some (.v (iT s)), some (.v (.int most)), some (.own rows), some (.v (.int (f.getD r 0))), some (.v (iL (GL f s most r s.length))), some (.own ((GL f s most (r + 1) (k + 1)).map .int)), some (.v (.int ((k + 1 : Nat) : Int))), some (.v (.int (s.getD k 0)))]) ?_
        unfold b_flow_swaps_1
        have hl : ((GL f s most (r + 1) k).map PyData.int).length ≤ 1000000 := by simp [GL]; omega
        simp only [gt_z, gt_s, st_z, st_s, fgs_n, fgs_c, eVar_z, eVar_s, bVar_zv, bVar_zo, bVar_s, eC_ap, e2_ap, e1_ap, aNil_ap, aCons_ap, eTup_ap, eA_ap, nA_ap, eLst_ap, nLst_ap, n2_ap, eSl_ap, nSl_ap, pN_ap, pI_ap, isI_int, isB_bl, t1_ap, tAn_ap, tOr_ap, tNo_ap, eAn_ap, eOr_ap, eIf_ap, eCh_ap, tTrue_ap, nSS_ap, sNil_ap, sSeq_ap, oN_nx, oN_rt, oN_bk, oN_ct, outV_rt, outV_nx, sRet_ap, sIf_ap, sPre_ap, xV_ap, xO_ap, xN_t, xN_f, sSet_ap, sPar_ap, sPar3_ap, sAsg_ap, sAug_ap, sApp_ap, sExt_ap, isO_o, lstD_l, gN_ap, gsNil_ap, gsCons_ap, gT_ap, gLen_ap, setIx_ap, set2_ap', frz_z, frz_s, sFor_ap, sWhile_ap, sBrk_ap, sCnt_ap, addD_i, catLD_l, iaddD_i, subD_i, negD_i, ltD_i, leD_i, gtD_i, geD_i, truD_b, truD_i, truD_n, truD_l, truD_t, notD_b, isD_n, isntD_n, isD_b, isntD_b, isNonD_i, isNonD_b, isNonD_n, isNonD_t, isNonD_l, intD_i, intD_b, lenD_l, lenD_t, tupOfD_l, tupOfD_t, lstOfD_l, lstOfD_t, ixD_l, ixD_t, slD_l, slD_t, slLD_l, iSeq_ap, seqD_l, seqD_t, eqD_i, neD_i, nR1_ap, nR2_ap, eTp_ap, enD_l, enD_t, tup0, tup1, tup2, tup3, tup4, lst0, lst1, lst2, len2, len3, bq00, bq10, bq01, bq11, emp_c, emp_n, emp_cc, emp_nn, decide_true, decide_false, if_true, if_false, Bool.false_eq_true, some_bind, some_map, if_tt, if_ft, Bool.not_true, Bool.not_false, iL, q1, e2, q2, min2, absD_i, habs, if_lt hl]
        rw [eg, List.map_append]; rfl
    rw [enumS_length, List.length_map] at this
    exact this
  obtain ⟨e', hf, rows, hE⟩ := forL_inv (tgt := gN 4) (body := b_flow_swaps_2) (is := [4, 5, 6, 7, 8]) (ds := f.map .int) (env := [some (.v (iT f)), some (.v (iT s)), some (.v (.int most)), some (.own [iL (GL f s most 0 s.length)]), none, none, none, none, none])
    (fun r e => ∃ rows : List D, e = [some (.v (iT f)), some (.v (iT s)), some (.v (.int most)), some (.own (rows ++ [iL (GL f s most r s.length)])), none, none, none, none, none] ∧ rows.length = r) ⟨[], rfl, rfl⟩ (fun r d e hd ⟨rows, hE, hrl⟩ => by
      subst hE
      rw [List.getElem?_map] at hd
      obtain ⟨x, hx, rfl⟩ := Option.map_eq_some_iff.mp hd
      have hr := (List.getElem?_eq_some_iff.mp hx).1
      have hxr : x = f.getD r 0 := by rw [List.getD_eq_getElem?_getD, hx]; rfl
      subst hxr
      have hin := inner r (rows ++ [iL (GL f s most r s.length)]) hr
      refine ⟨_, turn_nx (e1 := [some (.v (iT f)), some (.v (iT s)), some (.v (.int most)), some (.own (rows ++ [iL (GL f s most r s.length)])), some (.v (.int (f.getD r 0))), none, none, none, none]) rfl
        (e2 := [some (.v (iT f)), some (.v (iT s)), some (.v (.int most)), some (.own ((rows ++ [iL (GL f s most r s.length)]) ++ [iL (GL f s most (r + 1) s.length)])), some (.v (.int (f.getD r 0))), some (.v (iL (GL f s most r s.length))), some (.v (iL (GL f s most (r + 1) s.length))), none, none]) ?_, rows ++ [iL (GL f s most r s.length)], rfl, by simp [hrl]⟩
      unfold b_flow_swaps_2
      simp only [gt_z, gt_s, st_z, st_s, fgs_n, fgs_c, eVar_z, eVar_s, bVar_zv, bVar_zo, bVar_s, eC_ap, e2_ap, e1_ap, aNil_ap, aCons_ap, eTup_ap, eA_ap, nA_ap, eLst_ap, nLst_ap, n2_ap, eSl_ap, nSl_ap, pN_ap, pI_ap, isI_int, isB_bl, t1_ap, tAn_ap, tOr_ap, tNo_ap, eAn_ap, eOr_ap, eIf_ap, eCh_ap, tTrue_ap, nSS_ap, sNil_ap, sSeq_ap, oN_nx, oN_rt, oN_bk, oN_ct, outV_rt, outV_nx, sRet_ap, sIf_ap, sPre_ap, xV_ap, xO_ap, xN_t, xN_f, sSet_ap, sPar_ap, sPar3_ap, sAsg_ap, sAug_ap, sApp_ap, sExt_ap, isO_o, lstD_l, gN_ap, gsNil_ap, gsCons_ap, gT_ap, gLen_ap, setIx_ap, set2_ap', frz_z, frz_s, sFor_ap, sWhile_ap, sBrk_ap, sCnt_ap, addD_i, catLD_l, iaddD_i, subD_i, negD_i, ltD_i, leD_i, gtD_i, geD_i, truD_b, truD_i, truD_n, truD_l, truD_t, notD_b, isD_n, isntD_n, isD_b, isntD_b, isNonD_i, isNonD_b, isNonD_n, isNonD_t, isNonD_l, intD_i, intD_b, lenD_l, lenD_t, tupOfD_l, tupOfD_t, lstOfD_l, lstOfD_t, ixD_l, ixD_t, slD_l, slD_t, slLD_l, iSeq_ap, seqD_l, seqD_t, eqD_i, neD_i, nR1_ap, nR2_ap, eTp_ap, enD_l, enD_t, tup0, tup1, tup2, tup3, tup4, lst0, lst1, lst2, len2, len3, bq00, bq10, bq01, bq11, emp_c, emp_n, emp_cc, emp_nn, decide_true, decide_false, if_true, if_false, Bool.false_eq_true, some_bind, some_map, if_tt, if_ft, Bool.not_true, Bool.not_false, at_last, he, hin, if_lt (show (rows ++ [iL (GL f s most r s.length)]).length ≤ 1000000 by simp; omega)])
  obtain ⟨rfl, hrl⟩ := hE
  rw [List.length_map] at hf hrl
  refine ⟨G f s most f.length s.length, ?_, ?_⟩
  · have hmx : maxD [iT (f ++ s ++ [0])] = some (.int X) := by rw [maxD_t (by simp; omega), hX]
    have a1 : addD (iT f) (iT s) = some (iT (f ++ s)) := addT (by omega)
    have a2 : addD (iT (f ++ s)) (.tuple [.int 0]) = some (iT (f ++ s ++ [0])) := addT1 (by simp; omega)
    have hrep : repLD (.list [.int most]) (.int (s.length : Int)) = some (List.replicate s.length (.int most)) := by
      rw [repLD_li (by omega) (by omega) (by simp), Int.toNat_natCast, rep_flat]
    have hG0 : (PyData.int 0 :: List.replicate s.length (PyData.int most)) = (GL f s most 0 s.length).map .int := by
      unfold GL
      rw [List.range_succ_eq_map, List.map_cons, List.map_cons, List.map_map, List.map_map]
      congr 1
      apply List.ext_getElem
      · simp
      · intro i q1 q2
        simp only [List.getElem_replicate, List.getElem_map, List.getElem_range, Function.comp]
        rfl
    have hlast : atI ((GL f s most f.length s.length).map PyData.int) (-1) = some (.int (G f s most f.length s.length)) := by
      unfold GL
      rw [List.range_succ, List.map_append, List.map_append]
      exact at_last
    have hadd : addD (.list [.int 0]) (.list (List.replicate s.length (.int most))) = some (iL (GL f s most 0 s.length)) := by
      show (if [PyData.int 0].length + (List.replicate s.length (PyData.int most)).length ≤ line then some (PyData.list ([PyData.int 0] ++ List.replicate s.length (PyData.int most))) else none) = _
      rw [if_pos (PVL.le_line (by simp; omega))]
      show some (PyData.list (PyData.int 0 :: List.replicate s.length (PyData.int most))) = _
      rw [hG0]
    rw [fa_flow_swaps]
    unfold den_flow_swaps
    simp only [gt_z, gt_s, st_z, st_s, fgs_n, fgs_c, eVar_z, eVar_s, bVar_zv, bVar_zo, bVar_s, eC_ap, e2_ap, e1_ap, aNil_ap, aCons_ap, eTup_ap, eA_ap, nA_ap, eLst_ap, nLst_ap, n2_ap, eSl_ap, nSl_ap, pN_ap, pI_ap, isI_int, isB_bl, t1_ap, tAn_ap, tOr_ap, tNo_ap, eAn_ap, eOr_ap, eIf_ap, eCh_ap, tTrue_ap, nSS_ap, sNil_ap, sSeq_ap, oN_nx, oN_rt, oN_bk, oN_ct, outV_rt, outV_nx, sRet_ap, sIf_ap, sPre_ap, xV_ap, xO_ap, xN_t, xN_f, sSet_ap, sPar_ap, sPar3_ap, sAsg_ap, sAug_ap, sApp_ap, sExt_ap, isO_o, lstD_l, gN_ap, gsNil_ap, gsCons_ap, gT_ap, gLen_ap, setIx_ap, set2_ap', frz_z, frz_s, sFor_ap, sWhile_ap, sBrk_ap, sCnt_ap, addD_i, catLD_l, iaddD_i, subD_i, negD_i, ltD_i, leD_i, gtD_i, geD_i, truD_b, truD_i, truD_n, truD_l, truD_t, notD_b, isD_n, isntD_n, isD_b, isntD_b, isNonD_i, isNonD_b, isNonD_n, isNonD_t, isNonD_l, intD_i, intD_b, lenD_l, lenD_t, tupOfD_l, tupOfD_t, lstOfD_l, lstOfD_t, ixD_l, ixD_t, slD_l, slD_t, slLD_l, iSeq_ap, seqD_l, seqD_t, eqD_i, neD_i, nR1_ap, nR2_ap, eTp_ap, enD_l, enD_t, tup0, tup1, tup2, tup3, tup4, lst0, lst1, lst2, len2, len3, bq00, bq10, bq01, bq11, emp_c, emp_n, emp_cc, emp_nn, decide_true, decide_false, if_true, if_false, Bool.false_eq_true, some_bind, some_map, if_tt, if_ft, Bool.not_true, Bool.not_false, List.length_map, a1, a2, hmx, hmul, hrep]
    simp only [hadd, gt_z, gt_s, st_z, st_s, fgs_n, fgs_c, eVar_z, eVar_s, bVar_zv, bVar_zo, bVar_s, eC_ap, e2_ap, e1_ap, aNil_ap, aCons_ap, eTup_ap, eA_ap, nA_ap, eLst_ap, nLst_ap, n2_ap, eSl_ap, nSl_ap, pN_ap, pI_ap, isI_int, isB_bl, t1_ap, tAn_ap, tOr_ap, tNo_ap, eAn_ap, eOr_ap, eIf_ap, eCh_ap, tTrue_ap, nSS_ap, sNil_ap, sSeq_ap, oN_nx, oN_rt, oN_bk, oN_ct, outV_rt, outV_nx, sRet_ap, sIf_ap, sPre_ap, xV_ap, xO_ap, xN_t, xN_f, sSet_ap, sPar_ap, sPar3_ap, sAsg_ap, sAug_ap, sApp_ap, sExt_ap, isO_o, lstD_l, gN_ap, gsNil_ap, gsCons_ap, gT_ap, gLen_ap, setIx_ap, set2_ap', frz_z, frz_s, sFor_ap, sWhile_ap, sBrk_ap, sCnt_ap, addD_i, catLD_l, iaddD_i, subD_i, negD_i, ltD_i, leD_i, gtD_i, geD_i, truD_b, truD_i, truD_n, truD_l, truD_t, notD_b, isD_n, isntD_n, isD_b, isntD_b, isNonD_i, isNonD_b, isNonD_n, isNonD_t, isNonD_l, intD_i, intD_b, lenD_l, lenD_t, tupOfD_l, tupOfD_t, lstOfD_l, lstOfD_t, ixD_l, ixD_t, slD_l, slD_t, slLD_l, iSeq_ap, seqD_l, seqD_t, eqD_i, neD_i, nR1_ap, nR2_ap, eTp_ap, enD_l, enD_t, tup0, tup1, tup2, tup3, tup4, lst0, lst1, lst2, len2, len3, bq00, bq10, bq01, bq11, emp_c, emp_n, emp_cc, emp_nn, decide_true, decide_false, if_true, if_false, Bool.false_eq_true, some_bind, some_map, if_tt, if_ft, Bool.not_true, Bool.not_false, hf, at_last, hlast]
  · have hg := G_ge (f := f) (s := s) hm0 f.length s.length
    have hA : A f s = S (wf f s) (f.length - 1) (s.length - 1) 0 0 := by unfold A; rw [if_neg (by omega)]
    rcases hg with g | ⟨_, g, _⟩ | ⟨_, _, g⟩
    · have := A_bound (M := X) hX0 f s l2 h2 fun x hx y hy => by
        have p1 := hXle x (by simp [hx]); have p2 := hXle y (by simp [hy])
        have p3 := hb x (by simp [hx]); have p4 := hb y (by simp [hy])
        unfold ab; split <;> omega
      have e : most = (f.length : Int) * X + (f.length : Int) := by rw [hmo, Int.mul_add, Int.mul_one]
      omega
    · omega
    · rw [hA]; exact g
end K75
end

section
set_option maxRecDepth 100000
set_option maxHeartbeats 4000000
namespace K75
open PySem L2 PV PVL
def tl1 : Ev → Option Out :=
  sSeq (sIf (tOr' (tNo (t1 truD (eA F__law_way_right (aCons (eVar 3) (aCons (eVar 4) aNil))))) (tNo (t1 truD (eA F__law_moved_right (aCons (eVar 1) (aCons (eVar 3) (aCons (eVar 4) aNil))))))) (sRet (eC (.bool false))) sNil) <|
  sSeq (sSet 5 (xV (eA minD (aCons (eA lenD (aCons (eVar 3) aNil)) (aCons (eA lenD (aCons (eVar 4) aNil)) aNil))))) <|
  sSeq (sIf (tNo (t1 truD (eA F__law_turn_right (aCons (eSl slD (eVar 3) pN (pI (eVar 5))) (aCons (eSl slD (eVar 4) pN (pI (eVar 5))) (aCons (e2 modD (eA intD (aCons (e2 ixD (eVar 1) (eC (.int 30))) aNil)) (eVar 5)) aNil)))))) (sRet (eC (.bool false))) sNil) <|
  sSeq (sSet 6 (xV (eSl slD (eA tupOfD (aCons (eLst c_law_3) aNil)) pN (pI (eC (.int 8)))))) <|
  sSeq (sSet 7 (xV (eSl slD (eA tupOfD (aCons (eLst c_law_4) aNil)) pN (pI (eA lenD (aCons (eVar 6) aNil)))))) <|
  sRet (eOr (e2 eqD (eA lenD (aCons (eVar 7) aNil)) (eC (.int 0))) (e2 leD (eA F_aligned (aCons (eVar 6) (aCons (eVar 7) aNil))) (eA F_flow_swaps (aCons (eVar 6) (aCons (eVar 7) aNil)))))
theorem den_law_eq : den_law = (
  sSeq (sSet 1 (xV (eA F__law_row (aCons (eVar 0) (aCons (eC (.int 66)) aNil))))) <|
  sSeq (sSet 2 (xV (e2 ixD (eTup (aCons (eC (.int 2)) (aCons (eC (.int 4)) (aCons (eC (.int 10)) (aCons (eC (.int 10)) aNil))))) (e2 modD (eA intD (aCons (e2 ixD (eVar 1) (eC (.int 2))) aNil)) (eC (.int 4)))))) <|
  sSeq (sSet 3 (xV (eA tupOfD (aCons (eLst c_law_1) aNil)))) <|
  sSeq (sSet 4 (xV (eA tupOfD (aCons (eLst c_law_2) aNil)))) <|
  sSeq (sIf (t1 isB (e2 eqD (e2 modD (eA intD (aCons (e2 ixD (eVar 1) (eC (.int 19))) aNil)) (eC (.int 3))) (eC (.int 0)))) (sSet 4 (xV (eSl slD (eA F__law_repeated (aCons (eVar 1) (aCons (eC (.int 20)) (aCons (eVar 3) aNil)))) pN (pI (eC (.int 8)))))) sNil) <| tl1) := rfl
theorem tl1_ap {ns row f s : List Int} {lim : D} (hr : row.length = 66) (h1 : f.length ≤ 8) (l1 : 0 < f.length) (h2 : s.length ≤ 8) (l2 : 0 < s.length) :
    tl1 [some (.v (scrD ns)), some (.v (iL row)), some (.v lim), some (.v (iT f)), some (.v (iT s)), none, none, none, none, none] = some (.rt (.bool true)) := by
  have w1 := way_right_ap (f := f) (s := s) (by omega) (by omega) l1 l2
  have w2 := moved_ap (row := row) (f := f) (s := s) (by omega) h1 h2 l1 l2
  have i30 : atI (row.map PyData.int) 30 = some (.int (row.getD 30 0)) := ixTN (i := 30) (by omega)
  obtain ⟨z, hz⟩ : ∃ z : Nat, z = min f.length s.length := ⟨_, rfl⟩
  have hmin : minD [.int (f.length : Int), .int (s.length : Int)] = some (.int (z : Int)) := by
    rw [min2]; congr 2; omega
  have hz0 : (0 : Int) < (z : Int) := by omega
  obtain ⟨b, hb⟩ : ∃ b : Nat, row.getD 30 0 % (z : Int) = (b : Int) := ⟨(row.getD 30 0 % (z : Int)).toNat, by
    have := Int.emod_nonneg (row.getD 30 0) (show (z : Int) ≠ 0 by omega)
    omega⟩
  have hbz : b < z := by
    have := Int.emod_lt_of_pos (row.getD 30 0) hz0
    omega
  have s1 : slD (iT f) none (some (z : Int)) = some (iT (f.take z)) := slT_to
  have s2 : slD (iT s) none (some (z : Int)) = some (iT (s.take z)) := slT_to
  have w3 := turn_right_ap (f := f.take z) (s := s.take z) (b := b) (by rw [List.length_take, List.length_take]; omega) (by rw [List.length_take]; omega) (by rw [List.length_take]; omega) (by rw [List.length_take]; omega)
  have d2 : (0 : Int) < 2 := by decide
  have d3 : (0 : Int) < 3 := by decide
  have r13 : rg1 [.int 13] = some (rngD 0 13) := rg1N (n := 13) (by decide)
  let M : List Int := ((List.range 13).filter fun k => row.getD (40 + k) 0 % 2 == 0).map fun (k : Nat) => (k : Int)
  let O : List Int := ((List.range 13).filter fun k => row.getD (53 + k) 0 % 3 == 0).map fun (k : Nat) => (k : Int)
  have c3 : ∀ e5 : Option SV, c_law_3 [some (.v (scrD ns)), some (.v (iL row)), some (.v lim), some (.v (iT f)), some (.v (iT s)), e5, none, none, none, none] = some (M.map .int) := fun e5 => by
    unfold c_law_3
    rw [List.map_map]
    refine compRF (lo := 0) (n := 13) (p := fun k => row.getD (40 + k) 0 % 2 == 0) ?_ (by decide) (fun k hk => ?_) fun k hk _ => by simp only [gt_z, gt_s, st_z, st_s, fgs_n, fgs_c, eVar_z, eVar_s, bVar_zv, bVar_zo, bVar_s, eC_ap, e2_ap, e1_ap, aNil_ap, aCons_ap, eTup_ap, eA_ap, nA_ap, eLst_ap, nLst_ap, n2_ap, eSl_ap, nSl_ap, pN_ap, pI_ap, isI_int, isB_bl, t1_ap, tAn_ap, tOr_ap, tNo_ap, eAn_ap, eOr_ap, eIf_ap, eCh_ap, tTrue_ap, nSS_ap, sNil_ap, sSeq_ap, oN_nx, oN_rt, oN_bk, oN_ct, outV_rt, outV_nx, sRet_ap, sIf_ap, sPre_ap, xV_ap, xO_ap, xN_t, xN_f, sSet_ap, sPar_ap, sPar3_ap, sAsg_ap, sAug_ap, sApp_ap, sExt_ap, isO_o, lstD_l, gN_ap, gsNil_ap, gsCons_ap, gT_ap, gLen_ap, setIx_ap, set2_ap', frz_z, frz_s, sFor_ap, sWhile_ap, sBrk_ap, sCnt_ap, addD_i, catLD_l, iaddD_i, subD_i, negD_i, ltD_i, leD_i, gtD_i, geD_i, truD_b, truD_i, truD_n, truD_l, truD_t, notD_b, isD_n, isntD_n, isD_b, isntD_b, isNonD_i, isNonD_b, isNonD_n, isNonD_t, isNonD_l, intD_i, intD_b, lenD_l, lenD_t, tupOfD_l, tupOfD_t, lstOfD_l, lstOfD_t, ixD_l, ixD_t, slD_l, slD_t, slLD_l, iSeq_ap, seqD_l, seqD_t, eqD_i, neD_i, nR1_ap, nR2_ap, eTp_ap, enD_l, enD_t, tup0, tup1, tup2, tup3, tup4, lst0, lst1, lst2, len2, len3, bq00, bq10, bq01, bq11, emp_c, emp_n, emp_cc, emp_nn, decide_true, decide_false, if_true, if_false, Bool.false_eq_true, some_bind, some_map, if_tt, if_ft, Bool.not_true, Bool.not_false, Int.zero_add]; rfl
    · simp only [gt_z, gt_s, st_z, st_s, fgs_n, fgs_c, eVar_z, eVar_s, bVar_zv, bVar_zo, bVar_s, eC_ap, e2_ap, e1_ap, aNil_ap, aCons_ap, eTup_ap, eA_ap, nA_ap, eLst_ap, nLst_ap, n2_ap, eSl_ap, nSl_ap, pN_ap, pI_ap, isI_int, isB_bl, t1_ap, tAn_ap, tOr_ap, tNo_ap, eAn_ap, eOr_ap, eIf_ap, eCh_ap, tTrue_ap, nSS_ap, sNil_ap, sSeq_ap, oN_nx, oN_rt, oN_bk, oN_ct, outV_rt, outV_nx, sRet_ap, sIf_ap, sPre_ap, xV_ap, xO_ap, xN_t, xN_f, sSet_ap, sPar_ap, sPar3_ap, sAsg_ap, sAug_ap, sApp_ap, sExt_ap, isO_o, lstD_l, gN_ap, gsNil_ap, gsCons_ap, gT_ap, gLen_ap, setIx_ap, set2_ap', frz_z, frz_s, sFor_ap, sWhile_ap, sBrk_ap, sCnt_ap, addD_i, catLD_l, iaddD_i, subD_i, negD_i, ltD_i, leD_i, gtD_i, geD_i, truD_b, truD_i, truD_n, truD_l, truD_t, notD_b, isD_n, isntD_n, isD_b, isntD_b, isNonD_i, isNonD_b, isNonD_n, isNonD_t, isNonD_l, intD_i, intD_b, lenD_l, lenD_t, tupOfD_l, tupOfD_t, lstOfD_l, lstOfD_t, ixD_l, ixD_t, slD_l, slD_t, slLD_l, iSeq_ap, seqD_l, seqD_t, eqD_i, neD_i, nR1_ap, nR2_ap, eTp_ap, enD_l, enD_t, tup0, tup1, tup2, tup3, tup4, lst0, lst1, lst2, len2, len3, bq00, bq10, bq01, bq11, emp_c, emp_n, emp_cc, emp_nn, decide_true, decide_false, if_true, if_false, Bool.false_eq_true, some_bind, some_map, if_tt, if_ft, Bool.not_true, Bool.not_false, r13]
    · have hx : atI (row.map PyData.int) (40 + (k : Int)) = some (.int (row.getD (40 + k) 0)) := by
        have := ixTN (p := row) (i := 40 + k) (by omega)
        push_cast at this
        exact this
      simp only [gt_z, gt_s, st_z, st_s, fgs_n, fgs_c, eVar_z, eVar_s, bVar_zv, bVar_zo, bVar_s, eC_ap, e2_ap, e1_ap, aNil_ap, aCons_ap, eTup_ap, eA_ap, nA_ap, eLst_ap, nLst_ap, n2_ap, eSl_ap, nSl_ap, pN_ap, pI_ap, isI_int, isB_bl, t1_ap, tAn_ap, tOr_ap, tNo_ap, eAn_ap, eOr_ap, eIf_ap, eCh_ap, tTrue_ap, nSS_ap, sNil_ap, sSeq_ap, oN_nx, oN_rt, oN_bk, oN_ct, outV_rt, outV_nx, sRet_ap, sIf_ap, sPre_ap, xV_ap, xO_ap, xN_t, xN_f, sSet_ap, sPar_ap, sPar3_ap, sAsg_ap, sAug_ap, sApp_ap, sExt_ap, isO_o, lstD_l, gN_ap, gsNil_ap, gsCons_ap, gT_ap, gLen_ap, setIx_ap, set2_ap', frz_z, frz_s, sFor_ap, sWhile_ap, sBrk_ap, sCnt_ap, addD_i, catLD_l, iaddD_i, subD_i, negD_i, ltD_i, leD_i, gtD_i, geD_i, truD_b, truD_i, truD_n, truD_l, truD_t, notD_b, isD_n, isntD_n, isD_b, isntD_b, isNonD_i, isNonD_b, isNonD_n, isNonD_t, isNonD_l, intD_i, intD_b, lenD_l, lenD_t, tupOfD_l, tupOfD_t, lstOfD_l, lstOfD_t, ixD_l, ixD_t, slD_l, slD_t, slLD_l, iSeq_ap, seqD_l, seqD_t, eqD_i, neD_i, nR1_ap, nR2_ap, eTp_ap, enD_l, enD_t, tup0, tup1, tup2, tup3, tup4, lst0, lst1, lst2, len2, len3, bq00, bq10, bq01, bq11, emp_c, emp_n, emp_cc, emp_nn, decide_true, decide_false, if_true, if_false, Bool.false_eq_true, some_bind, some_map, if_tt, if_ft, Bool.not_true, Bool.not_false, Int.zero_add, hx, modD_i (a := row.getD (40 + k) 0) d2]
  have c4 : ∀ e5 e6 : Option SV, c_law_4 [some (.v (scrD ns)), some (.v (iL row)), some (.v lim), some (.v (iT f)), some (.v (iT s)), e5, e6, none, none, none] = some (O.map .int) := fun e5 e6 => by
    unfold c_law_4
    rw [List.map_map]
    refine compRF (lo := 0) (n := 13) (p := fun k => row.getD (53 + k) 0 % 3 == 0) ?_ (by decide) (fun k hk => ?_) fun k hk _ => by simp only [gt_z, gt_s, st_z, st_s, fgs_n, fgs_c, eVar_z, eVar_s, bVar_zv, bVar_zo, bVar_s, eC_ap, e2_ap, e1_ap, aNil_ap, aCons_ap, eTup_ap, eA_ap, nA_ap, eLst_ap, nLst_ap, n2_ap, eSl_ap, nSl_ap, pN_ap, pI_ap, isI_int, isB_bl, t1_ap, tAn_ap, tOr_ap, tNo_ap, eAn_ap, eOr_ap, eIf_ap, eCh_ap, tTrue_ap, nSS_ap, sNil_ap, sSeq_ap, oN_nx, oN_rt, oN_bk, oN_ct, outV_rt, outV_nx, sRet_ap, sIf_ap, sPre_ap, xV_ap, xO_ap, xN_t, xN_f, sSet_ap, sPar_ap, sPar3_ap, sAsg_ap, sAug_ap, sApp_ap, sExt_ap, isO_o, lstD_l, gN_ap, gsNil_ap, gsCons_ap, gT_ap, gLen_ap, setIx_ap, set2_ap', frz_z, frz_s, sFor_ap, sWhile_ap, sBrk_ap, sCnt_ap, addD_i, catLD_l, iaddD_i, subD_i, negD_i, ltD_i, leD_i, gtD_i, geD_i, truD_b, truD_i, truD_n, truD_l, truD_t, notD_b, isD_n, isntD_n, isD_b, isntD_b, isNonD_i, isNonD_b, isNonD_n, isNonD_t, isNonD_l, intD_i, intD_b, lenD_l, lenD_t, tupOfD_l, tupOfD_t, lstOfD_l, lstOfD_t, ixD_l, ixD_t, slD_l, slD_t, slLD_l, iSeq_ap, seqD_l, seqD_t, eqD_i, neD_i, nR1_ap, nR2_ap, eTp_ap, enD_l, enD_t, tup0, tup1, tup2, tup3, tup4, lst0, lst1, lst2, len2, len3, bq00, bq10, bq01, bq11, emp_c, emp_n, emp_cc, emp_nn, decide_true, decide_false, if_true, if_false, Bool.false_eq_true, some_bind, some_map, if_tt, if_ft, Bool.not_true, Bool.not_false, Int.zero_add]; rfl
    · simp only [gt_z, gt_s, st_z, st_s, fgs_n, fgs_c, eVar_z, eVar_s, bVar_zv, bVar_zo, bVar_s, eC_ap, e2_ap, e1_ap, aNil_ap, aCons_ap, eTup_ap, eA_ap, nA_ap, eLst_ap, nLst_ap, n2_ap, eSl_ap, nSl_ap, pN_ap, pI_ap, isI_int, isB_bl, t1_ap, tAn_ap, tOr_ap, tNo_ap, eAn_ap, eOr_ap, eIf_ap, eCh_ap, tTrue_ap, nSS_ap, sNil_ap, sSeq_ap, oN_nx, oN_rt, oN_bk, oN_ct, outV_rt, outV_nx, sRet_ap, sIf_ap, sPre_ap, xV_ap, xO_ap, xN_t, xN_f, sSet_ap, sPar_ap, sPar3_ap, sAsg_ap, sAug_ap, sApp_ap, sExt_ap, isO_o, lstD_l, gN_ap, gsNil_ap, gsCons_ap, gT_ap, gLen_ap, setIx_ap, set2_ap', frz_z, frz_s, sFor_ap, sWhile_ap, sBrk_ap, sCnt_ap, addD_i, catLD_l, iaddD_i, subD_i, negD_i, ltD_i, leD_i, gtD_i, geD_i, truD_b, truD_i, truD_n, truD_l, truD_t, notD_b, isD_n, isntD_n, isD_b, isntD_b, isNonD_i, isNonD_b, isNonD_n, isNonD_t, isNonD_l, intD_i, intD_b, lenD_l, lenD_t, tupOfD_l, tupOfD_t, lstOfD_l, lstOfD_t, ixD_l, ixD_t, slD_l, slD_t, slLD_l, iSeq_ap, seqD_l, seqD_t, eqD_i, neD_i, nR1_ap, nR2_ap, eTp_ap, enD_l, enD_t, tup0, tup1, tup2, tup3, tup4, lst0, lst1, lst2, len2, len3, bq00, bq10, bq01, bq11, emp_c, emp_n, emp_cc, emp_nn, decide_true, decide_false, if_true, if_false, Bool.false_eq_true, some_bind, some_map, if_tt, if_ft, Bool.not_true, Bool.not_false, r13]
    · have hx : atI (row.map PyData.int) (53 + (k : Int)) = some (.int (row.getD (53 + k) 0)) := by
        have := ixTN (p := row) (i := 53 + k) (by omega)
        push_cast at this
        exact this
      simp only [gt_z, gt_s, st_z, st_s, fgs_n, fgs_c, eVar_z, eVar_s, bVar_zv, bVar_zo, bVar_s, eC_ap, e2_ap, e1_ap, aNil_ap, aCons_ap, eTup_ap, eA_ap, nA_ap, eLst_ap, nLst_ap, n2_ap, eSl_ap, nSl_ap, pN_ap, pI_ap, isI_int, isB_bl, t1_ap, tAn_ap, tOr_ap, tNo_ap, eAn_ap, eOr_ap, eIf_ap, eCh_ap, tTrue_ap, nSS_ap, sNil_ap, sSeq_ap, oN_nx, oN_rt, oN_bk, oN_ct, outV_rt, outV_nx, sRet_ap, sIf_ap, sPre_ap, xV_ap, xO_ap, xN_t, xN_f, sSet_ap, sPar_ap, sPar3_ap, sAsg_ap, sAug_ap, sApp_ap, sExt_ap, isO_o, lstD_l, gN_ap, gsNil_ap, gsCons_ap, gT_ap, gLen_ap, setIx_ap, set2_ap', frz_z, frz_s, sFor_ap, sWhile_ap, sBrk_ap, sCnt_ap, addD_i, catLD_l, iaddD_i, subD_i, negD_i, ltD_i, leD_i, gtD_i, geD_i, truD_b, truD_i, truD_n, truD_l, truD_t, notD_b, isD_n, isntD_n, isD_b, isntD_b, isNonD_i, isNonD_b, isNonD_n, isNonD_t, isNonD_l, intD_i, intD_b, lenD_l, lenD_t, tupOfD_l, tupOfD_t, lstOfD_l, lstOfD_t, ixD_l, ixD_t, slD_l, slD_t, slLD_l, iSeq_ap, seqD_l, seqD_t, eqD_i, neD_i, nR1_ap, nR2_ap, eTp_ap, enD_l, enD_t, tup0, tup1, tup2, tup3, tup4, lst0, lst1, lst2, len2, len3, bq00, bq10, bq01, bq11, emp_c, emp_n, emp_cc, emp_nn, decide_true, decide_false, if_true, if_false, Bool.false_eq_true, some_bind, some_map, if_tt, if_ft, Bool.not_true, Bool.not_false, Int.zero_add, hx, modD_i (a := row.getD (53 + k) 0) d3]
  have s3 : slD (iT M) none (some 8) = some (iT (M.take 8)) := slT_to (k := 8)
  obtain ⟨m8, hm8⟩ : ∃ m8 : Nat, m8 = (M.take 8).length := ⟨_, rfl⟩
  have hm8' : m8 ≤ 8 := by rw [hm8, List.length_take]; omega
  have s4 : slD (iT O) none (some (m8 : Int)) = some (iT (O.take m8)) := slT_to
  have hMb : ∀ x ∈ M.take 8 ++ O.take m8, 0 ≤ x ∧ x ≤ 100 := fun x hx => by
    rcases List.mem_append.mp hx with q | q
    · obtain ⟨k, hk, rfl⟩ := List.mem_map.mp (List.mem_of_mem_take q)
      have := List.mem_range.mp (List.mem_filter.mp hk).1
      omega
    · obtain ⟨k, hk, rfl⟩ := List.mem_map.mp (List.mem_of_mem_take q)
      have := List.mem_range.mp (List.mem_filter.mp hk).1
      omega
  have hOl : (O.take m8).length ≤ m8 := by rw [List.length_take]; omega
  unfold tl1
  simp only [gt_z, gt_s, st_z, st_s, fgs_n, fgs_c, eVar_z, eVar_s, bVar_zv, bVar_zo, bVar_s, eC_ap, e2_ap, e1_ap, aNil_ap, aCons_ap, eTup_ap, eA_ap, nA_ap, eLst_ap, nLst_ap, n2_ap, eSl_ap, nSl_ap, pN_ap, pI_ap, isI_int, isB_bl, t1_ap, tAn_ap, tOr_ap, tNo_ap, eAn_ap, eOr_ap, eIf_ap, eCh_ap, tTrue_ap, nSS_ap, sNil_ap, sSeq_ap, oN_nx, oN_rt, oN_bk, oN_ct, outV_rt, outV_nx, sRet_ap, sIf_ap, sPre_ap, xV_ap, xO_ap, xN_t, xN_f, sSet_ap, sPar_ap, sPar3_ap, sAsg_ap, sAug_ap, sApp_ap, sExt_ap, isO_o, lstD_l, gN_ap, gsNil_ap, gsCons_ap, gT_ap, gLen_ap, setIx_ap, set2_ap', frz_z, frz_s, sFor_ap, sWhile_ap, sBrk_ap, sCnt_ap, addD_i, catLD_l, iaddD_i, subD_i, negD_i, ltD_i, leD_i, gtD_i, geD_i, truD_b, truD_i, truD_n, truD_l, truD_t, notD_b, isD_n, isntD_n, isD_b, isntD_b, isNonD_i, isNonD_b, isNonD_n, isNonD_t, isNonD_l, intD_i, intD_b, lenD_l, lenD_t, tupOfD_l, tupOfD_t, lstOfD_l, lstOfD_t, ixD_l, ixD_t, slD_l, slD_t, slLD_l, iSeq_ap, seqD_l, seqD_t, eqD_i, neD_i, nR1_ap, nR2_ap, eTp_ap, enD_l, enD_t, tup0, tup1, tup2, tup3, tup4, lst0, lst1, lst2, len2, len3, bq00, bq10, bq01, bq11, emp_c, emp_n, emp_cc, emp_nn, decide_true, decide_false, if_true, if_false, Bool.false_eq_true, some_bind, some_map, if_tt, if_ft, Bool.not_true, Bool.not_false, w1, w2, List.length_map, hmin, s1, s2, i30, modD_i (a := row.getD 30 0) hz0, hb, w3, c3, itf, s3, ← hm8, c4, s4]
  by_cases q : (O.take m8).length = 0
  · have e : (((O.take m8).length : Int) == 0) = true := beq_iff_eq.mpr (by omega)
    simp only [e, gt_z, gt_s, st_z, st_s, fgs_n, fgs_c, eVar_z, eVar_s, bVar_zv, bVar_zo, bVar_s, eC_ap, e2_ap, e1_ap, aNil_ap, aCons_ap, eTup_ap, eA_ap, nA_ap, eLst_ap, nLst_ap, n2_ap, eSl_ap, nSl_ap, pN_ap, pI_ap, isI_int, isB_bl, t1_ap, tAn_ap, tOr_ap, tNo_ap, eAn_ap, eOr_ap, eIf_ap, eCh_ap, tTrue_ap, nSS_ap, sNil_ap, sSeq_ap, oN_nx, oN_rt, oN_bk, oN_ct, outV_rt, outV_nx, sRet_ap, sIf_ap, sPre_ap, xV_ap, xO_ap, xN_t, xN_f, sSet_ap, sPar_ap, sPar3_ap, sAsg_ap, sAug_ap, sApp_ap, sExt_ap, isO_o, lstD_l, gN_ap, gsNil_ap, gsCons_ap, gT_ap, gLen_ap, setIx_ap, set2_ap', frz_z, frz_s, sFor_ap, sWhile_ap, sBrk_ap, sCnt_ap, addD_i, catLD_l, iaddD_i, subD_i, negD_i, ltD_i, leD_i, gtD_i, geD_i, truD_b, truD_i, truD_n, truD_l, truD_t, notD_b, isD_n, isntD_n, isD_b, isntD_b, isNonD_i, isNonD_b, isNonD_n, isNonD_t, isNonD_l, intD_i, intD_b, lenD_l, lenD_t, tupOfD_l, tupOfD_t, lstOfD_l, lstOfD_t, ixD_l, ixD_t, slD_l, slD_t, slLD_l, iSeq_ap, seqD_l, seqD_t, eqD_i, neD_i, nR1_ap, nR2_ap, eTp_ap, enD_l, enD_t, tup0, tup1, tup2, tup3, tup4, lst0, lst1, lst2, len2, len3, bq00, bq10, bq01, bq11, emp_c, emp_n, emp_cc, emp_nn, decide_true, decide_false, if_true, if_false, Bool.false_eq_true, some_bind, some_map, if_tt, if_ft, Bool.not_true, Bool.not_false]
  · have e : (((O.take m8).length : Int) == 0) = false := beq_eq_false_iff_ne.mpr (by omega)
    obtain ⟨v, hv, hle⟩ := flow_ap (f := M.take 8) (s := O.take m8) (by omega) (by omega) (by omega) hMb
    have hal := aligned_ap (f := M.take 8) (s := O.take m8) (by omega) (by omega)
    simp only [e, gt_z, gt_s, st_z, st_s, fgs_n, fgs_c, eVar_z, eVar_s, bVar_zv, bVar_zo, bVar_s, eC_ap, e2_ap, e1_ap, aNil_ap, aCons_ap, eTup_ap, eA_ap, nA_ap, eLst_ap, nLst_ap, n2_ap, eSl_ap, nSl_ap, pN_ap, pI_ap, isI_int, isB_bl, t1_ap, tAn_ap, tOr_ap, tNo_ap, eAn_ap, eOr_ap, eIf_ap, eCh_ap, tTrue_ap, nSS_ap, sNil_ap, sSeq_ap, oN_nx, oN_rt, oN_bk, oN_ct, outV_rt, outV_nx, sRet_ap, sIf_ap, sPre_ap, xV_ap, xO_ap, xN_t, xN_f, sSet_ap, sPar_ap, sPar3_ap, sAsg_ap, sAug_ap, sApp_ap, sExt_ap, isO_o, lstD_l, gN_ap, gsNil_ap, gsCons_ap, gT_ap, gLen_ap, setIx_ap, set2_ap', frz_z, frz_s, sFor_ap, sWhile_ap, sBrk_ap, sCnt_ap, addD_i, catLD_l, iaddD_i, subD_i, negD_i, ltD_i, leD_i, gtD_i, geD_i, truD_b, truD_i, truD_n, truD_l, truD_t, notD_b, isD_n, isntD_n, isD_b, isntD_b, isNonD_i, isNonD_b, isNonD_n, isNonD_t, isNonD_l, intD_i, intD_b, lenD_l, lenD_t, tupOfD_l, tupOfD_t, lstOfD_l, lstOfD_t, ixD_l, ixD_t, slD_l, slD_t, slLD_l, iSeq_ap, seqD_l, seqD_t, eqD_i, neD_i, nR1_ap, nR2_ap, eTp_ap, enD_l, enD_t, tup0, tup1, tup2, tup3, tup4, lst0, lst1, lst2, len2, len3, bq00, bq10, bq01, bq11, emp_c, emp_n, emp_cc, emp_nn, decide_true, decide_false, if_true, if_false, Bool.false_eq_true, some_bind, some_map, if_tt, if_ft, Bool.not_true, Bool.not_false, hal, hv, decide_eq_true hle]
theorem law_true (ns : List Int) (hns : ns.length ≤ 63) : F_law [scrD ns] = some (.bool true) := by
  obtain ⟨row, hl, hb, hr⟩ := row_ok ns 66 (by decide)
  have hr' : F__law_row [scrD ns, .int 66] = some (iL row) := hr
  have hix : ∀ k : Nat, k < 66 → atI (row.map PyData.int) (k : Int) = some (.int (row.getD k 0)) := fun k hk => ixTN (by omega)
  have i0 : atI (row.map PyData.int) 0 = some (.int (row.getD 0 0)) := hix 0 (by decide)
  have i1 : atI (row.map PyData.int) 1 = some (.int (row.getD 1 0)) := hix 1 (by decide)
  have i2 : atI (row.map PyData.int) 2 = some (.int (row.getD 2 0)) := hix 2 (by decide)
  have i19 : atI (row.map PyData.int) 19 = some (.int (row.getD 19 0)) := hix 19 (by decide)
  have d4 : (0 : Int) < 4 := by decide
  have d8 : (0 : Int) < 8 := by decide
  have d3 : (0 : Int) < 3 := by decide
  obtain ⟨lim, hlim, hli⟩ : ∃ lim : Int, 0 < lim ∧ atI [PyData.int 2, .int 4, .int 10, .int 10] (row.getD 2 0 % 4) = some (.int lim) := by
    rcases (by omega : row.getD 2 0 % 4 = 0 ∨ row.getD 2 0 % 4 = 1 ∨ row.getD 2 0 % 4 = 2 ∨ row.getD 2 0 % 4 = 3) with e | e | e | e <;> rw [e]
    · exact ⟨2, by decide, rfl⟩
    · exact ⟨4, by decide, rfl⟩
    · exact ⟨10, by decide, rfl⟩
    · exact ⟨10, by decide, rfl⟩
  obtain ⟨n1, hn1⟩ : ∃ n : Nat, 1 + row.getD 0 0 % 8 = (n : Int) := ⟨(1 + row.getD 0 0 % 8).toNat, by omega⟩
  obtain ⟨n2, hn2⟩ : ∃ n : Nat, 1 + row.getD 1 0 % 8 = (n : Int) := ⟨(1 + row.getD 1 0 % 8).toNat, by omega⟩
  let f : List Int := (List.range n1).map fun (k : Nat) => row.getD (3 + k) 0 % lim
  let s : List Int := (List.range n2).map fun (k : Nat) => row.getD (11 + k) 0 % lim
  have hfl : f.length = n1 := by simp [f]
  have hsl : s.length = n2 := by simp [s]
  have c1 : c_law_1 [some (.v (scrD ns)), some (.v (iL row)), some (.v (.int lim)), none, none, none, none, none, none, none] = some (f.map .int) := by
    unfold c_law_1
    refine compR (lo := 0) (n := n1) ?_ (by omega) fun k hk => ?_
    · simp only [gt_z, gt_s, st_z, st_s, fgs_n, fgs_c, eVar_z, eVar_s, bVar_zv, bVar_zo, bVar_s, eC_ap, e2_ap, e1_ap, aNil_ap, aCons_ap, eTup_ap, eA_ap, nA_ap, eLst_ap, nLst_ap, n2_ap, eSl_ap, nSl_ap, pN_ap, pI_ap, isI_int, isB_bl, t1_ap, tAn_ap, tOr_ap, tNo_ap, eAn_ap, eOr_ap, eIf_ap, eCh_ap, tTrue_ap, nSS_ap, sNil_ap, sSeq_ap, oN_nx, oN_rt, oN_bk, oN_ct, outV_rt, outV_nx, sRet_ap, sIf_ap, sPre_ap, xV_ap, xO_ap, xN_t, xN_f, sSet_ap, sPar_ap, sPar3_ap, sAsg_ap, sAug_ap, sApp_ap, sExt_ap, isO_o, lstD_l, gN_ap, gsNil_ap, gsCons_ap, gT_ap, gLen_ap, setIx_ap, set2_ap', frz_z, frz_s, sFor_ap, sWhile_ap, sBrk_ap, sCnt_ap, addD_i, catLD_l, iaddD_i, subD_i, negD_i, ltD_i, leD_i, gtD_i, geD_i, truD_b, truD_i, truD_n, truD_l, truD_t, notD_b, isD_n, isntD_n, isD_b, isntD_b, isNonD_i, isNonD_b, isNonD_n, isNonD_t, isNonD_l, intD_i, intD_b, lenD_l, lenD_t, tupOfD_l, tupOfD_t, lstOfD_l, lstOfD_t, ixD_l, ixD_t, slD_l, slD_t, slLD_l, iSeq_ap, seqD_l, seqD_t, eqD_i, neD_i, nR1_ap, nR2_ap, eTp_ap, enD_l, enD_t, tup0, tup1, tup2, tup3, tup4, lst0, lst1, lst2, len2, len3, bq00, bq10, bq01, bq11, emp_c, emp_n, emp_cc, emp_nn, decide_true, decide_false, if_true, if_false, Bool.false_eq_true, some_bind, some_map, if_tt, if_ft, Bool.not_true, Bool.not_false, i0, modD_i (a := row.getD 0 0) d8, hn1]
      exact rg1N (by omega)
    · have hx : atI (row.map PyData.int) (3 + (k : Int)) = some (.int (row.getD (3 + k) 0)) := by
        have := hix (3 + k) (by omega)
        push_cast at this
        exact this
      simp only [gt_z, gt_s, st_z, st_s, fgs_n, fgs_c, eVar_z, eVar_s, bVar_zv, bVar_zo, bVar_s, eC_ap, e2_ap, e1_ap, aNil_ap, aCons_ap, eTup_ap, eA_ap, nA_ap, eLst_ap, nLst_ap, n2_ap, eSl_ap, nSl_ap, pN_ap, pI_ap, isI_int, isB_bl, t1_ap, tAn_ap, tOr_ap, tNo_ap, eAn_ap, eOr_ap, eIf_ap, eCh_ap, tTrue_ap, nSS_ap, sNil_ap, sSeq_ap, oN_nx, oN_rt, oN_bk, oN_ct, outV_rt, outV_nx, sRet_ap, sIf_ap, sPre_ap, xV_ap, xO_ap, xN_t, xN_f, sSet_ap, sPar_ap, sPar3_ap, sAsg_ap, sAug_ap, sApp_ap, sExt_ap, isO_o, lstD_l, gN_ap, gsNil_ap, gsCons_ap, gT_ap, gLen_ap, setIx_ap, set2_ap', frz_z, frz_s, sFor_ap, sWhile_ap, sBrk_ap, sCnt_ap, addD_i, catLD_l, iaddD_i, subD_i, negD_i, ltD_i, leD_i, gtD_i, geD_i, truD_b, truD_i, truD_n, truD_l, truD_t, notD_b, isD_n, isntD_n, isD_b, isntD_b, isNonD_i, isNonD_b, isNonD_n, isNonD_t, isNonD_l, intD_i, intD_b, lenD_l, lenD_t, tupOfD_l, tupOfD_t, lstOfD_l, lstOfD_t, ixD_l, ixD_t, slD_l, slD_t, slLD_l, iSeq_ap, seqD_l, seqD_t, eqD_i, neD_i, nR1_ap, nR2_ap, eTp_ap, enD_l, enD_t, tup0, tup1, tup2, tup3, tup4, lst0, lst1, lst2, len2, len3, bq00, bq10, bq01, bq11, emp_c, emp_n, emp_cc, emp_nn, decide_true, decide_false, if_true, if_false, Bool.false_eq_true, some_bind, some_map, if_tt, if_ft, Bool.not_true, Bool.not_false, Int.zero_add, hx, modD_i (a := row.getD (3 + k) 0) hlim]
  have c2 : c_law_2 [some (.v (scrD ns)), some (.v (iL row)), some (.v (.int lim)), some (.v (iT f)), none, none, none, none, none, none] = some (s.map .int) := by
    unfold c_law_2
    refine compR (lo := 0) (n := n2) ?_ (by omega) fun k hk => ?_
    · simp only [gt_z, gt_s, st_z, st_s, fgs_n, fgs_c, eVar_z, eVar_s, bVar_zv, bVar_zo, bVar_s, eC_ap, e2_ap, e1_ap, aNil_ap, aCons_ap, eTup_ap, eA_ap, nA_ap, eLst_ap, nLst_ap, n2_ap, eSl_ap, nSl_ap, pN_ap, pI_ap, isI_int, isB_bl, t1_ap, tAn_ap, tOr_ap, tNo_ap, eAn_ap, eOr_ap, eIf_ap, eCh_ap, tTrue_ap, nSS_ap, sNil_ap, sSeq_ap, oN_nx, oN_rt, oN_bk, oN_ct, outV_rt, outV_nx, sRet_ap, sIf_ap, sPre_ap, xV_ap, xO_ap, xN_t, xN_f, sSet_ap, sPar_ap, sPar3_ap, sAsg_ap, sAug_ap, sApp_ap, sExt_ap, isO_o, lstD_l, gN_ap, gsNil_ap, gsCons_ap, gT_ap, gLen_ap, setIx_ap, set2_ap', frz_z, frz_s, sFor_ap, sWhile_ap, sBrk_ap, sCnt_ap, addD_i, catLD_l, iaddD_i, subD_i, negD_i, ltD_i, leD_i, gtD_i, geD_i, truD_b, truD_i, truD_n, truD_l, truD_t, notD_b, isD_n, isntD_n, isD_b, isntD_b, isNonD_i, isNonD_b, isNonD_n, isNonD_t, isNonD_l, intD_i, intD_b, lenD_l, lenD_t, tupOfD_l, tupOfD_t, lstOfD_l, lstOfD_t, ixD_l, ixD_t, slD_l, slD_t, slLD_l, iSeq_ap, seqD_l, seqD_t, eqD_i, neD_i, nR1_ap, nR2_ap, eTp_ap, enD_l, enD_t, tup0, tup1, tup2, tup3, tup4, lst0, lst1, lst2, len2, len3, bq00, bq10, bq01, bq11, emp_c, emp_n, emp_cc, emp_nn, decide_true, decide_false, if_true, if_false, Bool.false_eq_true, some_bind, some_map, if_tt, if_ft, Bool.not_true, Bool.not_false, i1, modD_i (a := row.getD 1 0) d8, hn2]
      exact rg1N (by omega)
    · have hx : atI (row.map PyData.int) (11 + (k : Int)) = some (.int (row.getD (11 + k) 0)) := by
        have := hix (11 + k) (by omega)
        push_cast at this
        exact this
      simp only [gt_z, gt_s, st_z, st_s, fgs_n, fgs_c, eVar_z, eVar_s, bVar_zv, bVar_zo, bVar_s, eC_ap, e2_ap, e1_ap, aNil_ap, aCons_ap, eTup_ap, eA_ap, nA_ap, eLst_ap, nLst_ap, n2_ap, eSl_ap, nSl_ap, pN_ap, pI_ap, isI_int, isB_bl, t1_ap, tAn_ap, tOr_ap, tNo_ap, eAn_ap, eOr_ap, eIf_ap, eCh_ap, tTrue_ap, nSS_ap, sNil_ap, sSeq_ap, oN_nx, oN_rt, oN_bk, oN_ct, outV_rt, outV_nx, sRet_ap, sIf_ap, sPre_ap, xV_ap, xO_ap, xN_t, xN_f, sSet_ap, sPar_ap, sPar3_ap, sAsg_ap, sAug_ap, sApp_ap, sExt_ap, isO_o, lstD_l, gN_ap, gsNil_ap, gsCons_ap, gT_ap, gLen_ap, setIx_ap, set2_ap', frz_z, frz_s, sFor_ap, sWhile_ap, sBrk_ap, sCnt_ap, addD_i, catLD_l, iaddD_i, subD_i, negD_i, ltD_i, leD_i, gtD_i, geD_i, truD_b, truD_i, truD_n, truD_l, truD_t, notD_b, isD_n, isntD_n, isD_b, isntD_b, isNonD_i, isNonD_b, isNonD_n, isNonD_t, isNonD_l, intD_i, intD_b, lenD_l, lenD_t, tupOfD_l, tupOfD_t, lstOfD_l, lstOfD_t, ixD_l, ixD_t, slD_l, slD_t, slLD_l, iSeq_ap, seqD_l, seqD_t, eqD_i, neD_i, nR1_ap, nR2_ap, eTp_ap, enD_l, enD_t, tup0, tup1, tup2, tup3, tup4, lst0, lst1, lst2, len2, len3, bq00, bq10, bq01, bq11, emp_c, emp_n, emp_cc, emp_nn, decide_true, decide_false, if_true, if_false, Bool.false_eq_true, some_bind, some_map, if_tt, if_ft, Bool.not_true, Bool.not_false, Int.zero_add, hx, modD_i (a := row.getD (11 + k) 0) hlim]
  obtain ⟨L, g, hL, hg⟩ := repeated_ap (row := row) (xs := f) (at_ := 20) (by omega) (by omega)
  have hL' : F__law_repeated [iL row, .int 20, iT f] = some (iT L) := hL
  have s8 : slD (iT L) none (some 8) = some (iT (L.take 8)) := slT_to (k := 8)
  have t4 : ∀ a b c d : D, tupD [a, b, c, d] = some (.tuple [a, b, c, d]) := fun _ _ _ _ => rfl
  rw [fa_law, den_law_eq]
  simp only [gt_z, gt_s, st_z, st_s, fgs_n, fgs_c, eVar_z, eVar_s, bVar_zv, bVar_zo, bVar_s, eC_ap, e2_ap, e1_ap, aNil_ap, aCons_ap, eTup_ap, eA_ap, nA_ap, eLst_ap, nLst_ap, n2_ap, eSl_ap, nSl_ap, pN_ap, pI_ap, isI_int, isB_bl, t1_ap, tAn_ap, tOr_ap, tNo_ap, eAn_ap, eOr_ap, eIf_ap, eCh_ap, tTrue_ap, nSS_ap, sNil_ap, sSeq_ap, oN_nx, oN_rt, oN_bk, oN_ct, outV_rt, outV_nx, sRet_ap, sIf_ap, sPre_ap, xV_ap, xO_ap, xN_t, xN_f, sSet_ap, sPar_ap, sPar3_ap, sAsg_ap, sAug_ap, sApp_ap, sExt_ap, isO_o, lstD_l, gN_ap, gsNil_ap, gsCons_ap, gT_ap, gLen_ap, setIx_ap, set2_ap', frz_z, frz_s, sFor_ap, sWhile_ap, sBrk_ap, sCnt_ap, addD_i, catLD_l, iaddD_i, subD_i, negD_i, ltD_i, leD_i, gtD_i, geD_i, truD_b, truD_i, truD_n, truD_l, truD_t, notD_b, isD_n, isntD_n, isD_b, isntD_b, isNonD_i, isNonD_b, isNonD_n, isNonD_t, isNonD_l, intD_i, intD_b, lenD_l, lenD_t, tupOfD_l, tupOfD_t, lstOfD_l, lstOfD_t, ixD_l, ixD_t, slD_l, slD_t, slLD_l, iSeq_ap, seqD_l, seqD_t, eqD_i, neD_i, nR1_ap, nR2_ap, eTp_ap, enD_l, enD_t, tup0, tup1, tup2, tup3, tup4, lst0, lst1, lst2, len2, len3, bq00, bq10, bq01, bq11, emp_c, emp_n, emp_cc, emp_nn, decide_true, decide_false, if_true, if_false, Bool.false_eq_true, some_bind, some_map, if_tt, if_ft, Bool.not_true, Bool.not_false, hr', i2, modD_i (a := row.getD 2 0) d4, hli, c1, itf, c2, i19, modD_i (a := row.getD 19 0) d3]
  by_cases q : row.getD 19 0 % 3 = 0
  · have e : (row.getD 19 0 % 3 == 0) = true := beq_iff_eq.mpr q
    have hlo := hg.lo
    simp only [e, gt_z, gt_s, st_z, st_s, fgs_n, fgs_c, eVar_z, eVar_s, bVar_zv, bVar_zo, bVar_s, eC_ap, e2_ap, e1_ap, aNil_ap, aCons_ap, eTup_ap, eA_ap, nA_ap, eLst_ap, nLst_ap, n2_ap, eSl_ap, nSl_ap, pN_ap, pI_ap, isI_int, isB_bl, t1_ap, tAn_ap, tOr_ap, tNo_ap, eAn_ap, eOr_ap, eIf_ap, eCh_ap, tTrue_ap, nSS_ap, sNil_ap, sSeq_ap, oN_nx, oN_rt, oN_bk, oN_ct, outV_rt, outV_nx, sRet_ap, sIf_ap, sPre_ap, xV_ap, xO_ap, xN_t, xN_f, sSet_ap, sPar_ap, sPar3_ap, sAsg_ap, sAug_ap, sApp_ap, sExt_ap, isO_o, lstD_l, gN_ap, gsNil_ap, gsCons_ap, gT_ap, gLen_ap, setIx_ap, set2_ap', frz_z, frz_s, sFor_ap, sWhile_ap, sBrk_ap, sCnt_ap, addD_i, catLD_l, iaddD_i, subD_i, negD_i, ltD_i, leD_i, gtD_i, geD_i, truD_b, truD_i, truD_n, truD_l, truD_t, notD_b, isD_n, isntD_n, isD_b, isntD_b, isNonD_i, isNonD_b, isNonD_n, isNonD_t, isNonD_l, intD_i, intD_b, lenD_l, lenD_t, tupOfD_l, tupOfD_t, lstOfD_l, lstOfD_t, ixD_l, ixD_t, slD_l, slD_t, slLD_l, iSeq_ap, seqD_l, seqD_t, eqD_i, neD_i, nR1_ap, nR2_ap, eTp_ap, enD_l, enD_t, tup0, tup1, tup2, tup3, tup4, lst0, lst1, lst2, len2, len3, bq00, bq10, bq01, bq11, emp_c, emp_n, emp_cc, emp_nn, decide_true, decide_false, if_true, if_false, Bool.false_eq_true, some_bind, some_map, if_tt, if_ft, Bool.not_true, Bool.not_false, hL', s8]
    rw [tl1_ap hl (by omega) (by omega) (by rw [List.length_take]; omega) (by rw [List.length_take]; omega)]; rfl
  · have e : (row.getD 19 0 % 3 == 0) = false := beq_eq_false_iff_ne.mpr q
    simp only [e, gt_z, gt_s, st_z, st_s, fgs_n, fgs_c, eVar_z, eVar_s, bVar_zv, bVar_zo, bVar_s, eC_ap, e2_ap, e1_ap, aNil_ap, aCons_ap, eTup_ap, eA_ap, nA_ap, eLst_ap, nLst_ap, n2_ap, eSl_ap, nSl_ap, pN_ap, pI_ap, isI_int, isB_bl, t1_ap, tAn_ap, tOr_ap, tNo_ap, eAn_ap, eOr_ap, eIf_ap, eCh_ap, tTrue_ap, nSS_ap, sNil_ap, sSeq_ap, oN_nx, oN_rt, oN_bk, oN_ct, outV_rt, outV_nx, sRet_ap, sIf_ap, sPre_ap, xV_ap, xO_ap, xN_t, xN_f, sSet_ap, sPar_ap, sPar3_ap, sAsg_ap, sAug_ap, sApp_ap, sExt_ap, isO_o, lstD_l, gN_ap, gsNil_ap, gsCons_ap, gT_ap, gLen_ap, setIx_ap, set2_ap', frz_z, frz_s, sFor_ap, sWhile_ap, sBrk_ap, sCnt_ap, addD_i, catLD_l, iaddD_i, subD_i, negD_i, ltD_i, leD_i, gtD_i, geD_i, truD_b, truD_i, truD_n, truD_l, truD_t, notD_b, isD_n, isntD_n, isD_b, isntD_b, isNonD_i, isNonD_b, isNonD_n, isNonD_t, isNonD_l, intD_i, intD_b, lenD_l, lenD_t, tupOfD_l, tupOfD_t, lstOfD_l, lstOfD_t, ixD_l, ixD_t, slD_l, slD_t, slLD_l, iSeq_ap, seqD_l, seqD_t, eqD_i, neD_i, nR1_ap, nR2_ap, eTp_ap, enD_l, enD_t, tup0, tup1, tup2, tup3, tup4, lst0, lst1, lst2, len2, len3, bq00, bq10, bq01, bq11, emp_c, emp_n, emp_cc, emp_nn, decide_true, decide_false, if_true, if_false, Bool.false_eq_true, some_bind, some_map, if_tt, if_ft, Bool.not_true, Bool.not_false]
    rw [tl1_ap hl (by omega) (by omega) (by omega) (by omega)]; rfl
end K75
end

section
set_option maxRecDepth 100000
set_option maxHeartbeats 0
namespace K75
open PySem PySem.Spec PyProof.Rows L2 PV PVL

def dd_flow_swaps : He.DefD := ⟨("flow_swaps", none), "flow_swaps", "flow_swaps", defArgs s_flow_swaps, defBody s_flow_swaps, defScope s_flow_swaps, [], []⟩
def dd_steps_table : He.DefD := ⟨("steps_table", none), "steps_table", "steps_table", defArgs s_steps_table, defBody s_steps_table, defScope s_steps_table, [], []⟩
def dd_aligned : He.DefD := ⟨("aligned", none), "aligned", "aligned", defArgs s_aligned, defBody s_aligned, defScope s_aligned, [], []⟩
def dd_aligned_way : He.DefD := ⟨("aligned_way", none), "aligned_way", "aligned_way", defArgs s_aligned_way, defBody s_aligned_way, defScope s_aligned_way, [], []⟩
def dd_closest_turn : He.DefD := ⟨("closest_turn", none), "closest_turn", "closest_turn", defArgs s_closest_turn, defBody s_closest_turn, defScope s_closest_turn, [], []⟩
def dd_runs_of : He.DefD := ⟨("runs_of", none), "runs_of", "runs_of", defArgs s_runs_of, defBody s_runs_of, defScope s_runs_of, [], []⟩
def dd_said_of : He.DefD := ⟨("said_of", none), "said_of", "said_of", defArgs s_said_of, defBody s_said_of, defScope s_said_of, [], []⟩
def dd__law_mixed : He.DefD := ⟨("_law_mixed", none), "_law_mixed", "_law_mixed", defArgs s__law_mixed, defBody s__law_mixed, defScope s__law_mixed, [], []⟩
def dd__law_row : He.DefD := ⟨("_law_row", none), "_law_row", "_law_row", defArgs s__law_row, defBody s__law_row, defScope s__law_row, [], []⟩
def dd__law_is_int : He.DefD := ⟨("_law_is_int", none), "_law_is_int", "_law_is_int", defArgs s__law_is_int, defBody s__law_is_int, defScope s__law_is_int, [], []⟩
def dd__law_like : He.DefD := ⟨("_law_like", none), "_law_like", "_law_like", defArgs s__law_like, defBody s__law_like, defScope s__law_like, [], []⟩
def dd__law_after : He.DefD := ⟨("_law_after", none), "_law_after", "_law_after", defArgs s__law_after, defBody s__law_after, defScope s__law_after, [], []⟩
def dd__law_rests : He.DefD := ⟨("_law_rests", none), "_law_rests", "_law_rests", defArgs s__law_rests, defBody s__law_rests, defScope s__law_rests, [], []⟩
def dd__law_way_right : He.DefD := ⟨("_law_way_right", none), "_law_way_right", "_law_way_right", defArgs s__law_way_right, defBody s__law_way_right, defScope s__law_way_right, [], []⟩
def dd__law_plain : He.DefD := ⟨("_law_plain", none), "_law_plain", "_law_plain", defArgs s__law_plain, defBody s__law_plain, defScope s__law_plain, [], []⟩
def dd__law_repeated : He.DefD := ⟨("_law_repeated", none), "_law_repeated", "_law_repeated", defArgs s__law_repeated, defBody s__law_repeated, defScope s__law_repeated, [], []⟩
def dd__law_moved_right : He.DefD := ⟨("_law_moved_right", none), "_law_moved_right", "_law_moved_right", defArgs s__law_moved_right, defBody s__law_moved_right, defScope s__law_moved_right, [], []⟩
def dd__law_apart : He.DefD := ⟨("_law_apart", none), "_law_apart", "_law_apart", defArgs s__law_apart, defBody s__law_apart, defScope s__law_apart, [], []⟩
def dd__law_turn_right : He.DefD := ⟨("_law_turn_right", none), "_law_turn_right", "_law_turn_right", defArgs s__law_turn_right, defBody s__law_turn_right, defScope s__law_turn_right, [], []⟩
def dd_law : He.DefD := ⟨("law", none), "law", "law", defArgs s_law, defBody s_law, defScope s_law, [], []⟩
def fn : List He.DefD := [dd_flow_swaps, dd_steps_table, dd_aligned, dd_aligned_way, dd_closest_turn, dd_runs_of, dd_said_of, dd__law_mixed, dd__law_row, dd__law_is_int, dd__law_like, dd__law_after, dd__law_rests, dd__law_way_right, dd__law_plain, dd__law_repeated, dd__law_moved_right, dd__law_apart, dd__law_turn_right, dd_law]
def fa : List He.Fa := [.glo "flow_swaps", .glo "steps_table", .glo "aligned", .glo "aligned_way", .glo "closest_turn", .glo "runs_of", .glo "said_of", .glo "_law_mixed", .glo "_law_row", .glo "_law_is_int", .glo "_law_like", .glo "_law_after", .glo "_law_rests", .glo "_law_way_right", .glo "_law_plain", .glo "_law_repeated", .glo "_law_moved_right", .glo "_law_apart", .glo "_law_turn_right", .glo "law", .free "len", .free "range", .free "tuple", .free "list", .free "sum", .free "int", .free "isinstance", .free "all", .free "any", .free "abs", .free "min", .free "max", .free "sorted", .free "set", .free "enumerate", .free "zip", .free "dict", .free "reversed", .free "str", .free "bool"]
abbrev zR : PySem.W.OpenRow := PySem.W.OpenLaw.row PySem.Challenge.rw_soundsjoined_k75_whole_rows_aligned_in_p
abbrev hk : PySem.W.Hook := He.hookD 4 fa fn
def ob (s : PySem.W.SharedT) : He.AlD := He.obsDG 4 fa fn (HandSHeadRun.getT s)
theorem ob_eq (s : PySem.W.SharedT) : ob s = hk.obs s.abs := He.obsDG_eq (HandSHeadRun.getT_eq s)
def loose : List Str := ["flow_swaps", "steps_table", "aligned", "aligned_way", "closest_turn", "runs_of", "said_of", "_law_mixed", "_law_row", "_law_is_int", "_law_like", "_law_after", "_law_rests", "_law_way_right", "_law_plain", "_law_repeated", "_law_moved_right", "_law_apart", "_law_turn_right"]
theorem zrun (w : World) : HandSHeadRun.RunEq zR (PySem.W.view zR.prog [22]) hk ob 4000 loose w := by
  intro os
  kernel_rfl
section
variable {K : PySem.W.Frag} {h : Heap} {mg : Str → Option Value}
theorem defs_of (X : K.In h) (G : h.Ns mainGlobals mg) (c : He.SaysD fa fn K) : Defs K mg where
  f_flow_swaps := by
    obtain ⟨fd, F⟩ := c.def_ 0 (d := dd_flow_swaps) rfl
    exact ⟨_, fd, He.glo_ok X G (c.fact 0 (f := .glo "flow_swaps") rfl), F⟩
  f_steps_table := by
    obtain ⟨fd, F⟩ := c.def_ 1 (d := dd_steps_table) rfl
    exact ⟨_, fd, He.glo_ok X G (c.fact 1 (f := .glo "steps_table") rfl), F⟩
  f_aligned := by
    obtain ⟨fd, F⟩ := c.def_ 2 (d := dd_aligned) rfl
    exact ⟨_, fd, He.glo_ok X G (c.fact 2 (f := .glo "aligned") rfl), F⟩
  f_aligned_way := by
    obtain ⟨fd, F⟩ := c.def_ 3 (d := dd_aligned_way) rfl
    exact ⟨_, fd, He.glo_ok X G (c.fact 3 (f := .glo "aligned_way") rfl), F⟩
  f_closest_turn := by
    obtain ⟨fd, F⟩ := c.def_ 4 (d := dd_closest_turn) rfl
    exact ⟨_, fd, He.glo_ok X G (c.fact 4 (f := .glo "closest_turn") rfl), F⟩
  f_runs_of := by
    obtain ⟨fd, F⟩ := c.def_ 5 (d := dd_runs_of) rfl
    exact ⟨_, fd, He.glo_ok X G (c.fact 5 (f := .glo "runs_of") rfl), F⟩
  f_said_of := by
    obtain ⟨fd, F⟩ := c.def_ 6 (d := dd_said_of) rfl
    exact ⟨_, fd, He.glo_ok X G (c.fact 6 (f := .glo "said_of") rfl), F⟩
  f__law_mixed := by
    obtain ⟨fd, F⟩ := c.def_ 7 (d := dd__law_mixed) rfl
    exact ⟨_, fd, He.glo_ok X G (c.fact 7 (f := .glo "_law_mixed") rfl), F⟩
  f__law_row := by
    obtain ⟨fd, F⟩ := c.def_ 8 (d := dd__law_row) rfl
    exact ⟨_, fd, He.glo_ok X G (c.fact 8 (f := .glo "_law_row") rfl), F⟩
  f__law_is_int := by
    obtain ⟨fd, F⟩ := c.def_ 9 (d := dd__law_is_int) rfl
    exact ⟨_, fd, He.glo_ok X G (c.fact 9 (f := .glo "_law_is_int") rfl), F⟩
  f__law_like := by
    obtain ⟨fd, F⟩ := c.def_ 10 (d := dd__law_like) rfl
    exact ⟨_, fd, He.glo_ok X G (c.fact 10 (f := .glo "_law_like") rfl), F⟩
  f__law_after := by
    obtain ⟨fd, F⟩ := c.def_ 11 (d := dd__law_after) rfl
    exact ⟨_, fd, He.glo_ok X G (c.fact 11 (f := .glo "_law_after") rfl), F⟩
  f__law_rests := by
    obtain ⟨fd, F⟩ := c.def_ 12 (d := dd__law_rests) rfl
    exact ⟨_, fd, He.glo_ok X G (c.fact 12 (f := .glo "_law_rests") rfl), F⟩
  f__law_way_right := by
    obtain ⟨fd, F⟩ := c.def_ 13 (d := dd__law_way_right) rfl
    exact ⟨_, fd, He.glo_ok X G (c.fact 13 (f := .glo "_law_way_right") rfl), F⟩
  f__law_plain := by
    obtain ⟨fd, F⟩ := c.def_ 14 (d := dd__law_plain) rfl
    exact ⟨_, fd, He.glo_ok X G (c.fact 14 (f := .glo "_law_plain") rfl), F⟩
  f__law_repeated := by
    obtain ⟨fd, F⟩ := c.def_ 15 (d := dd__law_repeated) rfl
    exact ⟨_, fd, He.glo_ok X G (c.fact 15 (f := .glo "_law_repeated") rfl), F⟩
  f__law_moved_right := by
    obtain ⟨fd, F⟩ := c.def_ 16 (d := dd__law_moved_right) rfl
    exact ⟨_, fd, He.glo_ok X G (c.fact 16 (f := .glo "_law_moved_right") rfl), F⟩
  f__law_apart := by
    obtain ⟨fd, F⟩ := c.def_ 17 (d := dd__law_apart) rfl
    exact ⟨_, fd, He.glo_ok X G (c.fact 17 (f := .glo "_law_apart") rfl), F⟩
  f__law_turn_right := by
    obtain ⟨fd, F⟩ := c.def_ 18 (d := dd__law_turn_right) rfl
    exact ⟨_, fd, He.glo_ok X G (c.fact 18 (f := .glo "_law_turn_right") rfl), F⟩
  f_law := by
    obtain ⟨fd, F⟩ := c.def_ 19 (d := dd_law) rfl
    exact ⟨_, fd, He.glo_ok X G (c.fact 19 (f := .glo "law") rfl), F⟩
theorem std_of (X : K.In h) (G : h.Ns mainGlobals mg) (c : He.SaysD fa fn K) : Std mg where
  «len» := He.free_ok X G (c.fact 20 (f := .free "len") rfl)
  «range» := He.free_ok X G (c.fact 21 (f := .free "range") rfl)
  «tuple» := He.free_ok X G (c.fact 22 (f := .free "tuple") rfl)
  «list» := He.free_ok X G (c.fact 23 (f := .free "list") rfl)
  «sum» := He.free_ok X G (c.fact 24 (f := .free "sum") rfl)
  «int» := He.free_ok X G (c.fact 25 (f := .free "int") rfl)
  «isinstance» := He.free_ok X G (c.fact 26 (f := .free "isinstance") rfl)
  «all» := He.free_ok X G (c.fact 27 (f := .free "all") rfl)
  «any» := He.free_ok X G (c.fact 28 (f := .free "any") rfl)
  «abs» := He.free_ok X G (c.fact 29 (f := .free "abs") rfl)
  «min» := He.free_ok X G (c.fact 30 (f := .free "min") rfl)
  «max» := He.free_ok X G (c.fact 31 (f := .free "max") rfl)
  «sorted» := He.free_ok X G (c.fact 32 (f := .free "sorted") rfl)
  «set» := He.free_ok X G (c.fact 33 (f := .free "set") rfl)
  «enumerate» := He.free_ok X G (c.fact 34 (f := .free "enumerate") rfl)
  «zip» := He.free_ok X G (c.fact 35 (f := .free "zip") rfl)
  «dict» := He.free_ok X G (c.fact 36 (f := .free "dict") rfl)
  «reversed» := He.free_ok X G (c.fact 37 (f := .free "reversed") rfl)
  «str» := He.free_ok X G (c.fact 38 (f := .free "str") rfl)
  «bool» := He.free_ok X G (c.fact 39 (f := .free "bool") rfl)
end
end K75
open PySem PySem.W PySem.Calls PyProof.Rows
theorem PySem.Challenge.cw_soundsjoined_k75_whole_rows_aligned_in_p_holds : PySem.Challenge.rw_soundsjoined_k75_whole_rows_aligned_in_p.Holds :=
  by
  w_on; o_law
  refine HandSHeadRun.head_any (r := OpenLaw.row PySem.Challenge.rw_soundsjoined_k75_whole_rows_aligned_in_p) (q := view (OpenLaw.row PySem.Challenge.rw_soundsjoined_k75_whole_rows_aligned_in_p).prog [22]) (H := K75.hk) (ob := K75.ob) (M := 4000) (loose := K75.loose) (d := HandSHeadRun.topDef (OpenLaw.row PySem.Challenge.rw_soundsjoined_k75_whole_rows_aligned_in_p).prog 22) (kwd := []) K75.ob_eq
    (by kernel_rfl) (fun s => by kernel_rfl) K75.zrun (by kernel_rfl) (by kernel_rfl) (by kernel_rfl) (by rfl) (by first | assumption | decide +kernel) (by decide +kernel) ⟨rfl, rfl, rfl, rfl, rfl, by decide +kernel⟩ ?hw ?hc
  case hw => w_witness2
  case hc =>
    refine L2.walk_ofE (l := PySem.Challenge.rw_soundsjoined_k75_whole_rows_aligned_in_p) (n := 63) (k := 15 + 1) (x := "script") (CX := L2.CX0) rfl (by decide) (by kernel_rfl) ⟨rfl, by decide, by decide⟩ ?F (fun _ _ _ _ z => z)
    intro w mg fa h Y G hmg0
    obtain ⟨K, KX, c⟩ := Y
    have hmg : mg ("law" : PySem.Str) = some (.ref fa) := by
      have e : (HandSHeadRun.topDef (OpenLaw.row PySem.Challenge.rw_soundsjoined_k75_whole_rows_aligned_in_p).prog 22).name = ("law" : PySem.Str) := by kernel_rfl
      rw [← e]
      exact hmg0
    have Df := K75.defs_of KX G c
    have T := K75.std_of KX G c
    exact PV.law_end KX hmg Df.f_law K75.sc_law (fun base _ _ f cdv A outer s0 H E hr => K75.body_law Df T f cdv A outer s0 H E hr)
      (fun f fd F s0 u => (F.bindsA (ps := ["script"]) (fun _ _ _ _ _ _ us hl => match us, hl with | [_], _ => rfl)) s0 [u] rfl) K75.law_true
end
