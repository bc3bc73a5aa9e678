import PyProof.Rows.All
import HandS.ForMost
import HandS.ForExc
import HandS.Flow
import HandS.Style
import HandS.IsInst
import HandS.ExcInit
import HandS.Wide
import HandS.WideBits
import HandS.WideMore
import HandS.TupAny
import HandS.TryMany
import HandS.TryElse
import HandS.SortInts
import HandS.Codes
import HandS.TupLen
import HandS.RaiseMore
import KE.KExcSuper
import HandS.ExcField
import HandS.EndBits
import Wide.Loose
import HandS.ExcIs
import HandS.More
import HandS.DictComp
import HandS.Iter
import HandS.TupMul
import HandS.Dict
import KE.DataMinMax
import PySem.Challenge.RW_papersums_k03_kinds_of_trees
import Wide.All
import OpenK.AllK
import Wide.FinOn
import HandS.ForDict
set_option Elab.async false
set_option backward.match.sparseCases false
set_option linter.all false
set_option maxRecDepth 100000
set_option maxHeartbeats 4000000
/-! DL1: data as trees, a mutable store, predicate transformers over them; each rule shown over the hand layer. -/
namespace DL
open PySem PySem.Spec PyProof.Rows L2

/-! ### data -/
inductive D where
  | non | bl (b : Bool) | int (i : Int) | str (x : Str) | ty (n : String) | ref (a : Addr)
  | lst (xs : List D) | tup (xs : List D)
  /-- a tuple of ints and texts that is tracked: a dict's key -/
  | kt (k : List Key)
  /-- the script -/
  | scr (ns : List Int)
  /-- a caught exception: where it lies, its dict, its at -/
  | xc (a dx : Addr) (d : D)
  /-- an exception that was made and not raised: its class, its at -/
  | xv (C : Addr) (d : D)

mutual
def Rep (K : PySem.W.Frag) (F : Hp) : D → V → Prop
  | .non, v => v = .non
  | .bl b, v => v = .bl b
  | .int i, v => v = .int i
  | .str x, v => v = .str x
  | .ty n, v => v = .ty n
  | .ref a, v => v = .ref a
  | .lst ds, v => ∃ a vs, v = .ref a ∧ F a = some (.lst vs) ∧ vs.length ≤ sizeLine ∧ Reps K F ds vs
  | .tup ds, v => ∃ a vs, v = .ref a ∧ SqT K F a vs ∧ vs.length ≤ sizeLine ∧ Reps K F ds vs
  | .kt k, v => ∃ a, v = .ref a ∧ F a = some (.tup (k.map kV)) ∧ k.length ≤ sizeLine
  | .scr ns, v => ∃ a, v = .ref a ∧ SqL K F a (ns.map V.int) ∧ ns.length ≤ sizeLine
  | .xc a dx d, v => v = .ref a ∧ ∃ w, F dx = some (.xd [("at", w)]) ∧ Rep K F d w
  | .xv C d, v => ∃ a dx w, v = .ref a ∧ F a = some (exo a C (some dx)) ∧ F dx = some (exd dx [("at", w)]) ∧ Rep K F d w
def Reps (K : PySem.W.Frag) (F : Hp) : List D → List V → Prop
  | [], vs => vs = []
  | d :: ds, vs => ∃ v r, vs = v :: r ∧ Rep K F d v ∧ Reps K F ds r
end
theorem sameT {K : PySem.W.Frag} {H H' : Hp} {a : Addr} {xs : List V} (e : Same H H') (h : SqT K H a xs) : SqT K H' a xs := by
  rcases h with (h | ⟨o, h⟩) | h
  · exact .inl (.inl (e _ _ h))
  · exact .inl (.inr ⟨o, e _ _ h⟩)
  · exact .inr h
mutual
theorem Rep.mono {K : PySem.W.Frag} {F F' : Hp} (s : Same F F') : ∀ (d : D) (v : V), Rep K F d v → Rep K F' d v
  | .non, _, h => h
  | .bl _, _, h => h
  | .int _, _, h => h
  | .str _, _, h => h
  | .ty _, _, h => h
  | .ref _, _, h => h
  | .lst ds, _, ⟨a, vs, e, q, z, r⟩ => ⟨a, vs, e, s _ _ q, z, Reps.mono s ds vs r⟩
  | .tup ds, _, ⟨a, vs, e, q, z, r⟩ => ⟨a, vs, e, sameT s q, z, Reps.mono s ds vs r⟩
  | .kt _, _, ⟨a, e, q, z⟩ => ⟨a, e, s _ _ q, z⟩
  | .scr _, _, ⟨a, e, q, z⟩ => ⟨a, e, s.seq q, z⟩
  | .xc _ _ d, _, ⟨e, w, q, r⟩ => ⟨e, w, s _ _ q, Rep.mono s d w r⟩
  | .xv _ d, _, ⟨a, dx, w, e, q, q2, r⟩ => ⟨a, dx, w, e, s _ _ q, s _ _ q2, Rep.mono s d w r⟩
theorem Reps.mono {K : PySem.W.Frag} {F F' : Hp} (s : Same F F') : ∀ (ds : List D) (vs : List V), Reps K F ds vs → Reps K F' ds vs
  | [], _, h => h
  | d :: ds, _, ⟨v, r, e, h1, h2⟩ => ⟨v, r, e, Rep.mono s d v h1, Reps.mono s ds r h2⟩
end
section
variable {K : PySem.W.Frag} {F : Hp}
theorem Reps.len : ∀ {ds : List D} {vs : List V}, Reps K F ds vs → vs.length = ds.length
  | [], _, h => by cases h; rfl
  | d :: ds, _, ⟨v, r, e, _, h2⟩ => by subst e; simp [Reps.len h2]
theorem Reps.get : ∀ {ds : List D} {vs : List V}, Reps K F ds vs → ∀ (i : Nat) (d : D), ds[i]? = some d → ∃ v, vs[i]? = some v ∧ Rep K F d v
  | [], _, _, i, d, e => by simp at e
  | d' :: ds, _, ⟨v, r, e, h1, h2⟩, 0, d, q => by simp at q; subst q; subst e; exact ⟨v, rfl, h1⟩
  | d' :: ds, _, ⟨v, r, e, h1, h2⟩, i + 1, d, q => by
    subst e
    obtain ⟨u, a, b⟩ := Reps.get h2 i d (by simpa using q)
    exact ⟨u, by simpa using a, b⟩
theorem Reps.getV : ∀ {ds : List D} {vs : List V}, Reps K F ds vs → ∀ (i : Nat) (v : V), vs[i]? = some v → ∃ d, ds[i]? = some d ∧ Rep K F d v
  | [], _, h, i, d, e => by cases h; simp at e
  | d' :: ds, _, ⟨v, r, e, h1, h2⟩, 0, d, q => by subst e; simp at q; subst q; exact ⟨d', rfl, h1⟩
  | d' :: ds, _, ⟨v, r, e, h1, h2⟩, i + 1, d, q => by
    subst e
    obtain ⟨u, a, b⟩ := Reps.getV h2 i d (by simpa using q)
    exact ⟨u, by simpa using a, b⟩
theorem Reps.append : ∀ {ds es : List D} {vs us : List V}, Reps K F ds vs → Reps K F es us → Reps K F (ds ++ es) (vs ++ us)
  | [], _, _, _, h, g => by cases h; exact g
  | d :: ds, _, _, _, ⟨v, r, e, h1, h2⟩, g => by subst e; exact ⟨v, _, rfl, h1, Reps.append h2 g⟩
theorem Reps.take : ∀ {ds : List D} {vs : List V} (n : Nat), Reps K F ds vs → Reps K F (ds.take n) (vs.take n)
  | [], _, n, h => by cases h; simp [Reps]
  | d :: ds, _, 0, _ => by simp [Reps]
  | d :: ds, _, n + 1, ⟨v, r, e, h1, h2⟩ => by subst e; exact ⟨v, _, rfl, h1, Reps.take n h2⟩
theorem Reps.drop : ∀ {ds : List D} {vs : List V} (n : Nat), Reps K F ds vs → Reps K F (ds.drop n) (vs.drop n)
  | [], _, n, h => by cases h; simp [Reps]
  | d :: ds, _, 0, h => h
  | d :: ds, _, n + 1, ⟨v, r, e, h1, h2⟩ => by subst e; exact Reps.drop n h2
theorem Reps.set : ∀ {ds : List D} {vs : List V} (n : Nat) {d : D} {v : V}, Reps K F ds vs → Rep K F d v → Reps K F (ds.set n d) (vs.set n v)
  | [], _, n, _, _, h, _ => by cases h; simp [Reps]
  | _ :: ds, _, 0, _, _, ⟨v, r, e, h1, h2⟩, g => by subst e; exact ⟨_, _, rfl, g, h2⟩
  | _ :: ds, _, n + 1, _, _, ⟨v, r, e, h1, h2⟩, g => by subst e; exact ⟨_, _, rfl, h1, Reps.set n h2 g⟩
theorem Reps.one {d : D} {v : V} (h : Rep K F d v) : Reps K F [d] [v] := ⟨v, [], rfl, h, rfl⟩
theorem Reps.reverse : ∀ {ds : List D} {vs : List V}, Reps K F ds vs → Reps K F ds.reverse vs.reverse
  | [], _, h => by cases h; simp [Reps]
  | d :: ds, _, ⟨v, r, e, h1, h2⟩ => by
    subst e
    rw [List.reverse_cons, List.reverse_cons]
    exact (Reps.reverse h2).append (Reps.one h1)
theorem Reps.flat : ∀ (n : Nat) {ds : List D} {vs : List V}, Reps K F ds vs → Reps K F (List.replicate n ds).flatten (List.replicate n vs).flatten
  | 0, _, _, _ => rfl
  | n + 1, ds, vs, h => by
    rw [List.replicate_succ, List.replicate_succ, List.flatten_cons, List.flatten_cons]
    exact h.append (Reps.flat n h)
theorem Reps.ints : ∀ {ns : List Int} {vs : List V}, Reps K F (ns.map D.int) vs → vs = ns.map V.int
  | [], _, h => h
  | n :: ns, _, ⟨v, r, e, h1, h2⟩ => by subst e; cases h1; rw [Reps.ints h2]; rfl
theorem Reps.bls : ∀ {ns : List Bool} {vs : List V}, Reps K F (ns.map D.bl) vs → vs = ns.map V.bl
  | [], _, h => h
  | n :: ns, _, ⟨v, r, e, h1, h2⟩ => by subst e; cases h1; rw [Reps.bls h2]; rfl
theorem Reps.strs : ∀ {ns : List Str} {vs : List V}, Reps K F (ns.map D.str) vs → vs = ns.map V.str
  | [], _, h => h
  | n :: ns, _, ⟨v, r, e, h1, h2⟩ => by subst e; cases h1; rw [Reps.strs h2]; rfl
theorem Reps.ofInts : ∀ (ns : List Int), Reps K F (ns.map D.int) (ns.map V.int)
  | [] => rfl
  | n :: ns => ⟨_, _, rfl, rfl, Reps.ofInts ns⟩
theorem Reps.ofStrs : ∀ (ns : List Str), Reps K F (ns.map D.str) (ns.map V.str)
  | [] => rfl
  | n :: ns => ⟨_, _, rfl, rfl, Reps.ofStrs ns⟩
end

/-! ### the mutable store -/
inductive MO where
  | lst (ds : List D)
  | dK (kvs : List (Key × D))
  | dT (kvs : List (List Key × D))
  /-- a dict that is walked over: no one writes it -/
  | fK (od : Obj) (vk : List (Key × V)) (kvs : List (Key × D))
  | ins (C : Addr) (fs : List (Str × D))
abbrev Mem := Addr → Option MO
def mup (M : Mem) (a : Addr) (o : MO) : Mem := fun b => if b = a then some o else M b
def mdel (M : Mem) (a : Addr) : Mem := fun b => if b = a then none else M b
theorem mup_same {M : Mem} {a : Addr} {o : MO} : mup M a o a = some o := if_pos rfl
theorem mup_ne {M : Mem} {a b : Addr} {o : MO} (h : b ≠ a) : mup M a o b = M b := if_neg h
theorem mup_mup {M : Mem} {a : Addr} {o u : MO} : mup (mup M a o) a u = mup M a u := by
  funext b; unfold mup; split <;> rfl
theorem mdel_mup {M : Mem} {a : Addr} {o : MO} (h : M a = none) : mdel (mup M a o) a = M := by
  funext b; unfold mdel mup; split
  · rename_i e; subst e; exact h.symm
  · rfl
theorem mne {M : Mem} {a b : Addr} {o : MO} (h : M a = some o) (h' : M b = none) : a ≠ b := by
  intro e; subst e; rw [h] at h'; cases h'
def RepKV {κ : Type} (K : PySem.W.Frag) (F : Hp) : List (κ × D) → List (κ × V) → Prop
  | [], vs => vs = []
  | (k, d) :: ds, vs => ∃ v r, vs = (k, v) :: r ∧ Rep K F d v ∧ RepKV K F ds r
section
variable {κ : Type} {K : PySem.W.Frag} {F F' : Hp}
theorem RepKV.mono (s : Same F F') : ∀ {ds : List (κ × D)} {vs : List (κ × V)}, RepKV K F ds vs → RepKV K F' ds vs
  | [], _, h => h
  | (k, d) :: ds, _, ⟨v, r, e, h1, h2⟩ => ⟨v, r, e, Rep.mono s d v h1, RepKV.mono s h2⟩
theorem RepKV.len : ∀ {ds : List (κ × D)} {vs : List (κ × V)}, RepKV K F ds vs → vs.length = ds.length
  | [], _, h => by cases h; rfl
  | (k, d) :: ds, _, ⟨v, r, e, _, h2⟩ => by subst e; simp [RepKV.len h2]
end
def MOk (K : PySem.W.Frag) (F H : Hp) (a : Addr) : MO → Prop
  | .lst ds => ∃ vs, H a = some (.lst vs) ∧ vs.length ≤ sizeLine ∧ Reps K F ds vs
  | .dK kvs => ∃ vk, H a = some (.dK vk) ∧ RepKV K F kvs vk
  | .dT kvs => ∃ vk, H a = some (.dT vk) ∧ RepKV K F kvs vk
  | .fK od vk kvs => H a = some (.frz od (.dK vk)) ∧ RepKV K F kvs vk
  | .ins C fs => ∃ dx vf, H a = some (.ins C dx vf) ∧ RepKV K F fs vf
structure SOk (K : PySem.W.Frag) (F H : Hp) (M : Mem) : Prop where
  sub : Same F H
  mem : ∀ a mo, M a = some mo → F a = none ∧ MOk K F H a mo
section
variable {K : PySem.W.Frag} {F F' H H' : Hp} {M M' : Mem} {a : Addr} {mo : MO}
theorem MOk.mono (s : Same F F') (h : MOk K F H a mo) (e : H' a = H a) : MOk K F' H' a mo := by
  cases mo with
  | lst ds => obtain ⟨vs, q, z, r⟩ := h; exact ⟨vs, e.trans q, z, Reps.mono s _ _ r⟩
  | dK ds => obtain ⟨vs, q, r⟩ := h; exact ⟨vs, e.trans q, r.mono s⟩
  | dT ds => obtain ⟨vs, q, r⟩ := h; exact ⟨vs, e.trans q, r.mono s⟩
  | fK _ _ ds => exact ⟨e.trans h.1, h.2.mono s⟩
  | ins C fs => obtain ⟨dx, vs, q, r⟩ := h; exact ⟨dx, vs, e.trans q, r.mono s⟩
theorem MOk.there (h : MOk K F H a mo) : ∃ o, H a = some o := by
  cases mo with
  | lst ds => obtain ⟨vs, q, r⟩ := h; exact ⟨_, q⟩
  | dK ds => obtain ⟨vs, q, r⟩ := h; exact ⟨_, q⟩
  | dT ds => obtain ⟨vs, q, r⟩ := h; exact ⟨_, q⟩
  | fK _ _ ds => exact ⟨_, h.1⟩
  | ins C fs => obtain ⟨dx, vs, q, r⟩ := h; exact ⟨_, q⟩
theorem SOk.free (s : SOk K F H M) (h : H a = none) : F a = none ∧ M a = none := by
  refine ⟨s.sub.free h, ?_⟩
  cases e : M a with
  | none => rfl
  | some mo =>
    obtain ⟨o, q⟩ := (s.mem a mo e).2.there
    rw [q] at h; cases h
/-- less of the store is told -/
def LeM (M' M : Mem) : Prop := ∀ a o, M' a = some o → M a = some o
theorem LeM.refl (M : Mem) : LeM M M := fun _ _ h => h
theorem LeM.trans {A B C : Mem} (x : LeM A B) (y : LeM B C) : LeM A C := fun a o h => y a o (x a o h)
theorem LeM.up {M : Mem} {a : Addr} {o : MO} (h : M a = none) : LeM M (mup M a o) := fun b u e => by rw [mup_ne (mne e h)]; exact e
theorem SOk.le (s : SOk K F H M) (l : LeM M' M) : SOk K F H M' := ⟨s.sub, fun a mo e => s.mem a mo (l a mo e)⟩
/-- the object at a is laid (it was not there) or changed (it is M's) -/
theorem SOk.put (s : SOk K F H M) {o : HO} (h : H a = none ∨ ∃ m, M a = some m) (new : MOk K F (upd H a o) a mo) : SOk K F (upd H a o) (mup M a mo) := by
  have hF : F a = none := by
    rcases h with h | ⟨m, h⟩
    · exact (s.free h).1
    · exact (s.mem a m h).1
  refine ⟨fun b u e => ?_, fun b u e => ?_⟩
  · have hb : b ≠ a := ne_of_none e hF
    rw [upd_ne hb]; exact s.sub b u e
  · by_cases hb : b = a
    · subst hb; rw [mup_same] at e; cases e; exact ⟨hF, new⟩
    · rw [mup_ne hb] at e
      obtain ⟨f, q⟩ := s.mem b u e
      exact ⟨f, q.mono (Same.refl F) (upd_ne hb)⟩
/-- an object of ours that no one writes: a tree's -/
theorem SOk.grow (s : SOk K F H M) {o : HO} (h : H a = none) : SOk K (upd F a o) (upd H a o) M ∧ Same F (upd F a o) := by
  obtain ⟨hF, hM⟩ := s.free h
  have sF : Same F (upd F a o) := fun b u e => by rw [upd_ne (ne_of_none e hF)]; exact e
  refine ⟨⟨fun b u e => ?_, fun b u e => ?_⟩, sF⟩
  · by_cases hb : b = a
    · subst hb; rw [upd_same] at e ⊢; exact e
    · rw [upd_ne hb] at e ⊢; exact s.sub b u e
  · have hb : b ≠ a := mne e hM
    obtain ⟨f, q⟩ := s.mem b u e
    exact ⟨by rw [upd_ne hb]; exact f, q.mono sF (upd_ne hb)⟩
/-- a list of the store becomes a tree -/
theorem SOk.freeze (s : SOk K F H M) {ds : List D} (h : M a = some (.lst ds)) : ∃ F', Same F F' ∧ SOk K F' H (mdel M a) ∧ Rep K F' (.lst ds) (.ref a) := by
  obtain ⟨hF, vs, e, hz, r⟩ := s.mem a _ h
  have sF : Same F (upd F a (.lst vs)) := fun b u q => by rw [upd_ne (ne_of_none q hF)]; exact q
  refine ⟨upd F a (.lst vs), sF, ⟨fun b u q => ?_, fun b u q => ?_⟩, ⟨a, vs, rfl, upd_same, hz, Reps.mono sF _ _ r⟩⟩
  · by_cases hb : b = a
    · subst hb; rw [upd_same] at q; rw [e]; exact q
    · rw [upd_ne hb] at q; exact s.sub b u q
  · have hb : b ≠ a := fun z => by unfold mdel at q; rw [if_pos z] at q; cases q
    unfold mdel at q; rw [if_neg hb] at q
    obtain ⟨f, w⟩ := s.mem b u q
    exact ⟨by rw [upd_ne hb]; exact f, w.mono sF rfl⟩
end

/-! ### the names -/
abbrev GE := List (Option D)
def gt : GE → Nat → Option D
  | [], _ => none
  | x :: _, 0 => x
  | _ :: xs, n + 1 => gt xs n
def st : GE → Nat → D → GE
  | [], _, _ => []
  | _ :: xs, 0, d => some d :: xs
  | x :: xs, n + 1, d => x :: st xs n d
def unst : GE → Nat → GE
  | [], _ => []
  | _ :: xs, 0 => none :: xs
  | x :: xs, n + 1 => x :: unst xs n
theorem st_len : ∀ (Γ : GE) (i : Nat) (d : D), (st Γ i d).length = Γ.length
  | [], _, _ => rfl
  | _ :: xs, 0, d => rfl
  | x :: xs, n + 1, d => by simp [st, st_len xs n d]
theorem unst_len : ∀ (Γ : GE) (i : Nat), (unst Γ i).length = Γ.length
  | [], _ => rfl
  | _ :: xs, 0 => rfl
  | x :: xs, n + 1 => by simp [unst, unst_len xs n]
theorem gt_unst : ∀ (Γ : GE) (i j : Nat) (x : D), gt (unst Γ i) j = some x → j ≠ i ∧ gt Γ j = some x
  | [], _, _, _, h => by cases h
  | _ :: xs, 0, 0, _, h => by cases h
  | _ :: xs, 0, j + 1, _, h => ⟨by omega, h⟩
  | x :: xs, n + 1, 0, _, h => ⟨by omega, h⟩
  | x :: xs, n + 1, j + 1, y, h => by
    obtain ⟨a, b⟩ := gt_unst xs n j y h
    exact ⟨by omega, b⟩
theorem gt_st : ∀ (Γ : GE) (i j : Nat) (d x : D), gt (st Γ i d) j = some x → (j = i ∧ i < Γ.length ∧ x = d) ∨ (j ≠ i ∧ gt Γ j = some x)
  | [], _, _, _, _, h => by cases h
  | _ :: xs, 0, 0, d, x, h => by cases h; exact .inl ⟨rfl, by simp, rfl⟩
  | _ :: xs, 0, j + 1, d, x, h => .inr ⟨by omega, h⟩
  | y :: xs, n + 1, 0, d, x, h => .inr ⟨by omega, h⟩
  | y :: xs, n + 1, j + 1, d, x, h => by
    rcases gt_st xs n j d x h with ⟨a, b, c⟩ | ⟨a, b⟩
    · exact .inl ⟨by omega, by simp; omega, c⟩
    · exact .inr ⟨by omega, b⟩
theorem gt_lt : ∀ (Γ : GE) (i : Nat) (d : D), gt Γ i = some d → i < Γ.length
  | [], _, _, h => by cases h
  | _ :: xs, 0, _, _ => by simp
  | _ :: xs, n + 1, d, h => by have := gt_lt xs n d h; simp; omega
structure REnv (K : PySem.W.Frag) (F : Hp) (Γ : GE) (σ : L2.St) : Prop where
  len : σ.length = Γ.length
  get : ∀ i d, gt Γ i = some d → ∃ v, σ[i]? = some (some v) ∧ Rep K F d v
section
variable {K : PySem.W.Frag} {F F' : Hp} {Γ : GE} {σ : L2.St}
theorem REnv.mono (r : REnv K F Γ σ) (s : Same F F') : REnv K F' Γ σ := ⟨r.len, fun i d e => let ⟨v, a, b⟩ := r.get i d e; ⟨v, a, Rep.mono s d v b⟩⟩
theorem REnv.set (r : REnv K F Γ σ) (i : Nat) {d : D} {v : V} (h : Rep K F d v) : REnv K F (st Γ i d) (σ.set i (some v)) := by
  refine ⟨by rw [st_len, List.length_set]; exact r.len, fun j x e => ?_⟩
  rcases gt_st _ _ _ _ _ e with ⟨a, b, c⟩ | ⟨a, b⟩
  · subst a; subst c
    exact ⟨v, List.getElem?_set_self (by rw [r.len]; exact b), h⟩
  · obtain ⟨u, a', b'⟩ := r.get j x b
    exact ⟨u, by rw [List.getElem?_set_ne (Ne.symm a)]; exact a', b'⟩
theorem REnv.unset (r : REnv K F Γ σ) (i : Nat) : REnv K F (unst Γ i) (σ.set i none) := by
  refine ⟨by rw [unst_len, List.length_set]; exact r.len, fun j x e => ?_⟩
  obtain ⟨a, b⟩ := gt_unst _ _ _ _ e
  obtain ⟨u, a', b'⟩ := r.get j x b
  exact ⟨u, by rw [List.getElem?_set_ne (Ne.symm a)]; exact a', b'⟩
/-- fewer names are told -/
def LeG : GE → GE → Prop
  | [], [] => True
  | none :: g, _ :: h => LeG g h
  | some d :: g, x :: h => x = some d ∧ LeG g h
  | _, _ => False
theorem LeG.refl : ∀ Γ : GE, LeG Γ Γ
  | [] => True.intro
  | none :: g => LeG.refl g
  | some d :: g => ⟨rfl, LeG.refl g⟩
theorem LeG.get : ∀ {Γ' Γ : GE}, LeG Γ' Γ → Γ'.length = Γ.length ∧ ∀ i d, gt Γ' i = some d → gt Γ i = some d
  | [], [], _ => ⟨rfl, fun _ _ h => h⟩
  | none :: g, _ :: h, l => by
    obtain ⟨a, b⟩ := LeG.get (Γ' := g) (Γ := h) l
    refine ⟨by simp [a], fun i d e => ?_⟩
    cases i with
    | zero => cases e
    | succ i => exact b i d e
  | some d :: g, x :: h, ⟨q, l⟩ => by
    subst q
    obtain ⟨a, b⟩ := LeG.get (Γ' := g) (Γ := h) l
    refine ⟨by simp [a], fun i d e => ?_⟩
    cases i with
    | zero => exact e
    | succ i => exact b i d e
  | [], _ :: _, l => by cases l
  | none :: _, [], l => by cases l
  | some _ :: _, [], l => by cases l
theorem REnv.le {Γ' : GE} (r : REnv K F Γ σ) (l : LeG Γ' Γ) : REnv K F Γ' σ := ⟨r.len.trans l.get.1.symm, fun i d e => r.get i d (l.get.2 i d e)⟩
end

/-! ### predicate transformers -/
abbrev DK := D → Mem → Prop
/-- an exception: its class's address, its at -/
abbrev DX := Addr → D → Mem → Prop
abbrev WE := GE → Mem → DK → DX → Prop
abbrev WT := GE → Mem → (Bool → Mem → Prop) → DX → Prop
abbrev WA := GE → Mem → (List D → Mem → Prop) → DX → Prop
structure EndsD where
  nx : GE → Mem → Prop
  rt : DK
  bk : GE → Mem → Prop
  ct : GE → Mem → Prop
  ex : Addr → D → GE → Mem → Prop
abbrev WS := EndsD → GE → Mem → Prop
/-- a def: arguments, store, end, exception -/
abbrev FS := List D → Mem → DK → DX → Prop

/-- where an exception lies -/
def RXok (K : PySem.W.Frag) (W : WX) (F : Hp) (σ : L2.St) (RX : DX) : Prop :=
  ∀ c d M' F' H' v dx, RX c d M' → Same F F' → SOk K F' H' M' → Rep K F' d v → H' dx = some (.xd [("at", v)]) → W (.ref c) (some dx) σ H'
theorem RXok.mono {K : PySem.W.Frag} {W : WX} {F F' : Hp} {σ : L2.St} {RX : DX} (h : RXok K W F σ RX) (s : Same F F') : RXok K W F' σ RX := fun c d M' F2 H' v dx a b => h c d M' F2 H' v dx a (s.trans b)
def lE (K : PySem.W.Frag) (W : WX) (w : WE) : TE := fun σ H Q => ∃ F Γ M R RX, SOk K F H M ∧ REnv K F Γ σ ∧ w Γ M R RX ∧ (∀ d M' F' H' v, R d M' → Same F F' → SOk K F' H' M' → Rep K F' d v → Q v H') ∧ RXok K W F σ RX
def lT (K : PySem.W.Frag) (W : WX) (w : WT) : TT := fun σ H Q => ∃ F Γ M R RX, SOk K F H M ∧ REnv K F Γ σ ∧ w Γ M R RX ∧ (∀ b M' F' H', R b M' → Same F F' → SOk K F' H' M' → Q b H') ∧ RXok K W F σ RX
def lA (K : PySem.W.Frag) (W : WX) (n : Nat) (w : WA) : TA := fun σ H Q => ∃ F Γ M R RX, SOk K F H M ∧ REnv K F Γ σ ∧ w Γ M R RX ∧ (∀ ds M' F' H' vs, R ds M' → ds.length = n → Same F F' → SOk K F' H' M' → Reps K F' ds vs → Q vs H') ∧ RXok K W F σ RX
/-- what a statement's ends mean -/
structure EOk (K : PySem.W.Frag) (W : WX) (F : Hp) (D : Ends) (R : EndsD) : Prop where
  nx : ∀ Γ M F' σ H, R.nx Γ M → Same F F' → SOk K F' H M → REnv K F' Γ σ → D.nx σ H
  rt : ∀ d M F' H v, R.rt d M → Same F F' → SOk K F' H M → Rep K F' d v → D.rt v H
  bk : ∀ Γ M F' σ H, R.bk Γ M → Same F F' → SOk K F' H M → REnv K F' Γ σ → D.bk σ H
  ct : ∀ Γ M F' σ H, R.ct Γ M → Same F F' → SOk K F' H M → REnv K F' Γ σ → D.ct σ H
  ex : ∀ c d Γ M F' σ H v dx, R.ex c d Γ M → Same F F' → SOk K F' H M → REnv K F' Γ σ → Rep K F' d v → H dx = some (.xd [("at", v)]) → W (.ref c) (some dx) σ H
theorem EOk.mono {K : PySem.W.Frag} {W : WX} {F F1 : Hp} {D : Ends} {R : EndsD} (o : EOk K W F D R) (s : Same F F1) : EOk K W F1 D R :=
  ⟨fun Γ M F' σ H h a => o.nx Γ M F' σ H h (s.trans a), fun d M F' H v h a => o.rt d M F' H v h (s.trans a), fun Γ M F' σ H h a => o.bk Γ M F' σ H h (s.trans a), fun Γ M F' σ H h a => o.ct Γ M F' σ H h (s.trans a),
    fun c d Γ M F' σ H v dx h a => o.ex c d Γ M F' σ H v dx h (s.trans a)⟩
def lS (K : PySem.W.Frag) (W : WX) (w : WS) : TS := fun D σ H => ∃ F Γ M R, SOk K F H M ∧ REnv K F Γ σ ∧ w R Γ M ∧ EOk K W F D R
abbrev QE (X : Cx) (W : WX) (e : Expr) (w : WE) : Prop := PE X e (lE X.K W w)
abbrev QT (X : Cx) (W : WX) (e : Expr) (w : WT) : Prop := PT X e (lT X.K W w)
abbrev QA (X : Cx) (W : WX) (es : List Expr) (n : Nat) (w : WA) : Prop := PA X es (lA X.K W n w)
abbrev QS (X : Cx) (W : WX) (s : Stmt) (w : WS) : Prop := PS X s (lS X.K W w)
abbrev QSs (X : Cx) (W : WX) (s : List Stmt) (w : WS) : Prop := PSs X s (lS X.K W w)
end DL

set_option Elab.async false
set_option backward.match.sparseCases false
set_option linter.all false
set_option maxRecDepth 100000
set_option maxHeartbeats 4000000
/-! DL2: expressions. -/
namespace DL
open PySem PySem.Spec PyProof.Rows L2

theorem pe_imp {X : Cx} {e : Expr} {t t' : TE} (h : PE X e t) (i : ∀ σ H Q, t' σ H Q → t σ H Q) : PE X e t' := ⟨fun p s σ H Q I z => h.run p s σ H Q I (i _ _ _ z)⟩
theorem pt_imp {X : Cx} {e : Expr} {t t' : TT} (h : PT X e t) (i : ∀ σ H Q, t' σ H Q → t σ H Q) : PT X e t' := ⟨fun p s σ H Q I z => h.run p s σ H Q I (i _ _ _ z)⟩
theorem pw_imp {X : Cx} {e : Expr} {t t' : TT} (h : PW X e t) (i : ∀ σ H Q, t' σ H Q → t σ H Q) : PW X e t' := ⟨fun w p s σ H Q I z => h.run w p s σ H Q I (i _ _ _ z)⟩
theorem pa_imp {X : Cx} {e : List Expr} {t t' : TA} (h : PA X e t) (i : ∀ σ H Q, t' σ H Q → t σ H Q) : PA X e t' := ⟨fun w p s σ H Q I z => h.run w p s σ H Q I (i _ _ _ z)⟩

/-! ### what data is -/
def kD : Key → D
  | .inl i => .int i
  | .inr x => .str x
def dKey : D → Option Key
  | .int i => some (.inl i)
  | .str x => some (.inr x)
  | _ => none
def asP (d : D) (M : Mem) : Option (List D) := match d with
  | .lst ds => some ds
  | .ref a => (match M a with
    | some (.lst ds) => some ds
    | _ => none)
  | _ => none
def asL (d : D) (M : Mem) : Option (List D) := match d with
  | .lst ds => some ds
  | .scr ns => some (ns.map .int)
  | .ref a => (match M a with
    | some (.lst ds) => some ds
    | _ => none)
  | _ => none
def asT : D → Option (List D)
  | .tup ds => some ds
  | .kt k => some (k.map kD)
  | _ => none
def asQ (d : D) (M : Mem) : Option (List D) := match d with
  | .lst ds => some ds
  | .tup ds => some ds
  | .kt k => some (k.map kD)
  | .scr ns => some (ns.map .int)
  | .ref a => (match M a with
    | some (.lst ds) => some ds
    | _ => none)
  | _ => none
section
variable {K : PySem.W.Frag} {F H : Hp} {M : Mem} {d : D} {v : V} {ds : List D}
theorem Reps.ofKeys : ∀ (k : List Key), Reps K F (k.map kD) (k.map kV)
  | [] => rfl
  | .inl i :: r => ⟨_, _, rfl, rfl, Reps.ofKeys r⟩
  | .inr i :: r => ⟨_, _, rfl, rfl, Reps.ofKeys r⟩
theorem rep_P (s : SOk K F H M) (r : Rep K F d v) (e : asP d M = some ds) : ∃ a vs, v = .ref a ∧ H a = some (.lst vs) ∧ vs.length ≤ sizeLine ∧ Reps K F ds vs := by
  cases d with
  | lst xs =>
    obtain ⟨a, vs, q, h, z, g⟩ := r
    cases e
    exact ⟨a, vs, q, s.sub _ _ h, z, g⟩
  | ref a =>
    cases r
    cases q : M a with
    | none => simp [asP, q] at e
    | some mo =>
      cases mo with
      | lst xs =>
        simp [asP, q] at e
        subst e
        obtain ⟨_, vs, h, z, g⟩ := s.mem a _ q
        exact ⟨a, vs, rfl, h, z, g⟩
      | dK _ => simp [asP, q] at e
      | dT _ => simp [asP, q] at e
      | fK _ _ _ => simp [asP, q] at e
      | ins _ _ => simp [asP, q] at e
  | _ => cases e
theorem rep_L (s : SOk K F H M) (r : Rep K F d v) (e : asL d M = some ds) : ∃ a vs, v = .ref a ∧ SqL K H a vs ∧ vs.length ≤ sizeLine ∧ Reps K F ds vs := by
  cases d with
  | lst xs =>
    obtain ⟨a, vs, q, h, z, g⟩ := rep_P s r (ds := ds) e
    exact ⟨a, vs, q, .of h, z, g⟩
  | ref a =>
    obtain ⟨a, vs, q, h, z, g⟩ := rep_P s r (ds := ds) e
    exact ⟨a, vs, q, .of h, z, g⟩
  | scr ns =>
    obtain ⟨a, q, h, z⟩ := r
    cases e
    exact ⟨a, _, q, s.sub.seq h, by rw [List.length_map]; exact z, Reps.ofInts ns⟩
  | _ => cases e
theorem rep_T (s : SOk K F H M) (r : Rep K F d v) (e : asT d = some ds) : ∃ a vs, v = .ref a ∧ SqT K H a vs ∧ vs.length ≤ sizeLine ∧ Reps K F ds vs := by
  cases d with
  | tup xs =>
    obtain ⟨a, vs, q, h, z, g⟩ := r
    cases e
    exact ⟨a, vs, q, sameT s.sub h, z, g⟩
  | kt k =>
    obtain ⟨a, q, h, z⟩ := r
    cases e
    exact ⟨a, _, q, .of (s.sub _ _ h), by rw [List.length_map]; exact z, Reps.ofKeys k⟩
  | _ => cases e
theorem rep_Q (s : SOk K F H M) (r : Rep K F d v) (e : asQ d M = some ds) : ∃ a vs, v = .ref a ∧ (SqL K H a vs ∨ SqT K H a vs) ∧ vs.length ≤ sizeLine ∧ Reps K F ds vs := by
  cases d with
  | lst xs => obtain ⟨a, vs, q, h, z, g⟩ := rep_L s r (ds := ds) e; exact ⟨a, vs, q, .inl h, z, g⟩
  | ref a => obtain ⟨a, vs, q, h, z, g⟩ := rep_L s r (ds := ds) e; exact ⟨a, vs, q, .inl h, z, g⟩
  | scr ns => obtain ⟨a, vs, q, h, z, g⟩ := rep_L s r (ds := ds) e; exact ⟨a, vs, q, .inl h, z, g⟩
  | tup xs => obtain ⟨a, vs, q, h, z, g⟩ := rep_T s r (ds := ds) e; exact ⟨a, vs, q, .inr h, z, g⟩
  | kt k => obtain ⟨a, vs, q, h, z, g⟩ := rep_T s r (ds := ds) e; exact ⟨a, vs, q, .inr h, z, g⟩
  | _ => cases e
theorem RepKV.lookup {fs : List (Str × D)} {vf : List (Str × V)} {f : Str} : RepKV K F fs vf → fs.lookup f = some d → ∃ v, vf.lookup f = some v ∧ Rep K F d v := by
  intro h e
  induction fs generalizing vf with
  | nil => cases e
  | cons p r ih =>
    obtain ⟨k, x⟩ := p
    obtain ⟨v, w, q, h1, h2⟩ := h
    subst q
    by_cases hf : f = k
    · subst hf
      simp [List.lookup] at e ⊢
      subst e; exact h1
    · have z : (f == k) = false := by simpa using hf
      simp only [List.lookup, z] at e ⊢
      exact ih h2 e
theorem RepKV.lookup_none {fs : List (Str × D)} {vf : List (Str × V)} {f : Str} : RepKV K F fs vf → fs.lookup f = none → vf.lookup f = none := by
  intro h e
  induction fs generalizing vf with
  | nil => cases h; rfl
  | cons p r ih =>
    obtain ⟨k, x⟩ := p
    obtain ⟨v, w, q, h1, h2⟩ := h
    subst q
    by_cases hf : f = k
    · subst hf
      simp [List.lookup] at e
    · have z : (f == k) = false := by simpa using hf
      simp only [List.lookup, z] at e ⊢
      exact ih h2 e
end

/-! ### names, constants -/
section
variable {X : Cx} {W : WX} {e a b : Expr} {pos : Pos} {wa wb : WE}
def wVar (i : Nat) : WE := fun Γ M R _ => match gt Γ i with
  | some d => R d M
  | none => False
theorem qv {i : Nat} (h : PE X e (tVar i)) : QE X W e (wVar i) := pe_imp h fun σ H Q ⟨F, Γ, M, R, RX, s, r, w, q, _⟩ => by
  unfold wVar at w
  cases g : gt Γ i with
  | none => rw [g] at w; exact w.elim
  | some d =>
    rw [g] at w
    obtain ⟨v, h1, h2⟩ := r.get i d g
    exact ⟨v, h1, q d M F H v w (Same.refl F) s h2⟩
def wC (d : D) : WE := fun _ M R _ => R d M
theorem qc {d : D} {v : V} (h : PE X e (tC v)) (r : ∀ F, Rep X.K F d v) : QE X W e (wC d) := pe_imp h fun σ H Q ⟨F, Γ, M, R, RX, s, _, w, q, _⟩ => q d M F H v w (Same.refl F) s (r F)
theorem qint {i j} : QE X W (.Constant (.int i) j pos) (wC (.int i)) := qc pe_int fun _ => rfl
theorem qbl {i j} : QE X W (.Constant (.bool i) j pos) (wC (.bl i)) := qc pe_bl fun _ => rfl
theorem qnon {j} : QE X W (.Constant .none j pos) (wC .non) := qc pe_non fun _ => rfl
theorem qstr {x j} : QE X W (.Constant (.str x) j pos) (wC (.str x)) := qc pe_str fun _ => rfl

/-! ### operators -/
abbrev OD := D → D → Mem → DK → Prop
def LOp (K : PySem.W.Frag) (r : R2) (f : OD) : Prop := ∀ x y vx vy F H M R Q, SOk K F H M → Rep K F x vx → Rep K F y vy → f x y M R →
  (∀ d M' F' H' v, R d M' → Same F F' → SOk K F' H' M' → Rep K F' d v → Q v H') → r vx vy H Q
def wOp (f : OD) (wa wb : WE) : WE := fun Γ M R RX => wa Γ M (fun x M1 => wb Γ M1 (fun y M2 => f x y M2 R) RX) RX
theorem lop {r : R2} {f : OD} (hl : LOp X.K r f) {σ : L2.St} {H : Hp} {Q : VK} (h : lE X.K W (wOp f wa wb) σ H Q) : tOp r (lE X.K W wa) (lE X.K W wb) σ H Q := by
  obtain ⟨F, Γ, M, R, RX, s, e, w, hq, hx⟩ := h
  refine ⟨F, Γ, M, _, RX, s, e, w, fun d M1 F1 H1 v h1 s1 k1 r1 => ?_, hx⟩
  refine ⟨F1, Γ, M1, _, RX, k1, e.mono s1, h1, fun d2 M2 F2 H2 v2 h2 s2 k2 r2 => ?_, hx.mono s1⟩
  exact hl d d2 v v2 F2 H2 M2 R Q k2 (Rep.mono s2 _ _ r1) r2 h2 fun d3 M3 F3 H3 v3 h3 s3 k3 r3 => hq _ _ _ _ _ h3 ((s1.trans s2).trans s3) k3 r3
theorem qop {op : Operator} {r : R2} {f : OD} (ho : OpR X (binaryOp op) r) (hl : LOp X.K r f) (ha : QE X W a wa) (hb : QE X W b wb) : QE X W (.BinOp a op b pos) (wOp f wa wb) :=
  pe_imp (pe_op ho ha hb) fun _ _ _ h => lop hl h
theorem qcmp {op : CmpOp} {r : R2} {f : OD} (ho : OpR X (compareOp op) r) (hl : LOp X.K r f) (ha : QE X W a wa) (hb : QE X W b wb) (hm : behindInMarks op b = false) : QE X W (.Compare a [op] [b] pos) (wOp f wa wb) :=
  pe_imp (pe_cmpR ho ha hb hm) fun _ _ _ h => lop hl h
/-- a value that is a bool, as a test -/
def wB (w : WE) : WT := fun Γ M R RX => w Γ M (fun d M' => match d with
  | .bl b => R b M'
  | _ => False) RX
theorem lB {we : WE} {σ : L2.St} {H : Hp} {Q : Bool → Hp → Prop} (h : lT X.K W (wB we) σ H Q) : lE X.K W we σ H (fun x H' => ∃ k, x = .bl k ∧ Q k H') := by
  obtain ⟨F, Γ, M, R, RX, s, e, w, hq, hx⟩ := h
  refine ⟨F, Γ, M, _, RX, s, e, w, fun d M1 F1 H1 v h1 s1 k1 r1 => ?_, hx⟩
  cases d with
  | bl b => cases r1; exact ⟨b, rfl, hq b _ _ _ h1 s1 k1⟩
  | _ => exact h1.elim
theorem tcmp {op : CmpOp} {r : R2} {f : OD} (ho : OpR X (compareOp op) r) (hl : LOp X.K r f) (ha : QE X W a wa) (hb : QE X W b wb) (hm : behindInMarks op b = false) : QT X W (.Compare a [op] [b] pos) (wB (wOp f wa wb)) :=
  pt_imp (pt_cmpR ho ha hb hm) fun _ _ _ h => lop hl (lB h)
theorem tval {we : WE} (h : QE X W e we) (he : ∀ whole, isTrue e X.env whole = (do let v ← whole; standAt e.pos; holding [v] (truthy v)) := by intro _; rfl) : QT X W e (wB we) :=
  pt_imp (pt_val h he) fun _ _ _ h => lB h
/-- a chain of two comparisons -/
def wChain (f g : OD) (wa wb wc : WE) : WE := fun Γ M R RX => wa Γ M (fun x M1 => wb Γ M1 (fun y M2 => f x y M2 (fun z M3 => match z with
  | .bl true => wc Γ M3 (fun u M4 => g y u M4 R) RX
  | .bl false => R (.bl false) M3
  | _ => False)) RX) RX
theorem lchain {c : Expr} {wc : WE} {r r' : R2} {f g : OD} (hl : LOp X.K r f) (hl' : LOp X.K r' g) {σ : L2.St} {H : Hp} {Q : VK} (h : lE X.K W (wChain f g wa wb wc) σ H Q) : tChain r r' (lE X.K W wa) (lE X.K W wb) (lE X.K W wc) σ H Q := by
  obtain ⟨F, Γ, M, R, RX, s, e, w, hq, hx⟩ := h
  refine ⟨F, Γ, M, _, RX, s, e, w, fun d M1 F1 H1 v h1 s1 k1 r1 => ?_, hx⟩
  refine ⟨F1, Γ, M1, _, RX, k1, e.mono s1, h1, fun d2 M2 F2 H2 v2 h2 s2 k2 r2 => ?_, hx.mono s1⟩
  refine hl d d2 v v2 F2 H2 M2 _ _ k2 (Rep.mono s2 _ _ r1) r2 h2 fun d3 M3 F3 H3 v3 h3 s3 k3 r3 => ?_
  have s13 := (s1.trans s2).trans s3
  cases d3 with
  | bl k =>
    cases r3
    refine ⟨k, rfl, ?_⟩
    cases k with
    | true =>
      refine iteT ?_
      refine ⟨F3, Γ, M3, _, RX, k3, e.mono s13, h3, fun d4 M4 F4 H4 v4 h4 s4 k4 r4 => ?_, hx.mono s13⟩
      exact hl' d2 d4 v2 v4 F4 H4 M4 R Q k4 (Rep.mono (s3.trans s4) _ _ r2) r4 h4 fun d5 M5 F5 H5 v5 h5 s5 k5 r5 => hq _ _ _ _ _ h5 ((s13.trans s4).trans s5) k5 r5
    | false => exact iteF (hq _ _ _ _ _ h3 s13 k3 rfl)
  | _ => exact h3.elim
theorem qchain {c : Expr} {wc : WE} {op op' : CmpOp} {r r' : R2} {f g : OD} (ho : OpR X (compareOp op) r) (hl : LOp X.K r f) (ho' : OpR X (compareOp op') r') (hl' : LOp X.K r' g) (ha : QE X W a wa) (hb : QE X W b wb) (hc : QE X W c wc)
    (hm : lastMarks [op, op'] [b, c] = false := by rfl) : QE X W (.Compare a [op, op'] [b, c] pos) (wChain f g wa wb wc) :=
  pe_imp (pe_chain ho ho' ha hb hc (hm := hm)) fun _ _ _ h => lchain (c := c) hl hl' h
theorem tchain {c : Expr} {wc : WE} {op op' : CmpOp} {r r' : R2} {f g : OD} (ho : OpR X (compareOp op) r) (hl : LOp X.K r f) (ho' : OpR X (compareOp op') r') (hl' : LOp X.K r' g) (ha : QE X W a wa) (hb : QE X W b wb) (hc : QE X W c wc)
    (hm : lastMarks [op, op'] [b, c] = false := by rfl) : QT X W (.Compare a [op, op'] [b, c] pos) (wB (wChain f g wa wb wc)) :=
  pt_imp (pt_chain ho ho' ha hb hc (hm := hm)) fun _ _ _ h => lchain (c := c) hl hl' (lB h)

/-! ### and, or, not; a if t else b -/
variable {ta tb : WT} {rest : List Expr}
def wAnd (t u : WT) : WT := fun Γ M R RX => t Γ M (fun c M1 => if c = true then u Γ M1 R RX else R false M1) RX
def wOr (t u : WT) : WT := fun Γ M R RX => t Γ M (fun c M1 => if c = true then R true M1 else u Γ M1 R RX) RX
def wNot (t : WT) : WT := fun Γ M R RX => t Γ M (fun c M1 => R (!c) M1) RX
abbrev QW (X : Cx) (W : WX) (e : Expr) (w : WT) : Prop := PW X e (lT X.K W w)
theorem tand1 (h : QT X W a ta) : QW X W (.BoolOp .And [a] pos) ta := pw_and1 h
theorem tor1 (h : QT X W a ta) : QW X W (.BoolOp .Or [a] pos) ta := pw_or1 h
theorem tand (h : QT X W a ta) (g : QW X W (.BoolOp .And (b :: rest) pos) tb) : QW X W (.BoolOp .And (a :: b :: rest) pos) (wAnd ta tb) :=
  pw_imp (pw_and h g) fun σ H Q ⟨F, Γ, M, R, RX, s, e, w, hq, hx⟩ => ⟨F, Γ, M, _, RX, s, e, w, fun c M1 F1 H1 h1 s1 k1 => by
    cases c with
    | true => exact iteT ⟨F1, Γ, M1, R, RX, k1, e.mono s1, by simpa using h1, fun b M2 F2 H2 h2 s2 k2 => hq _ _ _ _ h2 (s1.trans s2) k2, hx.mono s1⟩
    | false => exact iteF (hq _ _ _ _ (by simpa using h1) s1 k1), hx⟩
theorem tor (h : QT X W a ta) (g : QW X W (.BoolOp .Or (b :: rest) pos) tb) : QW X W (.BoolOp .Or (a :: b :: rest) pos) (wOr ta tb) :=
  pw_imp (pw_or h g) fun σ H Q ⟨F, Γ, M, R, RX, s, e, w, hq, hx⟩ => ⟨F, Γ, M, _, RX, s, e, w, fun c M1 F1 H1 h1 s1 k1 => by
    cases c with
    | false => exact iteF ⟨F1, Γ, M1, R, RX, k1, e.mono s1, by simpa using h1, fun b M2 F2 H2 h2 s2 k2 => hq _ _ _ _ h2 (s1.trans s2) k2, hx.mono s1⟩
    | true => exact iteT (hq _ _ _ _ (by simpa using h1) s1 k1), hx⟩
theorem tnot (h : QT X W a ta) : QT X W (.UnaryOp .Not a pos) (wNot ta) :=
  pt_imp (pt_not h) fun σ H Q ⟨F, Γ, M, R, RX, s, e, w, hq, hx⟩ => ⟨F, Γ, M, _, RX, s, e, w, fun c M1 F1 H1 h1 s1 k1 => hq _ _ _ _ h1 s1 k1, hx⟩
def wAndV (wa wb : WE) : WE := fun Γ M R RX => wa Γ M (fun d M1 => match d with
  | .bl true => wb Γ M1 R RX
  | .bl false => R (.bl false) M1
  | _ => False) RX
def wOrV (wa wb : WE) : WE := fun Γ M R RX => wa Γ M (fun d M1 => match d with
  | .bl false => wb Γ M1 R RX
  | .bl true => R (.bl true) M1
  | _ => False) RX
def wNotV (wa : WE) : WE := fun Γ M R RX => wa Γ M (fun d M1 => match d with
  | .bl b => R (.bl (!b)) M1
  | _ => False) RX
theorem qone {op} (h : QE X W a wa) : QE X W (.BoolOp op [a] pos) wa := pe_one h
theorem qand (h : QE X W a wa) (g : QE X W (.BoolOp .And (b :: rest) pos) wb) : QE X W (.BoolOp .And (a :: b :: rest) pos) (wAndV wa wb) :=
  pe_imp (pe_and h g) fun σ H Q ⟨F, Γ, M, R, RX, s, e, w, hq, hx⟩ => ⟨F, Γ, M, _, RX, s, e, w, fun d M1 F1 H1 v h1 s1 k1 r1 => by
    cases d with
    | bl c =>
      cases r1
      refine ⟨c, rfl, ?_⟩
      cases c with
      | true => exact iteT ⟨F1, Γ, M1, R, RX, k1, e.mono s1, h1, fun b M2 F2 H2 v2 h2 s2 k2 => hq _ _ _ _ _ h2 (s1.trans s2) k2, hx.mono s1⟩
      | false => exact iteF (hq _ _ _ _ _ h1 s1 k1 rfl)
    | _ => exact h1.elim, hx⟩
theorem qor (h : QE X W a wa) (g : QE X W (.BoolOp .Or (b :: rest) pos) wb) : QE X W (.BoolOp .Or (a :: b :: rest) pos) (wOrV wa wb) :=
  pe_imp (pe_or h g) fun σ H Q ⟨F, Γ, M, R, RX, s, e, w, hq, hx⟩ => ⟨F, Γ, M, _, RX, s, e, w, fun d M1 F1 H1 v h1 s1 k1 r1 => by
    cases d with
    | bl c =>
      cases r1
      refine ⟨c, rfl, ?_⟩
      cases c with
      | false => exact iteF ⟨F1, Γ, M1, R, RX, k1, e.mono s1, h1, fun b M2 F2 H2 v2 h2 s2 k2 => hq _ _ _ _ _ h2 (s1.trans s2) k2, hx.mono s1⟩
      | true => exact iteT (hq _ _ _ _ _ h1 s1 k1 rfl)
    | _ => exact h1.elim, hx⟩
theorem qnot (h : QE X W a wa) : QE X W (.UnaryOp .Not a pos) (wNotV wa) :=
  pe_imp (pe_not h) fun σ H Q ⟨F, Γ, M, R, RX, s, e, w, hq, hx⟩ => ⟨F, Γ, M, _, RX, s, e, w, fun d M1 F1 H1 v h1 s1 k1 r1 => by
    cases d with
    | bl c =>
      cases r1
      exact ⟨c, rfl, hq _ _ _ _ _ h1 s1 k1 rfl⟩
    | _ => exact h1.elim, hx⟩
def wIfE (t : WT) (wa wb : WE) : WE := fun Γ M R RX => t Γ M (fun c M1 => if c = true then wa Γ M1 R RX else wb Γ M1 R RX) RX
theorem qif {c : Expr} {tc : WT} (hc : QT X W c tc) (ha : QE X W a wa) (hb : QE X W b wb) : QE X W (.IfExp c a b pos) (wIfE tc wa wb) :=
  pe_imp (pe_ifExp hc ha hb) fun σ H Q ⟨F, Γ, M, R, RX, s, e, w, hq, hx⟩ => ⟨F, Γ, M, _, RX, s, e, w, fun c M1 F1 H1 h1 s1 k1 => by
    cases c with
    | true => exact iteT ⟨F1, Γ, M1, R, RX, k1, e.mono s1, by simpa using h1, fun b M2 F2 H2 v2 h2 s2 k2 => hq _ _ _ _ _ h2 (s1.trans s2) k2, hx.mono s1⟩
    | false => exact iteF ⟨F1, Γ, M1, R, RX, k1, e.mono s1, by simpa using h1, fun b M2 F2 H2 v2 h2 s2 k2 => hq _ _ _ _ _ h2 (s1.trans s2) k2, hx.mono s1⟩, hx⟩

/-! ### argument lists, displays -/
variable {es : List Expr} {te : WE} {tr : WA}
def wNil : WA := fun _ M R _ => R [] M
def wCons (te : WE) (tr : WA) : WA := fun Γ M R RX => te Γ M (fun d M1 => tr Γ M1 (fun ds M2 => R (d :: ds) M2) RX) RX
theorem anil : QA X W [] 0 wNil := pa_imp pa_nil fun σ H Q ⟨F, Γ, M, R, RX, s, e, w, hq, hx⟩ => hq [] M F H [] w rfl (Same.refl F) s rfl
theorem acons {n : Nat} (he : QE X W e te) (hr : QA X W es n tr) (hs : starEach (e :: es) X.env = (false, eval e X.env) :: starEach es X.env := by rfl) : QA X W (e :: es) (n + 1) (wCons te tr) :=
  pa_imp (pa_cons he hr hs) fun σ H Q ⟨F, Γ, M, R, RX, s, e, w, hq, hx⟩ => ⟨F, Γ, M, _, RX, s, e, w, fun d M1 F1 H1 v h1 s1 k1 r1 =>
    ⟨F1, Γ, M1, _, RX, k1, e.mono s1, h1, fun ds M2 F2 H2 vs h2 hl s2 k2 r2 => hq _ _ _ _ _ h2 (by rw [List.length_cons, hl]) (s1.trans s2) k2 ⟨v, vs, rfl, Rep.mono s2 _ _ r1, r2⟩, hx.mono s1⟩, hx⟩
/-- a written tuple: a tree -/
def wTup (t : WA) : WE := fun Γ M R RX => t Γ M (fun ds M1 => R (.tup ds) M1) RX
theorem rep_tup {K : PySem.W.Frag} {F H : Hp} {M : Mem} {ds : List D} {vs : List V} {p : Addr} (s : SOk K F H M) (hp : H p = none) (z : vs.length ≤ sizeLine) (r : Reps K F ds vs) :
    ∃ F', Same F F' ∧ SOk K F' (upd H p (.tup vs)) M ∧ Rep K F' (.tup ds) (.ref p) := by
  obtain ⟨k, sF⟩ := s.grow (o := .tup vs) hp
  exact ⟨_, sF, k, p, vs, rfl, .of upd_same, z, Reps.mono sF _ _ r⟩
theorem rep_lst {K : PySem.W.Frag} {F H : Hp} {M : Mem} {ds : List D} {vs : List V} {p : Addr} (s : SOk K F H M) (hp : H p = none) (z : vs.length ≤ sizeLine) (r : Reps K F ds vs) :
    ∃ F', Same F F' ∧ SOk K F' (upd H p (.lst vs)) M ∧ Rep K F' (.lst ds) (.ref p) := by
  obtain ⟨k, sF⟩ := s.grow (o := .lst vs) hp
  exact ⟨_, sF, k, p, vs, rfl, upd_same, z, Reps.mono sF _ _ r⟩
theorem rep_new {K : PySem.W.Frag} {F H : Hp} {M : Mem} {ds : List D} {vs : List V} {p : Addr} (s : SOk K F H M) (hp : H p = none) (z : vs.length ≤ sizeLine) (r : Reps K F ds vs) :
    M p = none ∧ SOk K F (upd H p (.lst vs)) (mup M p (.lst ds)) :=
  ⟨(s.free hp).2, s.put (.inl hp) ⟨vs, upd_same, z, r⟩⟩
theorem qtup {k n} (h : QA X W es n tr) (hn : n ≤ 1000 := by decide) : QE X W (.Tuple es k pos) (wTup tr) :=
  pe_imp (pe_tup h) fun σ H Q ⟨F, Γ, M, R, RX, s, e, w, hq, hx⟩ => ⟨F, Γ, M, _, RX, s, e, w, fun ds M1 F1 H1 vs h1 hl s1 k1 r1 => by
    have z : vs.length ≤ sizeLine := by rw [r1.len, hl]; exact Nat.le_trans hn (by decide)
    refine ⟨z, fun p hp => ?_⟩
    obtain ⟨F2, s2, k2, r2⟩ := rep_tup k1 hp z r1
    exact hq _ _ _ _ _ h1 (s1.trans s2) k2 r2, hx⟩
/-- a written tuple of ints and texts, to be a dict's key -/
def dKeys : List D → Option (List Key)
  | [] => some []
  | d :: r => match dKey d, dKeys r with
    | some k, some ks => some (k :: ks)
    | _, _ => none
theorem Reps.keys {K : PySem.W.Frag} {F : Hp} : ∀ {ds : List D} {vs : List V} {ks : List Key}, Reps K F ds vs → dKeys ds = some ks → vs = ks.map kV
  | [], _, _, h, e => by cases e; exact h
  | d :: ds, _, ks, ⟨v, r, e, h1, h2⟩, q => by
    subst e
    unfold dKeys at q
    cases a : dKey d with
    | none => rw [a] at q; cases q
    | some k =>
      cases b : dKeys ds with
      | none => rw [a, b] at q; cases q
      | some ks' =>
        rw [a, b] at q
        cases q
        rw [Reps.keys h2 b]
        cases d with
        | int i => cases a; cases h1; rfl
        | str i => cases a; cases h1; rfl
        | _ => cases a
def wKt (t : WA) : WE := fun Γ M R RX => t Γ M (fun ds M1 => match dKeys ds with
  | some ks => R (.kt ks) M1
  | none => False) RX
theorem qkt {k n} (h : QA X W es n tr) (hn : n ≤ 1000 := by decide) : QE X W (.Tuple es k pos) (wKt tr) :=
  pe_imp (pe_tup h) fun σ H Q ⟨F, Γ, M, R, RX, s, e, w, hq, hx⟩ => ⟨F, Γ, M, _, RX, s, e, w, fun ds M1 F1 H1 vs h1 hl s1 k1 r1 => by
    have z : vs.length ≤ sizeLine := by rw [r1.len, hl]; exact Nat.le_trans hn (by decide)
    refine ⟨z, fun p hp => ?_⟩
    cases g : dKeys ds with
    | none => rw [g] at h1; exact h1.elim
    | some ks =>
      rw [g] at h1
      obtain ⟨k2, sF⟩ := k1.grow (o := .tup vs) hp
      refine hq _ _ _ _ _ h1 (s1.trans sF) k2 ⟨p, rfl, ?_, ?_⟩
      · rw [upd_same, Reps.keys r1 g]
      · rw [Reps.keys r1 g, List.length_map] at z; exact z, hx⟩
/-- a written list: a tree; one of the store -/
def wLst (t : WA) : WE := fun Γ M R RX => t Γ M (fun ds M1 => R (.lst ds) M1) RX
theorem qlst {n} (h : QA X W es n tr) (hn : n ≤ 1000 := by decide) : QE X W (.List es pos) (wLst tr) :=
  pe_imp (pe_lst h) fun σ H Q ⟨F, Γ, M, R, RX, s, e, w, hq, hx⟩ => ⟨F, Γ, M, _, RX, s, e, w, fun ds M1 F1 H1 vs h1 hl s1 k1 r1 => by
    have z : vs.length ≤ sizeLine := by rw [r1.len, hl]; exact Nat.le_trans hn (by decide)
    refine ⟨z, fun p hp => ?_⟩
    obtain ⟨F2, s2, k2, r2⟩ := rep_lst k1 hp z r1
    exact hq _ _ _ _ _ h1 (s1.trans s2) k2 r2, hx⟩
def wLstM (t : WA) : WE := fun Γ M R RX => t Γ M (fun ds M1 => ∀ p, M1 p = none → R (.ref p) (mup M1 p (.lst ds))) RX
theorem qlstM {n} (h : QA X W es n tr) (hn : n ≤ 1000 := by decide) : QE X W (.List es pos) (wLstM tr) :=
  pe_imp (pe_lst h) fun σ H Q ⟨F, Γ, M, R, RX, s, e, w, hq, hx⟩ => ⟨F, Γ, M, _, RX, s, e, w, fun ds M1 F1 H1 vs h1 hl s1 k1 r1 => by
    have z : vs.length ≤ sizeLine := by rw [r1.len, hl]; exact Nat.le_trans hn (by decide)
    refine ⟨z, fun p hp => ?_⟩
    obtain ⟨n1, k2⟩ := rep_new k1 hp z r1
    exact hq _ _ _ _ _ (h1 p n1) s1 k2 rfl, hx⟩
/-- a list of the store, let be a tree from here on -/
def wFz (we : WE) : WE := fun Γ M R RX => we Γ M (fun d M1 => match d with
  | .ref a => (match M1 a with
    | some (.lst ds) => R (.lst ds) (mdel M1 a)
    | _ => False)
  | _ => False) RX
theorem qfz {we : WE} (h : QE X W e we) : QE X W e (wFz we) :=
  pe_imp h fun σ H Q ⟨F, Γ, M, R, RX, s, e, w, hq, hx⟩ => ⟨F, Γ, M, _, RX, s, e, w, fun d M1 F1 H1 v h1 s1 k1 r1 => by
    cases d with
    | ref a =>
      cases r1
      cases q : M1 a with
      | none => simp only [q] at h1
      | some mo =>
        cases mo with
        | lst ds =>
          simp only [q] at h1
          obtain ⟨F2, s2, k2, r2⟩ := k1.freeze q
          exact hq _ _ _ _ _ h1 (s1.trans s2) k2 r2
        | dK _ => simp only [q] at h1
        | dT _ => simp only [q] at h1
        | fK _ _ _ => simp only [q] at h1
        | ins _ _ => simp only [q] at h1
    | _ => exact h1.elim, hx⟩
end
end DL

set_option Elab.async false
set_option backward.match.sparseCases false
set_option linter.all false
set_option maxRecDepth 100000
set_option maxHeartbeats 4000000
/-! DL3: operators, subscripts, slices, built-ins by values. -/
namespace DL
open PySem PySem.Spec PyProof.Rows L2

section
variable {K : PySem.W.Frag} {F F' H H' : Hp} {M M' : Mem} {d : D} {v : V} {ds : List D}
theorem rep_TF (r : Rep K F d v) (e : asT d = some ds) : ∃ a vs, v = .ref a ∧ SqT K F a vs ∧ vs.length ≤ sizeLine ∧ Reps K F ds vs := by
  cases d with
  | tup xs =>
    obtain ⟨a, vs, q, h, z, g⟩ := r
    cases e
    exact ⟨a, vs, q, h, z, g⟩
  | kt k =>
    obtain ⟨a, q, h, z⟩ := r
    cases e
    exact ⟨a, _, q, .of h, by rw [List.length_map]; exact z, Reps.ofKeys k⟩
  | _ => cases e
end

/-! ### ints -/
/-- a structure: the kernel is never to unfold it -/
structure mulOk (i j : Int) : Prop where
  h : (Builtin.Int.intBits i : Int) + (Builtin.Int.intBits j : Int) ≤ 134217728
def fInt (C : Int → Int → Prop) (g : Int → Int → D) : OD := fun x y M R => match x, y with
  | .int i, .int j => C i j ∧ R (g i j) M
  | _, _ => False
theorem lInt {K : PySem.W.Frag} {C C' : Int → Int → Prop} {g : Int → Int → D} {g' : Int → Int → V} (hc : ∀ i j, C i j → C' i j) (hg : ∀ F i j, C i j → Rep K F (g i j) (g' i j)) : LOp K (rI C' g') (fInt C g) := by
  intro x y vx vy F H M R Q s rx ry h q
  cases x with
  | int i =>
    cases y with
    | int j =>
      cases rx; cases ry
      exact ⟨i, j, rfl, rfl, hc _ _ h.1, q _ _ _ _ _ h.2 (Same.refl F) s (hg F i j h.1)⟩
    | _ => exact h.elim
  | _ => exact h.elim
def fInt0 (g : Int → Int → D) : OD := fun x y M R => match x, y with
  | .int i, .int j => R (g i j) M
  | _, _ => False
theorem lInt0 {K : PySem.W.Frag} {g : Int → Int → D} {g' : Int → Int → V} (hg : ∀ F i j, Rep K F (g i j) (g' i j)) : LOp K (rI0 g') (fInt0 g) := by
  intro x y vx vy F H M R Q s rx ry h q
  cases x with
  | int i =>
    cases y with
    | int j =>
      cases rx; cases ry
      exact ⟨i, j, rfl, rfl, q _ _ _ _ _ h (Same.refl F) s (hg F i j)⟩
    | _ => exact h.elim
  | _ => exact h.elim
abbrev fSub : OD := fInt0 fun i j => .int (i - j)
abbrev fAddI : OD := fInt0 fun i j => .int (i + j)
abbrev fMulI : OD := fInt mulOk fun i j => .int (i * j)
abbrev fDiv : OD := fInt (fun _ j => 0 < j ∧ j.natAbs.log2 < 9000) fun i j => .int (i / j)
abbrev fDivN : OD := fInt (fun _ j => j ≠ 0 ∧ j.natAbs < 1073741824) fun i j => .int (i.fdiv j)
abbrev fMod : OD := fInt (fun _ j => 0 < j) fun i j => .int (i % j)
abbrev fPow : OD := fInt (fun i j => 0 ≤ j ∧ j ≤ 1000000 ∧ i.natAbs < 2 ^ 64) fun i j => .int (i ^ j.toNat)
abbrev fShl : OD := fInt (fun i j => 0 ≤ j ∧ (Builtin.Int.intBits i : Int) + j ≤ 2 ^ 27) fun i j => .int (i * 2 ^ j.toNat)
abbrev fShr : OD := fInt (fun _ j => 0 ≤ j) fun i j => .int (i / 2 ^ j.toNat)
abbrev fLt : OD := fInt0 fun i j => .bl (decide (i < j))
abbrev fLe : OD := fInt0 fun i j => .bl (decide (i ≤ j))
abbrev fGt : OD := fInt0 fun i j => .bl (decide (j < i))
abbrev fGe : OD := fInt0 fun i j => .bl (decide (j ≤ i))
/-- n & 1 -/
def fAnd1 : OD := fun x y M R => match x, y with
  | .int i, .int 1 => R (.int (i % 2)) M
  | _, _ => False
section
variable {X : Cx} {W : WX} {a b : Expr} {pos : Pos} {wa wb : WE}
theorem qsub (ha : QE X W a wa) (hb : QE X W b wb) : QE X W (.BinOp a .Sub b pos) (wOp fSub wa wb) := qop op_sub (lInt0 fun _ _ _ => rfl) ha hb
theorem qaddI (ha : QE X W a wa) (hb : QE X W b wb) : QE X W (.BinOp a .Add b pos) (wOp fAddI wa wb) := qop op_add (lInt0 fun _ _ _ => rfl) ha hb
theorem qmulI (ha : QE X W a wa) (hb : QE X W b wb) : QE X W (.BinOp a .Mult b pos) (wOp fMulI wa wb) := qop op_mulX (lInt (fun _ _ h => h.h) fun _ _ _ _ => rfl) ha hb
theorem qdiv (ha : QE X W a wa) (hb : QE X W b wb) : QE X W (.BinOp a .FloorDiv b pos) (wOp fDiv wa wb) := qop op_fdivW (lInt (fun _ _ h => h) fun _ _ _ _ => rfl) ha hb
theorem qdivN (ha : QE X W a wa) (hb : QE X W b wb) : QE X W (.BinOp a .FloorDiv b pos) (wOp fDivN wa wb) := qop op_fdivN (lInt (fun _ _ h => h) fun _ _ _ _ => rfl) ha hb
theorem qmod (ha : QE X W a wa) (hb : QE X W b wb) : QE X W (.BinOp a .Mod b pos) (wOp fMod wa wb) := qop op_mod (lInt (fun _ _ h => h) fun _ _ _ _ => rfl) ha hb
theorem qpow (ha : QE X W a wa) (hb : QE X W b wb) : QE X W (.BinOp a .Pow b pos) (wOp fPow wa wb) := qop op_pow (lInt (fun _ _ h => h) fun _ _ _ _ => rfl) ha hb
theorem qshl (ha : QE X W a wa) (hb : QE X W b wb) : QE X W (.BinOp a .LShift b pos) (wOp fShl wa wb) := qop op_shlW (lInt (fun _ _ h => h) fun _ _ _ _ => rfl) ha hb
theorem qshr (ha : QE X W a wa) (hb : QE X W b wb) : QE X W (.BinOp a .RShift b pos) (wOp fShr wa wb) := qop op_shr (lInt (fun _ _ h => h) fun _ _ _ _ => rfl) ha hb
theorem qand1 (ha : QE X W a wa) (hb : QE X W b wb) : QE X W (.BinOp a .BitAnd b pos) (wOp fAnd1 wa wb) := qop op_andM (by
  intro x y vx vy F H M R Q s rx ry h q
  cases x with
  | int i =>
    cases y with
    | int j =>
      cases rx; cases ry
      by_cases hj : j = 1
      · subst hj
        exact ⟨i, 1, rfl, rfl, q _ _ _ _ _ h (Same.refl F) s rfl⟩
      · exfalso
        unfold fAnd1 at h
        split at h
        · rename_i e; cases e; exact hj rfl
        · exact h
    | _ => exact h.elim
  | _ => exact h.elim) ha hb
theorem qneg (ha : QE X W a wa) : QE X W (.UnaryOp .USub a pos) (fun Γ M R RX => wa Γ M (fun d M1 => match d with
  | .int i => R (.int (-i)) M1
  | _ => False) RX) :=
  pe_imp (pe_un un_neg ha) fun σ H Q ⟨F, Γ, M, R, RX, s, e, w, hq, hx⟩ => ⟨F, Γ, M, _, RX, s, e, w, fun d M1 F1 H1 v h1 s1 k1 r1 => by
    cases d with
    | int i => cases r1; exact ⟨i, rfl, hq _ _ _ _ _ h1 s1 k1 rfl⟩
    | _ => exact h1.elim, hx⟩

/-! ### + and * of anything -/
def fAdd : OD := fun x y M R => match x, y with
  | .int i, .int j => R (.int (i + j)) M
  | .str i, .str j => i.length + j.length ≤ sizeLine ∧ R (.str (i ++ j)) M
  | _, _ => match asT x, asT y with
    | some xs, some ys => xs.length + ys.length ≤ sizeLine ∧ R (.tup (xs ++ ys)) M
    | _, _ => match asP x M, asP y M with
      | some xs, some ys => xs.length + ys.length ≤ sizeLine ∧ R (.lst (xs ++ ys)) M
      | _, _ => False
/-- a sum of lists that is to be changed -/
def fCatM : OD := fun x y M R => match asP x M, asP y M with
  | some xs, some ys => xs.length + ys.length ≤ sizeLine ∧ ∀ p, M p = none → R (.ref p) (mup M p (.lst (xs ++ ys)))
  | _, _ => False
theorem opAddG : OpR X (binaryOp .Add) (fun x y H Q => rI0 (fun i j => .int (i + j)) x y H Q ∨ (∃ i j, x = .str i ∧ y = .str j ∧ i.length + j.length ≤ sizeLine ∧ Q (.str (i ++ j)) H) ∨ rCatA X.K x y H Q ∨ rCat x y H Q) :=
  op_add.or (op_add_str.or (op_catA.or op_cat))
theorem lAddTL {K : PySem.W.Frag} {x y : D} {vx vy : V} {F H : Hp} {M : Mem} {R : DK} {Q : VK} (s : SOk K F H M) (rx : Rep K F x vx) (ry : Rep K F y vy)
    (h : match asT x, asT y with
    | some xs, some ys => xs.length + ys.length ≤ sizeLine ∧ R (.tup (xs ++ ys)) M
    | _, _ => match asP x M, asP y M with
      | some xs, some ys => xs.length + ys.length ≤ sizeLine ∧ R (.lst (xs ++ ys)) M
      | _, _ => False)
    (q : ∀ d M' F' H' v, R d M' → Same F F' → SOk K F' H' M' → Rep K F' d v → Q v H') : rCatA K vx vy H Q ∨ rCat vx vy H Q := by
  have lists : (match asP x M, asP y M with
      | some xs, some ys => xs.length + ys.length ≤ sizeLine ∧ R (.lst (xs ++ ys)) M
      | _, _ => False) → rCat vx vy H Q := by
    intro h
    cases e1 : asP x M with
    | none => rw [e1] at h; exact h.elim
    | some xs =>
      cases e2 : asP y M with
      | none => rw [e1, e2] at h; exact h.elim
      | some ys =>
        rw [e1, e2] at h
        obtain ⟨a, vs, ea, ha, za, ga⟩ := rep_P s rx e1
        obtain ⟨b, us, eb, hb, zb, gb⟩ := rep_P s ry e2
        refine ⟨a, b, vs, us, ea, eb, ha, hb, by rw [ga.len, gb.len]; exact h.1, fun p hp => ?_⟩
        obtain ⟨F2, s2, k2, r2⟩ := rep_lst s hp (by rw [List.length_append, ga.len, gb.len]; exact h.1) (ga.append gb)
        exact q _ _ _ _ _ h.2 s2 k2 r2
  cases e1 : asT x with
  | none => rw [e1] at h; exact .inr (lists (by simpa using h))
  | some xs =>
    cases e2 : asT y with
    | none => rw [e1, e2] at h; exact .inr (lists (by simpa using h))
    | some ys =>
      rw [e1, e2] at h
      refine .inl ?_
      obtain ⟨a, vs, ea, ha, za, ga⟩ := rep_TF rx e1
      obtain ⟨b, us, eb, hb, zb, gb⟩ := rep_TF ry e2
      refine ⟨a, b, vs, us, ea, eb, sameT s.sub ha, sameT s.sub hb, by rw [ga.len, gb.len]; exact h.1, fun z => ?_, fun z z2 => ?_, fun _ _ p hp => ?_⟩
      · subst z
        have e3 : xs = [] := by have := ga.len; simpa using this.symm
        subst e3
        exact q _ _ _ _ _ h.2 (Same.refl F) s ⟨b, us, rfl, hb, zb, gb⟩
      · subst z2
        have e3 : ys = [] := by have := gb.len; simpa using this.symm
        subst e3
        exact q _ _ _ _ _ h.2 (Same.refl F) s ⟨a, vs, rfl, ha, za, by simpa using ga⟩
      · obtain ⟨F2, s2, k2, r2⟩ := rep_tup s hp (by rw [List.length_append, ga.len, gb.len]; exact h.1) (ga.append gb)
        exact q _ _ _ _ _ h.2 s2 k2 r2
theorem qadd (ha : QE X W a wa) (hb : QE X W b wb) : QE X W (.BinOp a .Add b pos) (wOp fAdd wa wb) := qop opAddG (by
  intro x y vx vy F H M R Q s rx ry h q
  unfold fAdd at h
  split at h
  · cases rx; cases ry
    exact .inl ⟨_, _, rfl, rfl, q _ _ _ _ _ h (Same.refl F) s rfl⟩
  · cases rx; cases ry
    exact .inr (.inl ⟨_, _, rfl, rfl, h.1, q _ _ _ _ _ h.2 (Same.refl F) s rfl⟩)
  · exact .inr (.inr (lAddTL s rx ry h q))) ha hb
theorem qcatM (ha : QE X W a wa) (hb : QE X W b wb) : QE X W (.BinOp a .Add b pos) (wOp fCatM wa wb) := qop op_cat (by
  intro x y vx vy F H M R Q s rx ry h q
  unfold fCatM at h
  cases e1 : asP x M with
  | none => rw [e1] at h; exact h.elim
  | some xs =>
    cases e2 : asP y M with
    | none => rw [e1, e2] at h; exact h.elim
    | some ys =>
      rw [e1, e2] at h
      obtain ⟨a, vs, ea, ha, za, ga⟩ := rep_P s rx e1
      obtain ⟨b, us, eb, hb, zb, gb⟩ := rep_P s ry e2
      refine ⟨a, b, vs, us, ea, eb, ha, hb, by rw [ga.len, gb.len]; exact h.1, fun p hp => ?_⟩
      obtain ⟨n1, k2⟩ := rep_new s hp (by rw [List.length_append, ga.len, gb.len]; exact h.1) (ga.append gb)
      exact q _ _ _ _ _ (h.2 p n1) (Same.refl F) k2 rfl) ha hb
/-- *: ints, or a list times an int -/
def fMul : OD := fun x y M R => match x, y with
  | .int i, .int j => mulOk i j ∧ R (.int (i * j)) M
  | d, .int k => (match asP d M with
    | some xs => (-(2 ^ 63) ≤ k ∧ k < 2 ^ 63 ∧ xs.length * k.toNat ≤ sizeLine) ∧ R (.lst (List.replicate k.toNat xs).flatten) M
    | none => False)
  | _, _ => False
def fRepM : OD := fun x y M R => match y with
  | .int k => (match asP x M with
    | some xs => (-(2 ^ 63) ≤ k ∧ k < 2 ^ 63 ∧ xs.length * k.toNat ≤ sizeLine) ∧ ∀ p, M p = none → R (.ref p) (mup M p (.lst (List.replicate k.toNat xs).flatten))
    | none => False)
  | _ => False
theorem flat_len {α : Type} (n : Nat) (xs : List α) : (List.replicate n xs).flatten.length = xs.length * n := by
  induction n with
  | zero => simp
  | succ n ih => rw [List.replicate_succ, List.flatten_cons, List.length_append, ih, Nat.mul_succ, Nat.add_comm]
theorem qmul (ha : QE X W a wa) (hb : QE X W b wb) : QE X W (.BinOp a .Mult b pos) (wOp fMul wa wb) := qop (op_mulX.or op_rep) (by
  intro x y vx vy F H M R Q s rx ry h q
  unfold fMul at h
  split at h
  · cases rx; cases ry
    exact .inl ⟨_, _, rfl, rfl, h.1.h, q _ _ _ _ _ h.2 (Same.refl F) s rfl⟩
  · rename_i k _
    cases e1 : asP x M with
    | none => rw [e1] at h; exact h.elim
    | some xs =>
      rw [e1] at h
      obtain ⟨a, vs, ea, ha, za, ga⟩ := rep_P s rx e1
      cases ry
      obtain ⟨⟨h1, h2, h3⟩, h4⟩ := h
      refine .inr ⟨a, k, vs, ea, rfl, ha, h1, h2, by rw [ga.len]; exact h3, fun p hp => ?_⟩
      obtain ⟨F2, s2, k2, r2⟩ := rep_lst s hp (by rw [flat_len, ga.len]; exact h3) (Reps.flat k.toNat ga)
      exact q _ _ _ _ _ h4 s2 k2 r2
  · exact h.elim) ha hb
theorem qrepM (ha : QE X W a wa) (hb : QE X W b wb) : QE X W (.BinOp a .Mult b pos) (wOp fRepM wa wb) := qop op_rep (by
  intro x y vx vy F H M R Q s rx ry h q
  unfold fRepM at h
  split at h
  · rename_i k
    cases e1 : asP x M with
    | none => rw [e1] at h; exact h.elim
    | some xs =>
      rw [e1] at h
      obtain ⟨a, vs, ea, ha, za, ga⟩ := rep_P s rx e1
      cases ry
      obtain ⟨⟨h1, h2, h3⟩, h4⟩ := h
      refine ⟨a, k, vs, ea, rfl, ha, h1, h2, by rw [ga.len]; exact h3, fun p hp => ?_⟩
      obtain ⟨n1, k2⟩ := rep_new s hp (by rw [flat_len, ga.len]; exact h3) (Reps.flat k.toNat ga)
      exact q _ _ _ _ _ (h4 p n1) (Same.refl F) k2 rfl
  · exact h.elim) ha hb

/-! ### comparisons -/
theorem qlt (ha : QE X W a wa) (hb : QE X W b wb) : QE X W (.Compare a [.Lt] [b] pos) (wOp fLt wa wb) := qcmp op_lt (lInt0 fun _ _ _ => rfl) ha hb (nomark _)
theorem qle (ha : QE X W a wa) (hb : QE X W b wb) : QE X W (.Compare a [.LtE] [b] pos) (wOp fLe wa wb) := qcmp op_le (lInt0 fun _ _ _ => rfl) ha hb (nomark _)
theorem qgt (ha : QE X W a wa) (hb : QE X W b wb) : QE X W (.Compare a [.Gt] [b] pos) (wOp fGt wa wb) := qcmp op_gt (lInt0 fun _ _ _ => rfl) ha hb (nomark _)
theorem qge (ha : QE X W a wa) (hb : QE X W b wb) : QE X W (.Compare a [.GtE] [b] pos) (wOp fGe wa wb) := qcmp op_ge (lInt0 fun _ _ _ => rfl) ha hb (nomark _)
theorem tlt (ha : QE X W a wa) (hb : QE X W b wb) : QT X W (.Compare a [.Lt] [b] pos) (wB (wOp fLt wa wb)) := tcmp op_lt (lInt0 fun _ _ _ => rfl) ha hb (nomark _)
theorem tle (ha : QE X W a wa) (hb : QE X W b wb) : QT X W (.Compare a [.LtE] [b] pos) (wB (wOp fLe wa wb)) := tcmp op_le (lInt0 fun _ _ _ => rfl) ha hb (nomark _)
theorem tgt (ha : QE X W a wa) (hb : QE X W b wb) : QT X W (.Compare a [.Gt] [b] pos) (wB (wOp fGt wa wb)) := tcmp op_gt (lInt0 fun _ _ _ => rfl) ha hb (nomark _)
theorem tge (ha : QE X W a wa) (hb : QE X W b wb) : QT X W (.Compare a [.GtE] [b] pos) (wB (wOp fGe wa wb)) := tcmp op_ge (lInt0 fun _ _ _ => rfl) ha hb (nomark _)
theorem lLe {K : PySem.W.Frag} : LOp K (rI0 fun i j => .bl (decide (i ≤ j))) fLe := lInt0 fun _ _ _ => rfl
theorem lLt {K : PySem.W.Frag} : LOp K (rI0 fun i j => .bl (decide (i < j))) fLt := lInt0 fun _ _ _ => rfl
/-- is None -/
def isNon : D → Bool
  | .non => true
  | _ => false
def fIsN : OD := fun x y M R => match y with
  | .non => R (.bl (isNon x)) M
  | _ => False
def fNotN : OD := fun x y M R => match y with
  | .non => R (.bl (!isNon x)) M
  | _ => False
theorem isNon_v {K : PySem.W.Frag} {F : Hp} {x : D} {v : V} (r : Rep K F x v) : decide (v = .non) = isNon x := by
  cases x with
  | lst _ => obtain ⟨a, vs, e, _⟩ := r; subst e; rfl
  | tup _ => obtain ⟨a, vs, e, _⟩ := r; subst e; rfl
  | kt _ => obtain ⟨a, e, _⟩ := r; subst e; rfl
  | scr _ => obtain ⟨a, e, _⟩ := r; subst e; rfl
  | xc _ _ _ => obtain ⟨e, _⟩ := r; subst e; rfl
  | xv _ _ => obtain ⟨a, dx, w, e, _⟩ := r; subst e; rfl
  | _ => cases r; rfl
theorem lIsN {K : PySem.W.Frag} : LOp K (fun x y H Q => y = .non ∧ Q (.bl (decide (x = .non))) H) fIsN := by
  intro x y vx vy F H M R Q s rx ry h q
  cases y with
  | non => cases ry; exact ⟨rfl, by rw [isNon_v rx]; exact q _ _ _ _ _ h (Same.refl F) s rfl⟩
  | _ => exact h.elim
theorem lNotN {K : PySem.W.Frag} : LOp K (fun x y H Q => y = .non ∧ Q (.bl (!decide (x = .non))) H) fNotN := by
  intro x y vx vy F H M R Q s rx ry h q
  cases y with
  | non => cases ry; exact ⟨rfl, by rw [isNon_v rx]; exact q _ _ _ _ _ h (Same.refl F) s rfl⟩
  | _ => exact h.elim
theorem qisN (ha : QE X W a wa) (hb : QE X W b wb) : QE X W (.Compare a [.Is] [b] pos) (wOp fIsN wa wb) := qcmp op_isN lIsN ha hb (nomark _)
theorem qnotN (ha : QE X W a wa) (hb : QE X W b wb) : QE X W (.Compare a [.IsNot] [b] pos) (wOp fNotN wa wb) := qcmp op_notN lNotN ha hb (nomark _)
theorem tisN (ha : QE X W a wa) (hb : QE X W b wb) : QT X W (.Compare a [.Is] [b] pos) (wB (wOp fIsN wa wb)) := tcmp op_isN lIsN ha hb (nomark _)
theorem tnotN (ha : QE X W a wa) (hb : QE X W b wb) : QT X W (.Compare a [.IsNot] [b] pos) (wB (wOp fNotN wa wb)) := tcmp op_notN lNotN ha hb (nomark _)
/-- is True, is False -/
def fIsB : OD := fun x y M R => match x, y with
  | .bl b, .bl c => R (.bl (decide (b = c))) M
  | _, _ => False
def fNotB : OD := fun x y M R => match x, y with
  | .bl b, .bl c => R (.bl (!decide (b = c))) M
  | _, _ => False
theorem lIsB {K : PySem.W.Frag} : LOp K rIsB fIsB := by
  intro x y vx vy F H M R Q s rx ry h q
  unfold fIsB at h
  split at h
  · cases rx; cases ry; exact ⟨_, _, rfl, rfl, q _ _ _ _ _ h (Same.refl F) s rfl⟩
  · exact h.elim
theorem lNotB {K : PySem.W.Frag} : LOp K rNotB fNotB := by
  intro x y vx vy F H M R Q s rx ry h q
  unfold fNotB at h
  split at h
  · cases rx; cases ry; exact ⟨_, _, rfl, rfl, q _ _ _ _ _ h (Same.refl F) s rfl⟩
  · exact h.elim
theorem qisB (ha : QE X W a wa) (hb : QE X W b wb) : QE X W (.Compare a [.Is] [b] pos) (wOp fIsB wa wb) := qcmp op_isBl lIsB ha hb (nomark _)
theorem tisB (ha : QE X W a wa) (hb : QE X W b wb) : QT X W (.Compare a [.Is] [b] pos) (wB (wOp fIsB wa wb)) := tcmp op_isBl lIsB ha hb (nomark _)
theorem qnotB (ha : QE X W a wa) (hb : QE X W b wb) : QE X W (.Compare a [.IsNot] [b] pos) (wOp fNotB wa wb) := qcmp op_notBl lNotB ha hb (nomark _)
theorem tnotB (ha : QE X W a wa) (hb : QE X W b wb) : QT X W (.Compare a [.IsNot] [b] pos) (wB (wOp fNotB wa wb)) := tcmp op_notBl lNotB ha hb (nomark _)

/-! ### == and != -/
mutual
def pyD : D → PyData
  | .non => .none
  | .bl b => .bool b
  | .int i => .int i
  | .str x => .str x
  | .lst ds => .list (pyDs ds)
  | .tup ds => .tuple (pyDs ds)
  | .kt k => .tuple (k.map fun z => match z with
    | .inl i => PyData.int i
    | .inr x => PyData.str x)
  | .scr ns => .list (ns.map PyData.int)
  | .ref _ => .none
  | .ty _ => .none
  | .xc _ _ _ => .none
  | .xv _ _ => .none
def pyDs : List D → List PyData
  | [] => []
  | d :: ds => pyD d :: pyDs ds
end
mutual
def tree : D → Bool
  | .ref _ => false
  | .ty _ => false
  | .xc _ _ _ => false
  | .xv _ _ => false
  | .lst ds => trees ds
  | .tup ds => trees ds
  | _ => true
def trees : List D → Bool
  | [] => true
  | d :: ds => tree d && trees ds
end
theorem dpInts {K : PySem.W.Frag} {F : Hp} : ∀ (ns : List Int), DpAll K F (ns.map V.int) (ns.map PyData.int)
  | [] => .nil
  | n :: r => .cons (.int n) (dpInts r)
theorem dpKeys {K : PySem.W.Frag} {F : Hp} : ∀ (ks : List Key), DpAll K F (ks.map kV) (ks.map fun z => match z with
    | .inl i => PyData.int i
    | .inr x => PyData.str x)
  | [] => .nil
  | .inl n :: r => .cons (.int n) (dpKeys r)
  | .inr n :: r => .cons (.str n) (dpKeys r)
mutual
theorem dpOf {K : PySem.W.Frag} {F : Hp} : ∀ (d : D) (v : V), Rep K F d v → tree d = true → Dp K F v (pyD d)
  | .non, _, r, _ => by cases r; exact .non
  | .bl b, _, r, _ => by cases r; exact .bl b
  | .int b, _, r, _ => by cases r; exact .int b
  | .str b, _, r, _ => by cases r; exact .str b
  | .lst ds, _, ⟨a, vs, e, h, _, g⟩, t => by subst e; exact .lst (.of h) (dpsOf ds vs g t)
  | .tup ds, _, ⟨a, vs, e, h, _, g⟩, t => by subst e; exact .tup h (dpsOf ds vs g t)
  | .kt k, _, ⟨a, e, h, _⟩, t => by subst e; exact .tup (.of h) (dpKeys k)
  | .scr k, _, ⟨a, e, h, _⟩, t => by subst e; exact .lst h (dpInts k)
  | .ref _, _, _, t => by cases t
  | .ty _, _, _, t => by cases t
  | .xc _ _ _, _, _, t => by cases t
  | .xv _ _, _, _, t => by cases t
theorem dpsOf {K : PySem.W.Frag} {F : Hp} : ∀ (ds : List D) (vs : List V), Reps K F ds vs → trees ds = true → DpAll K F vs (pyDs ds)
  | [], _, r, _ => by cases r; exact .nil
  | d :: ds, _, ⟨v, r, e, h1, h2⟩, t => by
    subst e
    have t' := Bool.and_eq_true_iff.mp t
    exact .cons (dpOf d v h1 t'.1) (dpsOf ds r h2 t'.2)
end
mutual
theorem Dp.mono {K : PySem.W.Frag} {F F' : Hp} (s : Same F F') : ∀ (p : PyData) (v : V), Dp K F v p → Dp K F' v p
  | .none, _, h => by cases h; exact .non
  | .bool _, _, h => by cases h; exact .bl _
  | .int _, _, h => by cases h; exact .int _
  | .str _, _, h => by cases h; exact .str _
  | .list ds, _, h => by
    cases h with
    | lst a b => exact .lst (s.seq a) (DpAll.mono s ds _ b)
  | .tuple ds, _, h => by
    cases h with
    | tup a b => exact .tup (sameT s a) (DpAll.mono s ds _ b)
  | .dict _, _, h => by cases h
theorem DpAll.mono {K : PySem.W.Frag} {F F' : Hp} (s : Same F F') : ∀ (p : List PyData) (v : List V), DpAll K F v p → DpAll K F' v p
  | [], _, h => by cases h; exact .nil
  | d :: ds, _, h => by
    cases h with
    | cons a b => exact .cons (Dp.mono s d _ a) (DpAll.mono s ds _ b)
end
/-- what may be compared whole -/
def cmpOk (d : D) : Prop := tree d = true ∧ SeqAt.shaped (pyD d) = true
def fEq : OD := fun x y M R => match x, y with
  | .int i, .int j => R (.bl (decide (i = j))) M
  | .str i, .str j => R (.bl (decide (i = j))) M
  | .bl i, .bl j => R (.bl (decide (i = j))) M
  | x, y => cmpOk x ∧ cmpOk y ∧ R (.bl (PyData.eqv (pyD x) (pyD y))) M
def fNe : OD := fun x y M R => match x, y with
  | .int i, .int j => R (.bl (!decide (i = j))) M
  | .str i, .str j => R (.bl (!decide (i = j))) M
  | .bl i, .bl j => R (.bl (!decide (i = j))) M
  | x, y => cmpOk x ∧ cmpOk y ∧ R (.bl (!PyData.eqv (pyD x) (pyD y))) M
theorem vdec {i j : Int} : decide (V.int i = V.int j) = decide (i = j) := by simp
theorem lEq {K : PySem.W.Frag} : LOp K (fun x y H Q => rEq x y H Q ∨ rEqD K x y H Q) fEq := by
  intro x y vx vy F H M R Q s rx ry h q
  unfold fEq at h
  split at h
  · cases rx; cases ry
    exact .inl ⟨rfl, by simpa using q _ _ _ _ _ h (Same.refl F) s rfl⟩
  · cases rx; cases ry
    exact .inl ⟨rfl, by simpa using q _ _ _ _ _ h (Same.refl F) s rfl⟩
  · cases rx; cases ry
    exact .inl ⟨rfl, by simpa using q _ _ _ _ _ h (Same.refl F) s rfl⟩
  · obtain ⟨⟨t1, s1⟩, ⟨t2, s2⟩, h⟩ := h
    exact .inr ⟨_, _, Dp.mono s.sub _ _ (dpOf _ _ rx t1), Dp.mono s.sub _ _ (dpOf _ _ ry t2), s1, s2, q _ _ _ _ _ h (Same.refl F) s rfl⟩
theorem lNe {K : PySem.W.Frag} : LOp K (fun x y H Q => rNe x y H Q ∨ rNeD K x y H Q) fNe := by
  intro x y vx vy F H M R Q s rx ry h q
  unfold fNe at h
  split at h
  · cases rx; cases ry
    exact .inl ⟨rfl, by simpa using q _ _ _ _ _ h (Same.refl F) s rfl⟩
  · cases rx; cases ry
    exact .inl ⟨rfl, by simpa using q _ _ _ _ _ h (Same.refl F) s rfl⟩
  · cases rx; cases ry
    exact .inl ⟨rfl, by simpa using q _ _ _ _ _ h (Same.refl F) s rfl⟩
  · obtain ⟨⟨t1, s1⟩, ⟨t2, s2⟩, h⟩ := h
    exact .inr ⟨_, _, Dp.mono s.sub _ _ (dpOf _ _ rx t1), Dp.mono s.sub _ _ (dpOf _ _ ry t2), s1, s2, q _ _ _ _ _ h (Same.refl F) s rfl⟩
theorem qeq {k : Nat} (hr : Room k X.A) (ha : QE X W a wa) (hb : QE X W b wb) : QE X W (.Compare a [.Eq] [b] pos) (wOp fEq wa wb) := qcmp (op_eq.or (op_eqD hr.units)) lEq ha hb (nomark _)
theorem qne {k : Nat} (hr : Room k X.A) (ha : QE X W a wa) (hb : QE X W b wb) : QE X W (.Compare a [.NotEq] [b] pos) (wOp fNe wa wb) := qcmp (op_ne.or (op_neD hr.units)) lNe ha hb (nomark _)
theorem teq {k : Nat} (hr : Room k X.A) (ha : QE X W a wa) (hb : QE X W b wb) : QT X W (.Compare a [.Eq] [b] pos) (wB (wOp fEq wa wb)) := tcmp (op_eq.or (op_eqD hr.units)) lEq ha hb (nomark _)
theorem tne {k : Nat} (hr : Room k X.A) (ha : QE X W a wa) (hb : QE X W b wb) : QT X W (.Compare a [.NotEq] [b] pos) (wB (wOp fNe wa wb)) := tcmp (op_ne.or (op_neD hr.units)) lNe ha hb (nomark _)
end
end DL

set_option Elab.async false
set_option backward.match.sparseCases false
set_option linter.all false
set_option maxRecDepth 100000
set_option maxHeartbeats 4000000
/-! DL4: subscripts, slices, built-ins. -/
namespace DL
open PySem PySem.Spec PyProof.Rows L2

section
variable {K : PySem.W.Frag} {F F' H H' : Hp} {M M' : Mem} {d : D} {v : V} {ds : List D}
theorem Reps.at {ds : List D} {vs : List V} (g : Reps K F ds vs) {i : Int} (e : atI ds i = some d) : ∃ v, atI vs i = some v ∧ Rep K F d v := by
  unfold atI at e ⊢
  rw [g.len]
  cases q : ixN ds.length i with
  | none => rw [q] at e; cases e
  | some j => rw [q] at e; exact g.get j d e
theorem Reps.cut {ds : List D} {vs : List V} (g : Reps K F ds vs) (lo hi : Option Int) : Reps K F ((ds.drop (HT.sIx ds.length 0 lo)).take (HT.sIx ds.length ds.length hi - HT.sIx ds.length 0 lo)) (cutV vs lo hi) := by
  unfold cutV
  rw [g.len]
  exact (g.drop _).take _
end
/-- xs[lo:hi] -/
def cutD {α : Type} (xs : List α) (lo hi : Option Int) : List α := (xs.drop (HT.sIx xs.length 0 lo)).take (HT.sIx xs.length xs.length hi - HT.sIx xs.length 0 lo)
theorem cutD_le {α : Type} (xs : List α) (lo hi : Option Int) : (cutD xs lo hi).length ≤ xs.length := by
  unfold cutD; rw [List.length_take, List.length_drop]; omega
section
variable {X : Cx} {W : WX} {a b e : Expr} {pos : Pos} {wa wb we : WE}
/-- x[i] of a list, a tuple, a text -/
def fIx : OD := fun x y M R => match y with
  | .int i => (match asQ x M with
    | some xs => (match atI xs i with
      | some d => R d M
      | none => False)
    | none => (match x with
      | .str z => z.length ≤ sizeLine ∧ (match atI z.cps.toList i with
        | some c => R (.str ⟨#[c]⟩) M
        | none => False)
      | _ => False))
  | _ => False
theorem lIx {K : PySem.W.Frag} : LOp K (rIx K) fIx := by
  intro x y vx vy F H M R Q s rx ry h q
  unfold fIx at h
  split at h
  · rename_i i
    cases ry
    cases e1 : asQ x M with
    | some xs =>
      rw [e1] at h
      cases e2 : atI xs i with
      | none => simp only [e2] at h
      | some d =>
        simp only [e2] at h
        obtain ⟨a, vs, ea, ha, za, ga⟩ := rep_Q s rx e1
        obtain ⟨v, hv, rv⟩ := ga.at e2
        rcases ha with ha | ha
        · exact .inl ⟨a, vs, i, v, ea, rfl, ha, hv, q _ _ _ _ _ h (Same.refl F) s rv⟩
        · exact .inr (.inl ⟨a, vs, i, v, ea, rfl, ha, hv, q _ _ _ _ _ h (Same.refl F) s rv⟩)
    | none =>
      rw [e1] at h
      cases x with
      | str z =>
        obtain ⟨hz, h⟩ := h
        cases rx
        cases e2 : atI z.cps.toList i with
        | none => simp only [e2] at h
        | some c =>
          simp only [e2] at h
          exact .inr (.inr ⟨z, i, c, rfl, rfl, hz, e2, q _ _ _ _ _ h (Same.refl F) s rfl⟩)
      | _ => exact h.elim
  · exact h.elim
theorem qix (ha : QE X W a wa) (hb : QE X W b wb) (hs : PlainIx b := by exact fun _ _ => rfl) : QE X W (.Subscript a b pos) (wOp fIx wa wb) :=
  pe_imp (pe_ix ix_seq ha hb hs) fun _ _ _ h => lop lIx h

/-- an end of a slice -/
abbrev WO := GE → Mem → (Option Int → Mem → Prop) → DX → Prop
def wNoP : WO := fun _ M R _ => R none M
def wP (w : WE) : WO := fun Γ M R RX => w Γ M (fun d M' => match d with
  | .int i => R (some i) M'
  | _ => False) RX
def lO (K : PySem.W.Frag) (W : WX) (w : WO) : TO := fun σ H Q => ∃ F Γ M R RX, SOk K F H M ∧ REnv K F Γ σ ∧ w Γ M R RX ∧ (∀ b M' F' H', R b M' → Same F F' → SOk K F' H' M' → Q b H') ∧ RXok K W F σ RX
theorem po_imp {X : Cx} {e : Option Expr} {t t' : TO} (h : PO X e t) (i : ∀ σ H Q, t' σ H Q → t σ H Q) : PO X e t' := ⟨fun p s σ H Q I z => h.run p s σ H Q I (i _ _ _ z)⟩
theorem onone : PO X none (lO X.K W wNoP) := po_imp po_none fun σ H Q ⟨F, Γ, M, R, RX, s, e, w, hq, hx⟩ => hq _ _ _ _ w (Same.refl F) s
theorem osome (h : QE X W e we) : PO X (some e) (lO X.K W (wP we)) := po_imp (po_some h) fun σ H Q ⟨F, Γ, M, R, RX, s, e, w, hq, hx⟩ => ⟨F, Γ, M, _, RX, s, e, w, fun d M1 F1 H1 v h1 s1 k1 r1 => by
  cases d with
  | int i => cases r1; exact ⟨i, rfl, hq _ _ _ _ h1 s1 k1⟩
  | _ => exact h1.elim, hx⟩
/-- x[lo:hi] -/
def fSl (x : D) (lo hi : Option Int) (M : Mem) (R : DK) : Prop := match asL x M with
  | some xs => R (.lst (cutD xs lo hi)) M
  | none => (match asT x with
    | some xs => R (.tup (cutD xs lo hi)) M
    | none => (match x with
      | .str z => z.length ≤ sizeLine ∧ R (.str (cutS z lo hi)) M
      | _ => False))
def wSl (we : WE) (lo hi : WO) : WE := fun Γ M R RX => we Γ M (fun d M1 => lo Γ M1 (fun i M2 => hi Γ M2 (fun j M3 => fSl d i j M3 R) RX) RX) RX
theorem cutV_le (xs : List V) (lo hi : Option Int) : (cutV xs lo hi).length ≤ xs.length := by
  unfold cutV; rw [List.length_take, List.length_drop]; omega
theorem lSl {K : PySem.W.Frag} {x : D} {vx : V} {lo hi : Option Int} {F H : Hp} {M : Mem} {R : DK} {Q : VK} (s : SOk K F H M) (rx : Rep K F x vx) (h : fSl x lo hi M R)
    (q : ∀ d M' F' H' v, R d M' → Same F F' → SOk K F' H' M' → Rep K F' d v → Q v H') : rSlL K vx lo hi H Q ∨ rSlA K vx lo hi H Q ∨ rSlS vx lo hi H Q := by
  unfold fSl at h
  cases e1 : asL x M with
  | some xs =>
    rw [e1] at h
    obtain ⟨a, vs, ea, ha, za, ga⟩ := rep_L s rx e1
    refine .inl ⟨a, vs, ea, ha, fun p hp => ?_⟩
    obtain ⟨F2, s2, k2, r2⟩ := rep_lst s hp (Nat.le_trans (cutV_le _ _ _) za) (ga.cut lo hi)
    exact q _ _ _ _ _ h s2 k2 r2
  | none =>
    rw [e1] at h
    cases e2 : asT x with
    | some xs =>
      simp only [e2] at h
      obtain ⟨a, vs, ea, ha, za, ga⟩ := rep_TF rx e2
      refine .inr (.inl ⟨a, vs, ea, sameT s.sub ha, fun z => ?_, fun _ p hp => ?_⟩)
      · have e3 : cutV vs lo hi = vs := by
          unfold cutV
          rw [z.1, z.2, List.drop_zero, Nat.sub_zero, List.take_length]
        have g := ga.cut lo hi
        rw [e3] at g
        exact q _ _ _ _ _ h (Same.refl F) s ⟨a, vs, rfl, ha, za, g⟩
      · obtain ⟨F2, s2, k2, r2⟩ := rep_tup s hp (Nat.le_trans (cutV_le _ _ _) za) (ga.cut lo hi)
        exact q _ _ _ _ _ h s2 k2 r2
    | none =>
      simp only [e2] at h
      cases x with
      | str z => cases rx; exact .inr (.inr ⟨z, rfl, h.1, q _ _ _ _ _ h.2 (Same.refl F) s rfl⟩)
      | _ => exact h.elim
theorem qsl {lo hi : Option Expr} {wl wh : WO} {p2 : Pos} (he : QE X W e we) (hl : PO X lo (lO X.K W wl)) (hh : PO X hi (lO X.K W wh)) : QE X W (.Subscript e (.Slice lo hi none p2) pos) (wSl we wl wh) :=
  pe_imp (pe_slice (sl_list.or (sl_tupA.or sl_str)) he hl hh) fun σ H Q ⟨F, Γ, M, R, RX, s, e, w, hq, hx⟩ => ⟨F, Γ, M, _, RX, s, e, w, fun d M1 F1 H1 v h1 s1 k1 r1 =>
    ⟨F1, Γ, M1, _, RX, k1, e.mono s1, h1, fun i M2 F2 H2 h2 s2 k2 =>
      ⟨F2, Γ, M2, _, RX, k2, e.mono (s1.trans s2), h2, fun j M3 F3 H3 h3 s3 k3 =>
        lSl k3 (Rep.mono (s2.trans s3) _ _ r1) h3 fun d4 M4 F4 H4 v4 h4 s4 k4 r4 => hq _ _ _ _ _ h4 (((s1.trans s2).trans s3).trans s4) k4 r4,
        hx.mono (s1.trans s2)⟩, hx.mono s1⟩, hx⟩
/-- xs[::-1] -/
def wRev (we : WE) : WE := fun Γ M R RX => we Γ M (fun d M1 => match asL d M1 with
  | some xs => R (.lst xs.reverse) M1
  | none => False) RX
theorem qrev {k : Nat} {p1 p2 p3 : Pos} (he : QE X W e we) : QE X W (.Subscript e (.Slice none none (some (.UnaryOp .USub (.Constant (.int 1) k p1) p2)) p3) pos) (wRev we) :=
  pe_imp (pe_revL he) fun σ H Q ⟨F, Γ, M, R, RX, s, e, w, hq, hx⟩ => ⟨F, Γ, M, _, RX, s, e, w, fun d M1 F1 H1 v h1 s1 k1 r1 => by
    cases e1 : asL d M1 with
    | none => simp only [e1] at h1
    | some xs =>
      simp only [e1] at h1
      obtain ⟨a, vs, ea, ha, za, ga⟩ := rep_L k1 r1 e1
      refine ⟨a, vs, ea, ha, fun p hp => ?_⟩
      obtain ⟨F2, s2, k2, r2⟩ := rep_lst k1 hp (by rw [List.length_reverse]; exact za) ga.reverse
      exact hq _ _ _ _ _ h1 (s1.trans s2) k2 r2, hx⟩

/-! ### built-ins by name -/
abbrev OC := List D → Mem → DK → Prop
def LCall (K : PySem.W.Frag) (r : List V → Hp → VK → Prop) (f : OC) : Prop := ∀ ds vs F H M R Q, SOk K F H M → Reps K F ds vs → f ds M R →
  (∀ d M' F' H' v, R d M' → Same F F' → SOk K F' H' M' → Rep K F' d v → Q v H') → r vs H Q
def wCB (f : OC) (t : WA) : WE := fun Γ M R RX => t Γ M (fun ds M1 => f ds M1 R) RX
variable {es : List Expr} {tr : WA} {n : Nat} {x : Str} {p : Pos} {id T : String}
theorem lcb {r : List V → Hp → VK → Prop} {f : OC} (hl : LCall X.K r f) {σ : L2.St} {H : Hp} {Q : VK} (h : lE X.K W (wCB f tr) σ H Q) : tCB r (lA X.K W n tr) σ H Q := by
  obtain ⟨F, Γ, M, R, RX, s, e, w, hq, hx⟩ := h
  refine ⟨F, Γ, M, _, RX, s, e, w, fun ds M1 F1 H1 vs h1 _ s1 k1 r1 => ?_, hx⟩
  exact hl ds vs F1 H1 M1 R Q k1 r1 h1 fun d3 M3 F3 H3 v3 h3 s3 k3 r3 => hq _ _ _ _ _ h3 (s1.trans s3) k3 r3
theorem qcallB {r : List V → Hp → VK → Prop} {f : OC} (hc : CallR X (.builtin id) r) (hl : LCall X.K r f) (hg : Gl X x) (hm : X.mg x = none) (hv : bootBuiltins x = some (.builtin id)) (ha : QA X W (e :: es) n tr)
    (hn : x ≠ "__name__" := by decide) (hdb : (x == ("__debug__" : Str)) = false := by decide) (he : starEach (e :: es) X.env = (false, eval e X.env) :: starEach es X.env := by rfl) (hpl : (backTo pos (starEach es X.env)).any (·.1) = false := by rfl) : QE X W (.Call (.Name x p) (e :: es) [] pos) (wCB f tr) :=
  pe_imp (pe_callB hc hg hm hv ha hn hdb he hpl) fun _ _ _ h => lcb hl h
theorem qcallTy {r : List V → Hp → VK → Prop} {f : OC} (hc : CallR X (.type T) r) (hl : LCall X.K r f) (hg : Gl X x) (hm : X.mg x = none) (hv : bootBuiltins x = some (.type T)) (ha : QA X W (e :: es) n tr)
    (hn : x ≠ "__name__" := by decide) (hdb : (x == ("__debug__" : Str)) = false := by decide) (he : starEach (e :: es) X.env = (false, eval e X.env) :: starEach es X.env := by rfl) (hpl : (backTo pos (starEach es X.env)).any (·.1) = false := by rfl) : QE X W (.Call (.Name x p) (e :: es) [] pos) (wCB f tr) :=
  pe_imp (pe_callTy hc hg hm hv ha hn hdb he hpl) fun _ _ _ h => lcb hl h

theorem reps1 {K : PySem.W.Frag} {F : Hp} {d : D} {vs : List V} (r : Reps K F [d] vs) : ∃ v, vs = [v] ∧ Rep K F d v := by
  obtain ⟨v, r', e, h1, h2⟩ := r; cases h2; exact ⟨v, e, h1⟩
theorem reps2 {K : PySem.W.Frag} {F : Hp} {d d' : D} {vs : List V} (r : Reps K F [d, d'] vs) : ∃ v v', vs = [v, v'] ∧ Rep K F d v ∧ Rep K F d' v' := by
  obtain ⟨v, r', e, h1, u, r2, e2, h2, h3⟩ := r; cases h3; subst e2; exact ⟨v, u, e, h1, h2⟩
def cLen : OC := fun ds M R => match ds with
  | [d] => (match asQ d M with
    | some xs => R (.int (xs.length : Int)) M
    | none => (match d with
      | .str z => z.length ≤ sizeLine ∧ R (.int (z.length : Int)) M
      | .ref a => (match M a with
        | some (.dK kvs) => R (.int (kvs.length : Int)) M
        | some (.dT kvs) => R (.int (kvs.length : Int)) M
        | _ => False)
      | _ => False))
  | _ => False
theorem call_lenG : CallR X (.builtin "len") (fun xs H Q => (∃ x n, xs = [x] ∧ LenV X.K x H n ∧ Q (.int n) H) ∨ (∃ a kvs, xs = [V.ref a] ∧ H a = some (.dK kvs) ∧ Q (.int kvs.length) H) ∨ (∃ (p : Addr) (kvs : List (List Key × V)), xs = [.ref p] ∧ H p = some (.dT kvs) ∧ Q (.int ((kvs.length : Nat) : Int)) H)) := by
  intro pins s σ H xs us Q I r h
  rcases h with h | h | h
  · exact call_len pins s σ H xs us Q I r h
  · exact call_lenD pins s σ H xs us Q I r h
  · exact call_len_dT pins s σ H xs us Q I r h
theorem lLen {K : PySem.W.Frag} : LCall K (fun xs H Q => (∃ x n, xs = [x] ∧ LenV K x H n ∧ Q (.int n) H) ∨ (∃ a kvs, xs = [V.ref a] ∧ H a = some (.dK kvs) ∧ Q (.int kvs.length) H) ∨ (∃ (p : Addr) (kvs : List (List Key × V)), xs = [.ref p] ∧ H p = some (.dT kvs) ∧ Q (.int ((kvs.length : Nat) : Int)) H)) cLen := by
  intro ds vs F H M R Q s r h q
  unfold cLen at h
  split at h
  · rename_i d
    obtain ⟨v, rfl, rv⟩ := reps1 r
    cases e1 : asQ d M with
    | some xs =>
      rw [e1] at h
      obtain ⟨a, vs, ea, ha, za, ga⟩ := rep_Q s rv e1
      subst ea
      refine .inl ⟨.ref a, vs.length, rfl, ?_, ?_⟩
      · rcases ha with ha | ha
        · exact .inl ⟨vs, ha, rfl⟩
        · exact .inr ⟨vs, ha, rfl⟩
      · rw [ga.len]; exact q _ _ _ _ _ h (Same.refl F) s rfl
    | none =>
      rw [e1] at h
      cases d with
      | str z => cases rv; exact .inl ⟨.str z, z.length, rfl, ⟨h.1, rfl⟩, q _ _ _ _ _ h.2 (Same.refl F) s rfl⟩
      | ref a =>
        cases rv
        cases e2 : M a with
        | none => simp only [e2] at h
        | some mo =>
          cases mo with
          | dK kvs =>
            simp only [e2] at h
            obtain ⟨_, vk, hk, rk⟩ := s.mem a _ e2
            exact .inr (.inl ⟨a, vk, rfl, hk, by rw [rk.len]; exact q _ _ _ _ _ h (Same.refl F) s rfl⟩)
          | dT kvs =>
            simp only [e2] at h
            obtain ⟨_, vk, hk, rk⟩ := s.mem a _ e2
            exact .inr (.inr ⟨a, vk, rfl, hk, by rw [rk.len]; exact q _ _ _ _ _ h (Same.refl F) s rfl⟩)
          | lst _ => simp only [e2] at h
          | fK _ _ _ => simp only [e2] at h
          | ins _ _ => simp only [e2] at h
      | _ => exact h.elim
  · exact h.elim
/-- one int -/
def cI (C : Int → Prop) (g : Int → D) : OC := fun ds M R => match ds with
  | [.int i] => C i ∧ R (g i) M
  | _ => False
abbrev cAbs : OC := fun ds M R => match ds with
  | [.int i] => R (.int (if i < 0 then -i else i)) M
  | _ => False
theorem lAbs {K : PySem.W.Frag} : LCall K (fun xs H Q => ∃ i, xs = [.int i] ∧ Q (.int (if i < 0 then -i else i)) H) cAbs := by
  intro ds vs F H M R Q s r h q
  unfold cAbs at h
  split at h
  · obtain ⟨v, rfl, rv⟩ := reps1 r
    cases rv
    exact ⟨_, rfl, q _ _ _ _ _ h (Same.refl F) s rfl⟩
  · exact h.elim
def c2I (g : Int → Int → D) : OC := fun ds M R => match ds with
  | [.int i, .int j] => R (g i j) M
  | _ => False
theorem l2I {K : PySem.W.Frag} {g : Int → Int → D} {g' : Int → Int → V} (hg : ∀ F i j, Rep K F (g i j) (g' i j)) : LCall K (fun xs H Q => ∃ i j, xs = [.int i, .int j] ∧ Q (g' i j) H) (c2I g) := by
  intro ds vs F H M R Q s r h q
  unfold c2I at h
  split at h
  · obtain ⟨v, v', rfl, rv, rv'⟩ := reps2 r
    cases rv; cases rv'
    exact ⟨_, _, rfl, q _ _ _ _ _ h (Same.refl F) s (hg _ _ _)⟩
  · exact h.elim
/-- max, min of two ints or of a list of ints -/
def cMax : OC := fun ds M R => match ds with
  | [.int i, .int j] => R (.int (max i j)) M
  | [d] => ∃ ns, asL d M = some (ns.map D.int) ∧ ns ≠ [] ∧ ∀ m, m ∈ ns → (∀ y, y ∈ ns → y ≤ m) → R (.int m) M
  | _ => False
def cMin : OC := fun ds M R => match ds with
  | [.int i, .int j] => R (.int (min i j)) M
  | [d] => ∃ ns, asL d M = some (ns.map D.int) ∧ ns ≠ [] ∧ ∀ m, m ∈ ns → (∀ y, y ∈ ns → m ≤ y) → R (.int m) M
  | _ => False
theorem lMax {K : PySem.W.Frag} : LCall K (fun xs H Q => (∃ i j, xs = [.int i, .int j] ∧ Q (.int (if j > i then j else i)) H) ∨ rMax K xs H Q) cMax := by
  intro ds vs F H M R Q s r h q
  unfold cMax at h
  split at h
  · rename_i i j
    obtain ⟨v, v', rfl, rv, rv'⟩ := reps2 r
    cases rv; cases rv'
    refine .inl ⟨_, _, rfl, ?_⟩
    have e : (if j > i then j else i) = max i j := by split <;> omega
    rw [e]
    exact q _ _ _ _ _ h (Same.refl F) s rfl
  · rename_i d
    obtain ⟨v, rfl, rv⟩ := reps1 r
    obtain ⟨ns, e1, hne, h⟩ := h
    obtain ⟨a, vs, ea, ha, za, ga⟩ := rep_L s rv e1
    subst ea
    have e := ga.ints
    subst e
    exact .inr ⟨a, ns, rfl, ha, by cases ns with | nil => exact absurd rfl hne | cons _ _ => simp, fun m h1 h2 => q _ _ _ _ _ (h m h1 h2) (Same.refl F) s rfl⟩
  · exact h.elim
theorem lMin {K : PySem.W.Frag} : LCall K (fun xs H Q => (∃ i j, xs = [.int i, .int j] ∧ Q (.int (if j < i then j else i)) H) ∨ rMin K xs H Q) cMin := by
  intro ds vs F H M R Q s r h q
  unfold cMin at h
  split at h
  · rename_i i j
    obtain ⟨v, v', rfl, rv, rv'⟩ := reps2 r
    cases rv; cases rv'
    refine .inl ⟨_, _, rfl, ?_⟩
    have e : (if j < i then j else i) = min i j := by split <;> omega
    rw [e]
    exact q _ _ _ _ _ h (Same.refl F) s rfl
  · rename_i d
    obtain ⟨v, rfl, rv⟩ := reps1 r
    obtain ⟨ns, e1, hne, h⟩ := h
    obtain ⟨a, vs, ea, ha, za, ga⟩ := rep_L s rv e1
    subst ea
    have e := ga.ints
    subst e
    exact .inr ⟨a, ns, rfl, ha, by cases ns with | nil => exact absurd rfl hne | cons _ _ => simp, fun m h1 h2 => q _ _ _ _ _ (h m h1 h2) (Same.refl F) s rfl⟩
  · exact h.elim
def cInt : OC := fun ds M R => match ds with
  | [.int i] => R (.int i) M
  | [.bl b] => R (.int (if b = true then 1 else 0)) M
  | [.str x] => ∃ n, PySem.intText? x = some n ∧ x.length ≤ 640 ∧ R (.int n) M
  | _ => False
theorem lIntC {K : PySem.W.Frag} : LCall K (fun xs H Q => ((∃ i, xs = [.int i] ∧ Q (.int i) H) ∨ ∃ k, xs = [.bl k] ∧ Q (.int (if k then 1 else 0)) H) ∨ ∃ a n, xs = [.str a] ∧ PySem.intText? a = some n ∧ a.length ≤ 640 ∧ Q (.int n) H) cInt := by
  intro ds vs F H M R Q s r h q
  unfold cInt at h
  split at h
  · obtain ⟨v, rfl, rv⟩ := reps1 r
    cases rv
    exact .inl (.inl ⟨_, rfl, q _ _ _ _ _ h (Same.refl F) s rfl⟩)
  · obtain ⟨v, rfl, rv⟩ := reps1 r
    cases rv
    exact .inl (.inr ⟨_, rfl, q _ _ _ _ _ h (Same.refl F) s rfl⟩)
  · obtain ⟨v, rfl, rv⟩ := reps1 r
    cases rv
    obtain ⟨n, h1, h2, h⟩ := h
    exact .inr ⟨_, n, rfl, h1, h2, q _ _ _ _ _ h (Same.refl F) s rfl⟩
  · exact h.elim
def cStr : OC := fun ds M R => match ds with
  | [.int i] => i.natAbs.log2 < 1920 ∧ R (.str (toString i)) M
  | [.str x] => R (.str x) M
  | _ => False
theorem lStr {K : PySem.W.Frag} : LCall K (fun xs H Q => (∃ i : Int, xs = [.int i] ∧ i.natAbs.log2 < 1920 ∧ Q (.str (toString i)) H) ∨ ∃ a, xs = [.str a] ∧ Q (.str a) H) cStr := by
  intro ds vs F H M R Q s r h q
  unfold cStr at h
  split at h
  · obtain ⟨v, rfl, rv⟩ := reps1 r
    cases rv
    exact .inl ⟨_, rfl, h.1, q _ _ _ _ _ h.2 (Same.refl F) s rfl⟩
  · obtain ⟨v, rfl, rv⟩ := reps1 r
    cases rv
    exact .inr ⟨_, rfl, q _ _ _ _ _ h (Same.refl F) s rfl⟩
  · exact h.elim
/-- list(x): a tree; one of the store -/
def cList : OC := fun ds M R => match ds with
  | [d] => (match asQ d M with
    | some xs => R (.lst xs) M
    | none => False)
  | _ => False
def cListM : OC := fun ds M R => match ds with
  | [d] => (match asQ d M with
    | some xs => ∀ p, M p = none → R (.ref p) (mup M p (.lst xs))
    | none => False)
  | _ => False
theorem lList {K : PySem.W.Frag} : LCall K (fun xs H Q => ∃ p ys, xs = [.ref p] ∧ (SqL K H p ys ∨ SqT K H p ys) ∧ ∀ l, H l = none → Q (.ref l) (upd H l (.lst ys))) cList := by
  intro ds vs F H M R Q s r h q
  unfold cList at h
  split at h
  · rename_i d
    obtain ⟨v, rfl, rv⟩ := reps1 r
    cases e1 : asQ d M with
    | none => rw [e1] at h; exact h.elim
    | some xs =>
      rw [e1] at h
      obtain ⟨a, vs, ea, ha, za, ga⟩ := rep_Q s rv e1
      subst ea
      refine ⟨a, vs, rfl, ha, fun p hp => ?_⟩
      obtain ⟨F2, s2, k2, r2⟩ := rep_lst s hp za ga
      exact q _ _ _ _ _ h s2 k2 r2
  · exact h.elim
theorem lListM {K : PySem.W.Frag} : LCall K (fun xs H Q => ∃ p ys, xs = [.ref p] ∧ (SqL K H p ys ∨ SqT K H p ys) ∧ ∀ l, H l = none → Q (.ref l) (upd H l (.lst ys))) cListM := by
  intro ds vs F H M R Q s r h q
  unfold cListM at h
  split at h
  · rename_i d
    obtain ⟨v, rfl, rv⟩ := reps1 r
    cases e1 : asQ d M with
    | none => rw [e1] at h; exact h.elim
    | some xs =>
      rw [e1] at h
      obtain ⟨a, vs, ea, ha, za, ga⟩ := rep_Q s rv e1
      subst ea
      refine ⟨a, vs, rfl, ha, fun p hp => ?_⟩
      obtain ⟨n1, k2⟩ := rep_new s hp za ga
      exact q _ _ _ _ _ (h p n1) (Same.refl F) k2 rfl
  · exact h.elim
def cTuple : OC := fun ds M R => match ds with
  | [d] => (match asQ d M with
    | some xs => R (.tup xs) M
    | none => False)
  | _ => False
theorem rep_QF {K : PySem.W.Frag} {F H : Hp} {M : Mem} {d : D} {v : V} {ds : List D} (s : SOk K F H M) (r : Rep K F d v) (e : asQ d M = some ds) : ∃ a vs, v = .ref a ∧ vs.length ≤ sizeLine ∧ Reps K F ds vs ∧ (SqL K H a vs ∨ (SqT K H a vs ∧ Rep K F (.tup ds) (.ref a))) := by
  cases e1 : asT d with
  | some xs =>
    obtain ⟨a, vs, q, h, z, g⟩ := rep_TF r e1
    have e2 : xs = ds := by
      cases d with
      | tup _ => cases e1; cases e; rfl
      | kt _ => cases e1; cases e; rfl
      | _ => cases e1
    subst e2
    exact ⟨a, vs, q, z, g, .inr ⟨sameT s.sub h, a, vs, rfl, h, z, g⟩⟩
  | none =>
    have e2 : asL d M = some ds := by
      cases d with
      | tup _ => cases e1
      | kt _ => cases e1
      | _ => exact e
    obtain ⟨a, vs, q, h, z, g⟩ := rep_L s r e2
    exact ⟨a, vs, q, z, g, .inl h⟩
theorem lTuple {K : PySem.W.Frag} : LCall K (fun xs H Q => ∃ p ys, xs = [.ref p] ∧ ((SqL K H p ys ∧ ∀ l, H l = none → Q (.ref l) (upd H l (.tup ys))) ∨ (SqT K H p ys ∧ Q (.ref p) H))) cTuple := by
  intro ds vs F H M R Q s r h q
  unfold cTuple at h
  split at h
  · rename_i d
    obtain ⟨v, rfl, rv⟩ := reps1 r
    cases e1 : asQ d M with
    | none => rw [e1] at h; exact h.elim
    | some xs =>
      rw [e1] at h
      obtain ⟨a, vs, ea, za, ga, ha⟩ := rep_QF s rv e1
      subst ea
      rcases ha with ha | ⟨ha, rt⟩
      · refine ⟨a, vs, rfl, .inl ⟨ha, fun p hp => ?_⟩⟩
        obtain ⟨F2, s2, k2, r2⟩ := rep_tup s hp za ga
        exact q _ _ _ _ _ h s2 k2 r2
      · exact ⟨a, vs, rfl, .inr ⟨ha, q _ _ _ _ _ h (Same.refl F) s rt⟩⟩
  · exact h.elim
def cSum : OC := fun ds M R => match ds with
  | [d] => ∃ ns : List Int, asL d M = some (ns.map D.int) ∧ R (.int ns.sum) M
  | _ => False
theorem lSum {K : PySem.W.Frag} : LCall K (rSum K) cSum := by
  intro ds vs F H M R Q s r h q
  unfold cSum at h
  split at h
  · obtain ⟨v, rfl, rv⟩ := reps1 r
    obtain ⟨ns, e1, h⟩ := h
    obtain ⟨a, vs, ea, ha, za, ga⟩ := rep_L s rv e1
    subst ea
    have e := ga.ints
    subst e
    exact ⟨a, ns, rfl, ha, q _ _ _ _ _ h (Same.refl F) s rfl⟩
  · exact h.elim
def cAll : OC := fun ds M R => match ds with
  | [d] => ∃ bs : List Bool, asL d M = some (bs.map D.bl) ∧ R (.bl (bs.all (fun b => b))) M
  | _ => False
def cAny : OC := fun ds M R => match ds with
  | [d] => ∃ bs : List Bool, asL d M = some (bs.map D.bl) ∧ R (.bl (bs.any (fun b => b))) M
  | _ => False
theorem lAll {K : PySem.W.Frag} : LCall K (rAll K) cAll := by
  intro ds vs F H M R Q s r h q
  unfold cAll at h
  split at h
  · obtain ⟨v, rfl, rv⟩ := reps1 r
    obtain ⟨ns, e1, h⟩ := h
    obtain ⟨a, vs, ea, ha, za, ga⟩ := rep_L s rv e1
    subst ea
    have e := ga.bls
    subst e
    exact ⟨a, ns, rfl, ha, q _ _ _ _ _ h (Same.refl F) s rfl⟩
  · exact h.elim
theorem lAny {K : PySem.W.Frag} : LCall K (rAny K) cAny := by
  intro ds vs F H M R Q s r h q
  unfold cAny at h
  split at h
  · obtain ⟨v, rfl, rv⟩ := reps1 r
    obtain ⟨ns, e1, h⟩ := h
    obtain ⟨a, vs, ea, ha, za, ga⟩ := rep_L s rv e1
    subst ea
    have e := ga.bls
    subst e
    exact ⟨a, ns, rfl, ha, q _ _ _ _ _ h (Same.refl F) s rfl⟩
  · exact h.elim
def cDivmod : OC := fun ds M R => match ds with
  | [.int i, .int j] => (0 < j ∧ Builtin.divisionGoesByPylong i j = false) ∧ R (.tup [.int (i / j), .int (i % j)]) M
  | _ => False
theorem lDivmod {K : PySem.W.Frag} : LCall K (fun xs H Q => ∃ i j, xs = [.int i, .int j] ∧ CDivP i j ∧ ∀ p, H p = none → Q (.ref p) (upd H p (.tup [.int (i / j), .int (i % j)]))) cDivmod := by
  intro ds vs F H M R Q s r h q
  unfold cDivmod at h
  split at h
  · obtain ⟨v, v', rfl, rv, rv'⟩ := reps2 r
    cases rv; cases rv'
    refine ⟨_, _, rfl, h.1, fun p hp => ?_⟩
    obtain ⟨F2, s2, k2, r2⟩ := rep_tup (ds := [.int _, .int _]) s hp (by show 2 ≤ sizeLine; decide) ⟨_, _, rfl, rfl, _, _, rfl, rfl, rfl⟩
    exact q _ _ _ _ _ h.2 s2 k2 r2
  · exact h.elim

/-! ### isinstance -/
def tyN (d : D) (M : Mem) : Option String := match d with
  | .non => some "NoneType"
  | .bl _ => some "bool"
  | .int _ => some "int"
  | .str _ => some "str"
  | .lst _ => some "list"
  | .scr _ => some "list"
  | .tup _ => some "tuple"
  | .kt _ => some "tuple"
  | .ty _ => none
  | .xc _ _ _ => none
  | .xv _ _ => none
  | .ref a => (match M a with
    | some (.lst _) => some "list"
    | some (.dK _) => some "dict"
    | some (.dT _) => some "dict"
    | _ => none)
def isT (t c : String) : Bool := t == c || (t == "bool" && c == "int")
def tys : List String := ["NoneType", "bool", "int", "str", "list", "tuple", "dict"]
theorem kit_isT {K : PySem.W.Frag} {t c : String} (ht : t ∈ tys) (hc : c ∈ ["bool", "int", "str", "list", "tuple", "dict"]) : PySem.W.kitOne K (.type t) (.type c) = some (isT t c) := by
  simp only [tys, List.mem_cons, List.not_mem_nil, or_false] at ht hc
  rcases ht with rfl | rfl | rfl | rfl | rfl | rfl | rfl <;> rcases hc with rfl | rfl | rfl | rfl | rfl | rfl <;> kernel_rfl
theorem rep_ty {K : PySem.W.Frag} {F H : Hp} {M : Mem} {d : D} {v : V} {t : String} (s : SOk K F H M) (r : Rep K F d v) (e : tyN d M = some t) : TyX K H v (.type t) ∧ t ∈ tys := by
  have seqT : ∀ {a : Addr} {vs : List V}, SqT K H a vs → TyX K H (.ref a) (.type "tuple") := by
    intro a vs h
    rcases h with (h | ⟨o, h⟩) | ⟨o, its, n, h1, h2, _⟩
    · exact .base (.tup h)
    · exact .fTuple h
    · exact .kTuple h1 h2
  have seqL : ∀ {a : Addr} {vs : List V}, SqL K H a vs → TyX K H (.ref a) (.type "list") := by
    intro a vs h
    rcases h with (h | ⟨o, h⟩) | ⟨o, its, n, h1, h2, _⟩
    · exact .base (.lst h)
    · exact .base (.frz h)
    · exact .kList h1 h2
  cases d with
  | non => cases e; cases r; exact ⟨.base .non, by decide⟩
  | bl b => cases e; cases r; exact ⟨.base (.bl b), by decide⟩
  | int b => cases e; cases r; exact ⟨.base (.int b), by decide⟩
  | str b => cases e; cases r; exact ⟨.base (.str b), by decide⟩
  | ty b => cases e
  | xc _ _ _ => cases e
  | xv _ _ => cases e
  | lst ds => cases e; obtain ⟨a, vs, rfl, h, _⟩ := r; exact ⟨seqL (.of (s.sub _ _ h)), by decide⟩
  | scr ds => cases e; obtain ⟨a, rfl, h, _⟩ := r; exact ⟨seqL (s.sub.seq h), by decide⟩
  | tup ds => cases e; obtain ⟨a, vs, rfl, h, _⟩ := r; exact ⟨seqT (sameT s.sub h), by decide⟩
  | kt ds => cases e; obtain ⟨a, rfl, h, _⟩ := r; exact ⟨seqT (.of (s.sub _ _ h)), by decide⟩
  | ref a =>
    cases r
    cases e2 : M a with
    | none => simp [tyN, e2] at e
    | some mo =>
      have q := (s.mem a _ e2).2
      cases mo with
      | lst ds => simp [tyN, e2] at e; subst e; obtain ⟨vs, h, _⟩ := q; exact ⟨.base (.lst h), by decide⟩
      | dK ds => simp [tyN, e2] at e; subst e; obtain ⟨vs, h, _⟩ := q; exact ⟨.base (.dK h), by decide⟩
      | dT ds => simp [tyN, e2] at e; subst e; obtain ⟨vs, h, _⟩ := q; exact ⟨.base (.dT h), by decide⟩
      | fK _ _ _ => simp [tyN, e2] at e
      | ins C fs => simp [tyN, e2] at e
/-- isinstance(x, T), T a built-in class -/
def cIsi : OC := fun ds M R => match ds with
  | [x, .ty c] => c ∈ ["bool", "int", "str", "list", "tuple", "dict"] ∧ (match tyN x M with
    | some t => R (.bl (isT t c)) M
    | none => False)
  | _ => False
theorem lIsi {K : PySem.W.Frag} : LCall K (rIsi K) cIsi := by
  intro ds vs F H M R Q s r h q
  unfold cIsi at h
  split at h
  · rename_i x c
    obtain ⟨v, v', rfl, rv, rv'⟩ := reps2 r
    cases rv'
    obtain ⟨hc, h⟩ := h
    cases e : tyN x M with
    | none => rw [e] at h; exact h.elim
    | some t =>
      rw [e] at h
      obtain ⟨h1, h2⟩ := rep_ty s rv e
      exact ⟨v, .ty c, .type t, .type c, isT t c, rfl, .ty c, h1, kit_isT h2 hc, q _ _ _ _ _ h (Same.refl F) s rfl⟩
  · exact h.elim
theorem qty {x : Str} {n : String} {pos : Pos} (hg : Gl X x) (hm : X.mg x = none) (hv : bootBuiltins x = some (.type n)) (hn : x ≠ "__name__" := by decide) (hd : (x == ("__debug__" : Str)) = false := by decide) : QE X W (.Name x pos) (wC (.ty n)) :=
  qc (pe_bltn hg hm hv (v := .ty n) rfl hn hd) fun _ => rfl
/-- isinstance(x, (T1, T2)) -/
def wIsi2 (we : WE) (c1 c2 : String) : WE := fun Γ M R RX => we Γ M (fun x M1 => (c1 ∈ ["bool", "int", "str", "list", "tuple", "dict"] ∧ c2 ∈ ["bool", "int", "str", "list", "tuple", "dict"]) ∧ (match tyN x M1 with
    | some t => R (.bl (isT t c1 || isT t c2)) M1
    | none => False)) RX
theorem qisi2 {e1 e2 : Expr} {c1 c2 : String} {k : Nat} {p p2 : Pos} (hg : Gl X "isinstance") (hm : X.mg "isinstance" = none) (he : QE X W e we) (h1 : PE X e1 (tC (.ty c1))) (h2 : PE X e2 (tC (.ty c2)))
    (hs1 : starEach [e, .Tuple [e1, e2] k p2] X.env = (false, eval e X.env) :: starEach [.Tuple [e1, e2] k p2] X.env := by rfl) (hs2 : starEach [.Tuple [e1, e2] k p2] X.env = (false, eval (.Tuple [e1, e2] k p2) X.env) :: starEach [] X.env := by rfl)
    (hs3 : starEach [e1, e2] X.env = (false, eval e1 X.env) :: starEach [e2] X.env := by rfl) (hs4 : starEach [e2] X.env = (false, eval e2 X.env) :: starEach [] X.env := by rfl)
    (hpl : (backTo pos (starEach [.Tuple [e1, e2] k p2] X.env)).any (·.1) = false := by rfl) : QE X W (.Call (.Name "isinstance" p) [e, .Tuple [e1, e2] k p2] [] pos) (wIsi2 we c1 c2) :=
  pe_imp (pe_callB call_isiT hg hm (by decide +kernel) (pa_cons he (pa_cons (pe_tup (pa_cons h1 (pa_cons h2 pa_nil hs4) hs3)) pa_nil hs2) hs1) (he := hs1) (hpl := hpl)) fun σ H Q ⟨F, Γ, M, R, RX, s, e, w, hq, hx⟩ => ⟨F, Γ, M, _, RX, s, e, w, fun x M1 F1 H1 v h1 s1 k1 r1 => by
    obtain ⟨⟨i1, i2⟩, h1⟩ := h1
    refine ⟨by show 2 ≤ sizeLine; decide, fun tp htp => ?_⟩
    cases e : tyN x M1 with
    | none => rw [e] at h1; exact h1.elim
    | some t =>
      rw [e] at h1
      obtain ⟨k2, sF⟩ := k1.grow (o := .tup [.ty c1, .ty c2]) htp
      obtain ⟨g1, g2⟩ := rep_ty k2 (Rep.mono sF _ _ r1) e
      refine ⟨v, tp, _, .type t, [.type c1, .type c2], isT t c1 || isT t c2, rfl, upd_same, .cons (.ty c1) (.cons (.ty c2) .nil), g1, ?_, hq _ _ _ _ _ h1 (s1.trans sF) k2 rfl⟩
      have a1 := kit_isT (K := X.K) g2 i1
      have a2 := kit_isT (K := X.K) g2 i2
      unfold PySem.W.kitAny
      rw [a1]
      cases isT t c1 with
      | true => rfl
      | false =>
        show (match PySem.W.kitAny X.K (.type t) [.type c2] with | r => r) = _
        unfold PySem.W.kitAny
        rw [a2]
        cases isT t c2 with
        | true => rfl
        | false => rfl, hx⟩
end
end DL

set_option Elab.async false
set_option backward.match.sparseCases false
set_option linter.all false
set_option maxRecDepth 100000
set_option maxHeartbeats 4000000
/-! DL5: dicts, stores, methods of lists. -/
namespace DL
open PySem PySem.Spec PyProof.Rows L2

/-! ### dicts -/
section
variable {κ : Type} [DecidableEq κ]
def vget (kvs : List (κ × D)) (k : κ) : Option D := (kvs.find? fun kv => decide (kv.1 = k)).map (·.2)
def vput (kvs : List (κ × D)) (k : κ) (v : D) : List (κ × D) :=
  if (kvs.any fun kv => decide (kv.1 = k)) = true then kvs.map (fun kv => if kv.1 = k then (kv.1, v) else kv) else kvs ++ [(k, v)]
theorem vget_nil (k : κ) : vget ([] : List (κ × D)) k = none := rfl
theorem vget_cons (k j : κ) (v : D) (r : List (κ × D)) : vget ((j, v) :: r) k = if j = k then some v else vget r k := by
  by_cases e : j = k
  · simp [vget, e]
  · simp [vget, List.find?_cons, e]
theorem vget_any (k : κ) : ∀ kvs : List (κ × D), (kvs.any fun kv => decide (kv.1 = k)) = (vget kvs k).isSome
  | [] => rfl
  | (j, v) :: r => by
    rw [List.any_cons, vget_any k r, vget_cons]
    by_cases e : j = k <;> simp [e]
theorem vget_map (k j : κ) (y : D) : ∀ kvs : List (κ × D), vget (kvs.map fun kv => if kv.1 = k then (kv.1, y) else kv) j = (vget kvs j).map fun x => if j = k then y else x
  | [] => rfl
  | (i, v) :: r => by
    rw [List.map_cons]
    by_cases e : i = k
    · subst e
      rw [if_pos rfl, vget_cons, vget_cons, vget_map i j y r]
      by_cases h : i = j
      · subst h; simp
      · rw [if_neg h, if_neg h]
    · rw [if_neg e, vget_cons, vget_cons, vget_map k j y r]
      by_cases h : i = j
      · subst h; simp [e]
      · rw [if_neg h, if_neg h]
theorem vget_snoc (k j : κ) (y : D) : ∀ kvs : List (κ × D), vget kvs k = none → vget (kvs ++ [(k, y)]) j = if j = k then some y else vget kvs j
  | [], _ => by
    rw [List.nil_append, vget_cons, vget_nil]
    by_cases h : j = k
    · subst h; simp
    · rw [if_neg h, if_neg (Ne.symm h)]
  | (i, v) :: r, hn => by
    rw [vget_cons] at hn
    by_cases e : i = k
    · rw [if_pos e] at hn; cases hn
    · rw [if_neg e] at hn
      rw [List.cons_append, vget_cons, vget_cons, vget_snoc k j y r hn]
      by_cases h : i = j
      · subst h; simp [e]
      · rw [if_neg h, if_neg h]
theorem vget_put (kvs : List (κ × D)) (k j : κ) (y : D) : vget (vput kvs k y) j = if j = k then some y else vget kvs j := by
  unfold vput
  rw [vget_any]
  cases e : vget kvs k with
  | none =>
    rw [Option.isSome_none, if_neg (by decide), vget_snoc k j y kvs e]
  | some v =>
    rw [Option.isSome_some, if_pos rfl, vget_map]
    by_cases h : j = k
    · subst h; rw [e]; simp
    · simp [h]
theorem vput_len (kvs : List (κ × D)) (k : κ) (v : D) : (vput kvs k v).length ≤ kvs.length + 1 := by
  unfold vput
  split
  · rw [List.length_map]; omega
  · rw [List.length_append]; simp
theorem vput_new {kvs : List (κ × D)} {k : κ} (v : D) (h : vget kvs k = none) : vput kvs k v = kvs ++ [(k, v)] := by
  unfold vput
  rw [vget_any, h]; simp
variable {K : PySem.W.Frag} {F : Hp}
theorem RepKV.find {kvs : List (κ × D)} {vk : List (κ × V)} (k : κ) : RepKV K F kvs vk → (∀ d, vget kvs k = some d → ∃ v, valV vk k = some v ∧ Rep K F d v) ∧ (vget kvs k = none → valV vk k = none) := by
  induction kvs generalizing vk with
  | nil => intro h; cases h; exact ⟨fun d e => (by cases e), fun _ => rfl⟩
  | cons p r ih =>
    obtain ⟨j, x⟩ := p
    intro ⟨v, w, q, h1, h2⟩
    subst q
    obtain ⟨i1, i2⟩ := ih h2
    rw [vget_cons]
    by_cases e : j = k
    · rw [if_pos e, valV_pos (p := (j, v)) e]
      exact ⟨fun d z => (by cases z; exact ⟨v, rfl, h1⟩), fun z => (by cases z)⟩
    · rw [if_neg e, valV_neg (p := (j, v)) e]
      exact ⟨i1, i2⟩
theorem RepKV.any {kvs : List (κ × D)} {vk : List (κ × V)} (k : κ) : RepKV K F kvs vk → (vk.any fun kv => decide (kv.1 = k)) = (kvs.any fun kv => decide (kv.1 = k)) := by
  induction kvs generalizing vk with
  | nil => intro h; cases h; rfl
  | cons p r ih =>
    obtain ⟨j, x⟩ := p
    intro ⟨v, w, q, h1, h2⟩
    subst q
    rw [List.any_cons, List.any_cons, ih h2]
theorem RepKV.repl {kvs : List (κ × D)} {vk : List (κ × V)} (k : κ) {d : D} {v : V} (r : Rep K F d v) : RepKV K F kvs vk → RepKV K F (kvs.map fun kv => if kv.1 = k then (kv.1, d) else kv) (vk.map fun kv => if kv.1 = k then (kv.1, v) else kv) := by
  induction kvs generalizing vk with
  | nil => intro h; cases h; rfl
  | cons p q ih =>
    obtain ⟨j, x⟩ := p
    intro ⟨u, w, z, h1, h2⟩
    subst z
    rw [List.map_cons, List.map_cons]
    by_cases e : j = k
    · simp only [e, if_true]
      exact ⟨v, _, rfl, r, ih h2⟩
    · simp only [e, if_false]
      exact ⟨u, _, rfl, h1, ih h2⟩
theorem RepKV.snoc {kvs : List (κ × D)} {vk : List (κ × V)} (k : κ) {d : D} {v : V} (r : Rep K F d v) : RepKV K F kvs vk → RepKV K F (kvs ++ [(k, d)]) (vk ++ [(k, v)]) := by
  induction kvs generalizing vk with
  | nil => intro h; cases h; exact ⟨v, [], rfl, r, rfl⟩
  | cons p q ih =>
    obtain ⟨j, x⟩ := p
    intro ⟨u, w, z, h1, h2⟩
    subst z
    exact ⟨u, _, rfl, h1, ih h2⟩
theorem RepKV.put {kvs : List (κ × D)} {vk : List (κ × V)} (k : κ) {d : D} {v : V} (r : Rep K F d v) (h : RepKV K F kvs vk) : RepKV K F (vput kvs k d) (putK vk k v) := by
  unfold vput putK
  rw [h.any k]
  split
  · exact h.repl k r
  · exact h.snoc k r
end
/-- what the dict d holds at k -/
def dGet (d k : D) (M : Mem) : Option (Option D) := match d with
  | .ref a => (match M a with
    | some (.dK kvs) => (match dKey k with
      | some q => some (vget kvs q)
      | none => none)
    | some (.fK od vk kvs) => (match dKey k with
      | some q => some (vget kvs q)
      | none => none)
    | some (.dT kvs) => (match k with
      | .kt q => some (vget kvs q)
      | _ => none)
    | _ => none)
  | _ => none
def dPut (d k v : D) (M : Mem) (R : Mem → Prop) : Prop := match d with
  | .ref a => (match M a with
    | some (.dK kvs) => (match dKey k with
      | some q => kvs.length < sizeLine ∧ R (mup M a (.dK (vput kvs q v)))
      | none => False)
    | some (.dT kvs) => (match k with
      | .kt q => kvs.length < sizeLine ∧ R (mup M a (.dT (vput kvs q v)))
      | _ => False)
    | some (.lst xs) => (match k with
      | .int i => (match ixN xs.length i with
        | some j => R (mup M a (.lst (xs.set j v)))
        | none => False)
      | _ => False)
    | _ => False)
  | _ => False
theorem rep_key {K : PySem.W.Frag} {F : Hp} {d : D} {v : V} {q : Key} (r : Rep K F d v) (e : dKey d = some q) : v = kV q := by
  cases d with
  | int i => cases e; cases r; rfl
  | str i => cases e; cases r; rfl
  | _ => cases e
theorem rep_dGet {K : PySem.W.Frag} {F H : Hp} {M : Mem} {d k : D} {vd vk : V} {o : Option D} (s : SOk K F H M) (rd : Rep K F d vd) (rk : Rep K F k vk) (e : dGet d k M = some o) :
    ∃ a, vd = .ref a ∧ (∀ x, o = some x → ∃ v, DGet H a vk (some v) ∧ Rep K F x v) ∧ (o = none → DGet H a vk none) := by
  cases d with
  | ref a =>
    cases rd
    refine ⟨a, rfl, ?_⟩
    unfold dGet at e
    cases q : M a with
    | none => simp [q] at e
    | some mo =>
      cases mo with
      | dK kvs =>
        simp only [q] at e
        cases z : dKey k with
        | none => simp only [z] at e; cases e
        | some qk =>
          simp only [z] at e
          cases e
          obtain ⟨_, ww, h1, h2⟩ := s.mem a _ q
          have ek := rep_key rk z
          subst ek
          obtain ⟨f1, f2⟩ := h2.find qk
          refine ⟨fun x ex => ?_, fun ex => ?_⟩
          · obtain ⟨v, hv, rv⟩ := f1 x ex
            exact ⟨v, .inl ⟨ww, qk, .inl h1, rfl, hv.symm⟩, rv⟩
          · exact .inl ⟨ww, qk, .inl h1, rfl, (f2 ex).symm⟩
      | fK od ww kvs =>
        simp only [q] at e
        cases z : dKey k with
        | none => simp only [z] at e; cases e
        | some qk =>
          simp only [z] at e
          cases e
          obtain ⟨_, h1, h2⟩ := s.mem a _ q
          have ek := rep_key rk z
          subst ek
          obtain ⟨f1, f2⟩ := h2.find qk
          refine ⟨fun x ex => ?_, fun ex => ?_⟩
          · obtain ⟨v, hv, rv⟩ := f1 x ex
            exact ⟨v, .inl ⟨ww, qk, .inr ⟨od, h1⟩, rfl, hv.symm⟩, rv⟩
          · exact .inl ⟨ww, qk, .inr ⟨od, h1⟩, rfl, (f2 ex).symm⟩
      | dT kvs =>
        simp only [q] at e
        cases k with
        | kt qk =>
          cases e
          obtain ⟨_, ww, h1, h2⟩ := s.mem a _ q
          obtain ⟨b, eb, hb, _⟩ := rk
          subst eb
          obtain ⟨f1, f2⟩ := h2.find qk
          refine ⟨fun x ex => ?_, fun ex => ?_⟩
          · obtain ⟨v, hv, rv⟩ := f1 x ex
            exact ⟨v, .inr ⟨ww, qk, b, .inl h1, rfl, s.sub _ _ hb, hv.symm⟩, rv⟩
          · exact .inr ⟨ww, qk, b, .inl h1, rfl, s.sub _ _ hb, (f2 ex).symm⟩
        | _ => cases e
      | lst _ => simp [q] at e
      | ins _ _ => simp [q] at e
  | _ => cases e
section
variable {X : Cx} {W : WX} {a b e o i : Expr} {pos : Pos} {wa wb we wo wi : WE}
theorem ix_dict (hu : X.A.units + 1 < cLine) : IxR X (fun x y H Q => ∃ a v, x = .ref a ∧ DGet H a y (some v) ∧ Q v H) := by
  intro value slice pins s σ H x y v u Q I rx ry h hs
  obtain ⟨a, w, ex, g, q⟩ := h
  subst ex
  obtain rfl : v = Value.ref a := rx
  exact tail_any (dict_typeIs I g) PySem.F.slot_dict_getitem.lookup (d_getItem hu I g ry fun w' s3 I3 rw' => ⟨w, H, I3, rw', q⟩) hs
/-- x[i] of a list, a tuple, a text, a dict -/
def fIxG : OD := fun x y M R => match dGet x y M with
  | some o => (match o with
    | some d => R d M
    | none => False)
  | none => fIx x y M R
theorem lIxG {K : PySem.W.Frag} : LOp K (fun x y H Q => rIx K x y H Q ∨ ∃ a v, x = .ref a ∧ DGet H a y (some v) ∧ Q v H) fIxG := by
  intro x y vx vy F H M R Q s rx ry h q
  unfold fIxG at h
  cases e : dGet x y M with
  | none => rw [e] at h; exact .inl (lIx x y vx vy F H M R Q s rx ry h q)
  | some o =>
    rw [e] at h
    cases o with
    | none => exact h.elim
    | some d =>
      obtain ⟨a, ea, f1, _⟩ := rep_dGet s rx ry e
      obtain ⟨v, hv, rv⟩ := f1 d rfl
      exact .inr ⟨a, v, ea, hv, q _ _ _ _ _ h (Same.refl F) s rv⟩
theorem qixG {k : Nat} (hr : Room k X.A) (ha : QE X W a wa) (hb : QE X W b wb) (hs : PlainIx b := by exact fun _ _ => rfl) : QE X W (.Subscript a b pos) (wOp fIxG wa wb) :=
  pe_imp (pe_ix (ix_seq.or (ix_dict (hu_of hr))) ha hb hs) fun _ _ _ h => lop lIxG h
/-- k in d, k not in d -/
def wDIn (neg : Bool) (wi wo : WE) : WE := fun Γ M R RX => wi Γ M (fun k M1 => wo Γ M1 (fun d M2 => match dGet d k M2 with
  | some o => R (.bl (if neg = true then !o.isSome else o.isSome)) M2
  | none => False) RX) RX
theorem lDIn {neg : Bool} {σ : L2.St} {H : Hp} {Q : VK} (h : lE X.K W (wDIn neg wi wo) σ H Q) : (fun (σ : L2.St) (H : Hp) (Q : VK) => lE X.K W wi σ H fun y H1 => lE X.K W wo σ H1 fun x H2 => ∃ a o, x = .ref a ∧ DGet H2 a y o ∧ Q (.bl (if neg = true then !o.isSome else o.isSome)) H2) σ H Q := by
  obtain ⟨F, Γ, M, R, RX, s, e, w, hq, hx⟩ := h
  refine ⟨F, Γ, M, _, RX, s, e, w, fun d M1 F1 H1 v h1 s1 k1 r1 => ?_, hx⟩
  refine ⟨F1, Γ, M1, _, RX, k1, e.mono s1, h1, fun d2 M2 F2 H2 v2 h2 s2 k2 r2 => ?_, hx.mono s1⟩
  cases e : dGet d2 d M2 with
  | none => rw [e] at h2; exact h2.elim
  | some o =>
    rw [e] at h2
    obtain ⟨a, ea, f1, f2⟩ := rep_dGet k2 r2 (Rep.mono s2 _ _ r1) e
    cases o with
    | none => exact ⟨a, none, ea, f2 rfl, hq _ _ _ _ _ h2 (s1.trans s2) k2 rfl⟩
    | some x =>
      obtain ⟨v, hv, _⟩ := f1 x rfl
      exact ⟨a, some v, ea, hv, hq _ _ _ _ _ h2 (s1.trans s2) k2 rfl⟩
theorem qdin {k : Nat} (hr : Room k X.A) (hi : QE X W i wi) (ho : QE X W o wo) (hm : behindInMarks .In o = false := by rfl) : QE X W (.Compare i [.In] [o] pos) (wDIn false wi wo) := pe_imp (pe_cmp (pc_din (hu_of hr) hi ho) hm) fun _ _ _ h => lDIn h
theorem qdnotin {k : Nat} (hr : Room k X.A) (hi : QE X W i wi) (ho : QE X W o wo) (hm : behindInMarks .NotIn o = false := by rfl) : QE X W (.Compare i [.NotIn] [o] pos) (wDIn true wi wo) := pe_imp (pe_cmp (pc_dnotin (hu_of hr) hi ho) hm) fun _ _ _ h => lDIn h
theorem tdin {k : Nat} (hr : Room k X.A) (hi : QE X W i wi) (ho : QE X W o wo) (hm : behindInMarks .In o = false := by rfl) : QT X W (.Compare i [.In] [o] pos) (wB (wDIn false wi wo)) := pt_imp (pt_cmp (pc_din (hu_of hr) hi ho) hm) fun _ _ _ h => lDIn (lB h)
theorem tdnotin {k : Nat} (hr : Room k X.A) (hi : QE X W i wi) (ho : QE X W o wo) (hm : behindInMarks .NotIn o = false := by rfl) : QT X W (.Compare i [.NotIn] [o] pos) (wB (wDIn true wi wo)) := pt_imp (pt_cmp (pc_dnotin (hu_of hr) hi ho) hm) fun _ _ _ h => lDIn (lB h)
/-- {} -/
def wDNewK : WE := fun Γ M R _ => ∀ p, M p = none → R (.ref p) (mup M p (.dK []))
def wDNewT : WE := fun Γ M R _ => ∀ p, M p = none → R (.ref p) (mup M p (.dT []))
theorem qdnewK : QE X W (.Dict [] [] pos) wDNewK := pe_imp pe_dnewK fun σ H Q ⟨F, Γ, M, R, RX, s, e, w, hq, hx⟩ => fun p hp => hq _ _ F _ _ (w p (s.free hp).2) (Same.refl F) (s.put (.inl hp) ⟨[], upd_same, rfl⟩) rfl
theorem qdnewT : QE X W (.Dict [] [] pos) wDNewT := pe_imp pe_dnewT fun σ H Q ⟨F, Γ, M, R, RX, s, e, w, hq, hx⟩ => fun p hp => hq _ _ F _ _ (w p (s.free hp).2) (Same.refl F) (s.put (.inl hp) ⟨[], upd_same, rfl⟩) rfl

/-! ### methods of lists -/
abbrev OM := D → List D → Mem → DK → Prop
def LMt (K : PySem.W.Frag) (r : V → List V → Hp → VK → Prop) (f : OM) : Prop := ∀ x ds vx vs F H M R Q, SOk K F H M → Rep K F x vx → Reps K F ds vs → f x ds M R →
  (∀ d M' F' H' v, R d M' → Same F F' → SOk K F' H' M' → Rep K F' d v → Q v H') → r vx vs H Q
variable {es : List Expr} {tr : WA} {n : Nat} {apos cpos : Pos} {T id : String} {name : Str}
def wMt (f : OM) (wo : WE) (t : WA) : WE := fun Γ M R RX => wo Γ M (fun x M1 => (∃ xs, asL x M1 = some xs) ∧ t Γ M1 (fun ds M2 => f x ds M2 R) RX) RX
theorem lmt {r : V → List V → Hp → VK → Prop} {f : OM} (hl : LMt X.K r f) {σ : L2.St} {H : Hp} {Q : VK} (h : lE X.K W (wMt f wo tr) σ H Q) : tBM X.K "list" r (lE X.K W wo) (lA X.K W n tr) σ H Q := by
  obtain ⟨F, Γ, M, R, RX, s, e, w, hq, hx⟩ := h
  refine ⟨F, Γ, M, _, RX, s, e, w, fun x M1 F1 H1 v h1 s1 k1 r1 => ?_, hx⟩
  obtain ⟨⟨xs, e1⟩, h1⟩ := h1
  obtain ⟨a, vs, ea, ha, za, ga⟩ := rep_L k1 r1 e1
  refine ⟨by subst ea; exact .inl ⟨rfl, vs, ha⟩, F1, Γ, M1, _, RX, k1, e.mono s1, h1, fun ds M2 F2 H2 vs2 h2 _ s2 k2 r2 => ?_, hx.mono s1⟩
  exact hl x ds v vs2 F2 H2 M2 R Q k2 (Rep.mono s2 _ _ r1) r2 h2 fun d3 M3 F3 H3 v3 h3 s3 k3 r3 => hq _ _ _ _ _ h3 ((s1.trans s2).trans s3) k3 r3
def fAppend : OM := fun x ds M R => match x, ds with
  | .ref a, [y] => (match M a with
    | some (.lst xs) => xs.length < sizeLine ∧ R .non (mup M a (.lst (xs ++ [y])))
    | _ => False)
  | _, _ => False
theorem put_lst {K : PySem.W.Frag} {F H : Hp} {M : Mem} {a : Addr} {ds : List D} {vs : List V} {m : MO} (s : SOk K F H M) (e : M a = some m) (z : vs.length ≤ sizeLine) (r : Reps K F ds vs) : SOk K F (upd H a (.lst vs)) (mup M a (.lst ds)) :=
  s.put (.inr ⟨m, e⟩) ⟨vs, upd_same, z, r⟩
theorem lAppend {K : PySem.W.Frag} : LMt K rAppend fAppend := by
  intro x ds vx vs F H M R Q s rx rs h q
  unfold fAppend at h
  split at h
  · rename_i a y
    cases rx
    obtain ⟨v, rfl, rv⟩ := reps1 rs
    cases e : M a with
    | none => simp only [e] at h
    | some mo =>
      cases mo with
      | lst xs =>
        simp only [e] at h
        obtain ⟨_, ws, h1, z, g⟩ := s.mem a _ e
        refine ⟨a, ws, v, rfl, rfl, h1, by rw [g.len]; exact h.1, q _ _ _ _ _ h.2 (Same.refl F) (put_lst s e (by rw [List.length_append, g.len]; exact h.1) (g.append (Reps.one rv))) rfl⟩
      | dK _ => simp only [e] at h
      | dT _ => simp only [e] at h
      | fK _ _ _ => simp only [e] at h
      | ins _ _ => simp only [e] at h
  · exact h.elim
theorem qmt {e : Expr} {r : V → List V → Hp → VK → Prop} {f : OM} (hl : LMt X.K r f) (h : PE X e (tBM X.K "list" r (lE X.K W wo) (lA X.K W n tr))) : QE X W e (wMt f wo tr) := pe_imp h fun _ _ _ h => lmt hl h
/-- pop() -/
def fPop : OM := fun x ds M R => match x, ds with
  | .ref a, [] => (match M a with
    | some (.lst xs) => (match xs[xs.length - 1]? with
      | some y => R y (mup M a (.lst xs.dropLast))
      | none => False)
    | _ => False)
  | _, _ => False
theorem Reps.dropLast {K : PySem.W.Frag} {F : Hp} {ds : List D} {vs : List V} (g : Reps K F ds vs) : Reps K F ds.dropLast vs.dropLast := by
  rw [List.dropLast_eq_take, List.dropLast_eq_take, g.len]
  exact g.take _
theorem lPop {K : PySem.W.Frag} : LMt K rPop fPop := by
  intro x ds vx vs F H M R Q s rx rs h q
  unfold fPop at h
  split at h
  · rename_i a
    cases rx
    cases rs
    cases e : M a with
    | none => simp only [e] at h
    | some mo =>
      cases mo with
      | lst xs =>
        simp only [e] at h
        cases e2 : xs[xs.length - 1]? with
        | none => simp only [e2] at h
        | some y =>
          simp only [e2] at h
          obtain ⟨_, ws, h1, z, g⟩ := s.mem a _ e
          obtain ⟨v, hv, rv⟩ := g.get _ _ e2
          exact ⟨a, ws, v, rfl, rfl, h1, by rw [g.len]; exact hv, q _ _ _ _ _ h (Same.refl F) (put_lst s e (by rw [List.length_dropLast]; omega) g.dropLast) rv⟩
      | dK _ => simp only [e] at h
      | dT _ => simp only [e] at h
      | fK _ _ _ => simp only [e] at h
      | ins _ _ => simp only [e] at h
  · exact h.elim
def wMt0 (f : OM) (wo : WE) : WE := fun Γ M R RX => wo Γ M (fun x M1 => (∃ xs, asL x M1 = some xs) ∧ f x [] M1 R) RX
theorem qmt0 {e : Expr} {r : V → List V → Hp → VK → Prop} {f : OM} (hl : LMt X.K r f) (h : PE X e (tBM0 X.K "list" r (lE X.K W wo))) : QE X W e (wMt0 f wo) :=
  pe_imp h fun σ H Q ⟨F, Γ, M, R, RX, s, e, w, hq, hx⟩ => ⟨F, Γ, M, _, RX, s, e, w, fun x M1 F1 H1 v h1 s1 k1 r1 => by
    obtain ⟨⟨xs, e1⟩, h1⟩ := h1
    obtain ⟨a, vs, ea, ha, za, ga⟩ := rep_L k1 r1 e1
    exact ⟨by subst ea; exact .inl ⟨rfl, vs, ha⟩, hl x [] v [] F1 H1 M1 R Q k1 r1 rfl h1 fun d3 M3 F3 H3 v3 h3 s3 k3 r3 => hq _ _ _ _ _ h3 (s1.trans s3) k3 r3⟩, hx⟩

/-! ### fields -/
def wFld (C : Addr) (f : Str) (wo : WE) : WE := fun Γ M R RX => wo Γ M (fun d M1 => match d with
  | .ref a => (match M1 a with
    | some (.ins C' fs) => C' = C ∧ (match fs.lookup f with
      | some v => R v M1
      | none => False)
    | _ => False)
  | _ => False) RX
theorem rep_ins {K : PySem.W.Frag} {F H : Hp} {M : Mem} {a C : Addr} {fs : List (Str × D)} (s : SOk K F H M) (e : M a = some (.ins C fs)) : ∃ dx vf, H a = some (.ins C dx vf) ∧ RepKV K F fs vf := (s.mem a _ e).2
theorem qfld {C : Addr} {f : Str} (c : Cls X.K C) (nf : NoAttr X.K C f) (he : QE X W e we) (hb : attributeBase e f X.env (eval e X.env) = eval e X.env := by rfl) : QE X W (.Attribute e f pos) (wFld C f we) :=
  pe_imp (pe_fld he hb) fun σ H Q ⟨F, Γ, M, R, RX, s, e, w, hq, hx⟩ => ⟨F, Γ, M, _, RX, s, e, w, fun d M1 F1 H1 v h1 s1 k1 r1 => by
    cases d with
    | ref a =>
      cases r1
      cases e1 : M1 a with
      | none => simp only [e1] at h1
      | some mo =>
        cases mo with
        | ins C' fs =>
          simp only [e1] at h1
          obtain ⟨ec, h1⟩ := h1
          subst ec
          cases e2 : fs.lookup f with
          | none => simp only [e2] at h1
          | some y =>
            simp only [e2] at h1
            obtain ⟨dx, vf, hi, rf⟩ := rep_ins k1 e1
            obtain ⟨v, hv, rv⟩ := rf.lookup e2
            exact ⟨a, C', dx, vf, v, rfl, hi, c, nf, hv, hq _ _ _ _ _ h1 s1 k1 rv⟩
        | dK _ => simp only [e1] at h1
        | dT _ => simp only [e1] at h1
        | fK _ _ _ => simp only [e1] at h1
        | lst _ => simp only [e1] at h1
    | _ => exact h1.elim, hx⟩
end
/-- a field stored -/
def fput (f : Str) (v : D) : List (Str × D) → List (Str × D)
  | [] => [(f, v)]
  | (g, x) :: r => if g = f then (g, v) :: r else (g, x) :: fput f v r
end DL

set_option Elab.async false
set_option backward.match.sparseCases false
set_option linter.all false
set_option maxRecDepth 100000
set_option maxHeartbeats 4000000
/-! DL6: defs, calls, classes. -/
namespace DL
open PySem PySem.Spec PyProof.Rows L2

/-- a def's promise over data -/
def spD (K : PySem.W.Frag) (n : Nat) (fs : FS) : Sp := fun vs H Q E => vs.length = n ∧ ∃ F ds M R RX, SOk K F H M ∧ Reps K F ds vs ∧ fs ds M R RX ∧
  (∀ d M' F' H' v, R d M' → Same F F' → SOk K F' H' M' → Rep K F' d v → Q v H') ∧
  (∀ c d M' F' H' v dx, RX c d M' → Same F F' → SOk K F' H' M' → Rep K F' d v → H' dx = some (.xd [("at", v)]) → E (.ref c) (some dx) H')
/-- the def called x -/
structure FnAt (P : Program) (w : World) (K : PySem.W.Frag) (mg : Str → Option Value) (base : Heap) (k n : Nat) (x : Str) (fs : FS) : Prop where
  ex : ∃ (f : Addr) (fd : FuncData) (ps : List Str), mg x = some (.ref f) ∧ PySem.W.keepIn K (.ref f) = true ∧ Binds K fd ps [] ∧ FnOk P w K mg base (L2.CX P w) k f fd ps (spD K n fs)
/-- the method m of the class at C -/
structure MtAt (P : Program) (w : World) (K : PySem.W.Frag) (mg : Str → Option Value) (base : Heap) (k n : Nat) (C : Addr) (m : Str) (fs : FS) : Prop where
  ex : ∃ (f : Addr) (fd : FuncData) (ps : List Str), Cls K C ∧ Meth K C m f ∧ Binds K fd ps [] ∧ FnOk P w K mg base (L2.CX P w) k f fd ps (spD K n fs)
/-- the class called x, made by its __init__ -/
structure MkAt (P : Program) (w : World) (K : PySem.W.Frag) (mg : Str → Option Value) (base : Heap) (k n : Nat) (x : Str) (C : Addr) (fs : FS) : Prop where
  ex : ∃ (f : Addr) (fd : FuncData) (ps : List Str), mg x = some (.ref C) ∧ Mk K C f ∧ Binds K fd ps [] ∧ FnOk P w K mg base (L2.CX P w) k f fd ps (spD K n fs)
section
variable {X : Cx} {W : WX} {pins : List (Addr × Obj)} {σ : L2.St} {H : Hp} {s : Shared} {Q : VK} {us : List Value} {vs : List V} {k n : Nat} {f C : Addr} {fd : FuncData} {ps : List Str} {sp : Sp} {E : XK} {fs : FS}
theorem run_fn2 (F : FnOk X.prog X.w X.K X.mg X.base (L2.CX X.prog X.w) k f fd ps sp) (hr : Room k X.A) (hb : Binds X.K fd ps []) (tk : Takes X W) (hE : ∀ cls d H', E cls d H' → W cls d σ H')
    (I : Inv X pins σ H s) (r : Vals vs us) (h : sp vs H Q E) : wpAny (model X.prog X.w) X.A (call (.ref f) us) (EP X pins σ Q) X.xe s := by
  have hl : us.length = ps.length := by rw [← r.length]; exact F.len _ _ _ _ h
  refine wpAny_call (codeAny_mono (F.run X.A X.stack s H ⟨us, []⟩ us vs Q E hr I.env0 (by have := hb s us I.kIn (by simpa using hl); simpa using this) r h) fun r s' hq => ?_)
  cases r with
  | error e => exact tk _ _ (XE.of_call I hE hq)
  | ok fl =>
    cases fl with
    | ret u => exact I.after hq
    | next => exact False.elim hq
    | brk => exact False.elim hq
    | cont => exact False.elim hq
theorem run_make2 (M : Mk X.K C f) (F : FnOk X.prog X.w X.K X.mg X.base (L2.CX X.prog X.w) k f fd ps sp) (hr : Room (k + 1) X.A) (hb : Binds X.K fd ps []) (tk : Takes X W) (hE : ∀ cls d H', E cls d H' → W cls d σ H') (I : Inv X pins σ H s) (r : Vals vs us)
    (h : ∀ x dx, H x = none → H dx = none → dx ≠ x → sp (.ref x :: vs) (upd (upd H dx (.own x)) x (.ins C dx [])) (fun v H2 => v = .non ∧ Q (.ref x) H2) E) :
    wpAny (model X.prog X.w) X.A (call (.ref C) us) (EP X pins σ Q) X.xe s := by
  have hq := h (s.heap.objs.size + 1) s.heap.objs.size (I.hok.fresh (Nat.le_succ _)) (I.hok.fresh (Nat.le_refl _)) (Nat.ne_of_lt (Nat.lt_succ_self _))
  have I2 := Inv.made (C := C) I
  have r2 : Vals (V.ref (s.heap.objs.size + 1) :: vs) (Value.ref (s.heap.objs.size + 1) :: us) := .cons rfl r
  have hl : (Value.ref (s.heap.objs.size + 1) :: us).length = ps.length := by
    have e := r2.length
    rw [F.len _ _ _ _ hq] at e
    exact e.symm
  refine wpAny_call (make_map (f := f) I.kIn M.makes M.init (beq_iff_eq.mp M.fn) (codeAny_mono (F.run _ X.stack _ _ ⟨Value.ref (s.heap.objs.size + 1) :: us, []⟩ (Value.ref (s.heap.objs.size + 1) :: us) _ _ E (hr.make C us [])
    (I2.env0.make C us []) (by have := hb _ (Value.ref (s.heap.objs.size + 1) :: us) I2.kIn (by simpa using hl); simpa using this) r2 hq) fun r s' hq' => ?_))
  cases r with
  | error e => exact tk _ _ (XE.of_call I2 hE hq')
  | ok fl =>
    cases fl with
    | ret u =>
      obtain ⟨v, H', I3, rv, ev, q3⟩ := I2.after hq'
      subst ev
      exact ⟨rv, ⟨V.ref (s.heap.objs.size + 1), H', I3, rfl, q3⟩⟩
    | next => exact False.elim hq'
    | brk => exact False.elim hq'
    | cont => exact False.elim hq'
end
section
variable {X : Cx} {W : WX} {k n : Nat} {x m : Str} {C : Addr} {fs : FS} {p pos apos : Pos} {e o : Expr} {es : List Expr} {tr : WA} {wo : WE}
/-- f(..) -/
def wCall (fs : FS) (t : WA) : WE := fun Γ M R RX => t Γ M (fun ds M1 => fs ds M1 R RX) RX
theorem qcall (c : FnAt X.prog X.w X.K X.mg X.base k n x fs) (hr : Room k X.A) (tk : Takes X W) (hg : Gl X x) (ha : QA X W (e :: es) n tr)
    (hdb : (x == ("__debug__" : Str)) = false := by decide) (he : starEach (e :: es) X.env = (false, eval e X.env) :: starEach es X.env := by rfl) (hpl : (backTo pos (starEach es X.env)).any (·.1) = false := by rfl) :
    QE X W (.Call (.Name x p) (e :: es) [] pos) (wCall fs tr) := by
  obtain ⟨f, fd, ps, hm, hk, hb, G⟩ := c.ex
  refine ⟨fun pins s σ H Q I ⟨F, Γ, M, R, RX, s0, e0, w, hq, hx⟩ => ?_⟩
  refine wpAny_Call_Name_kw (ld_glob I hg hm ?_ hdb)
  refine PySem.W.callWith_K (h₀ := X.base) I.ok.mod.kin hk (thn (ha.run pos pins s σ H (fun vs H1 => spD X.K n fs vs H1 Q (fun cls d H' => W cls d σ H')) I ⟨F, Γ, M, _, RX, s0, e0, w, fun ds M1 F1 H1 vs h1 hl s1 k1 r1 => ?_, hx⟩) fun us s1 ⟨vs, H1, I1, r, q⟩ => ⟨I1.kIn, ?_⟩) he hpl
  · exact ⟨by rw [r1.len, hl], F1, ds, M1, R, RX, k1, r1, h1, fun d M2 F2 H2 v h2 s2 => hq d M2 F2 H2 v h2 (s1.trans s2), fun c d M2 F2 H2 v dx h2 s2 => hx c d M2 F2 H2 v dx h2 (s1.trans s2)⟩
  · exact run_fn2 G hr hb tk (fun _ _ _ z => z) I1 r q
/-- o.m(..), o.m() -/
def mDisp (C : Addr) (m : Str) (d : D) (M1 : Mem) (k : Addr → Prop) : Prop := match d with
  | .ref a => (match M1 a with
    | some (.ins C' fl) => C' = C ∧ fl.lookup m = none ∧ k a
    | _ => False)
  | _ => False
def wMeth (C : Addr) (m : Str) (fs : FS) (wo : WE) (t : WA) : WE := fun Γ M R RX => wo Γ M (fun d M1 => mDisp C m d M1 fun a => t Γ M1 (fun ds M2 => fs (.ref a :: ds) M2 R RX) RX) RX
theorem meth_core {H : Hp} {F : Hp} {M1 : Mem} {d : D} {v : V} {P : Addr → Prop} (k1 : SOk X.K F H M1) (r1 : Rep X.K F d v) (h1 : mDisp C m d M1 P) : ∃ a dx vf, d = .ref a ∧ v = .ref a ∧ H a = some (.ins C dx vf) ∧ vf.lookup m = none ∧ P a := by
  unfold mDisp at h1
  cases d with
  | ref a =>
    cases r1
    cases e1 : M1 a with
    | none => simp only [e1] at h1
    | some mo =>
      cases mo with
      | ins C' fl =>
        simp only [e1] at h1
        obtain ⟨ec, el, h1⟩ := h1
        subst ec
        obtain ⟨dx, vf, hi, rf⟩ := rep_ins k1 e1
        exact ⟨a, dx, vf, rfl, rfl, hi, rf.lookup_none el, h1⟩
      | dK _ => simp only [e1] at h1
      | dT _ => simp only [e1] at h1
      | fK _ _ _ => simp only [e1] at h1
      | lst _ => simp only [e1] at h1
  | _ => exact h1.elim
theorem qmeth {pl : Sem Bool} (c : MtAt X.prog X.w X.K X.mg X.base k (n + 1) C m fs) (hr : Room k X.A) (tk : Takes X W) (ho : QE X W o wo) (ha : QA X W (e :: es) n tr)
    (hst : starEach (e :: es) X.env = (false, eval e X.env) :: starEach es X.env := by rfl) (hpl : (backTo pos (starEach es X.env)).any (·.1) = false := by rfl)
    (ht : eval (.Call (.Attribute o m apos) (e :: es) [] pos) X.env = (do
      let ov ← eval o X.env
      standAt apos.atName
      let (f, first) ← holding [ov] (getMethod ov m pl)
      callWith pos f first (backTo pos (starEach (e :: es) X.env)) (backToKw pos (keywordEach [] X.env))) := by rfl) : QE X W (.Call (.Attribute o m apos) (e :: es) [] pos) (wMeth C m fs wo tr) := by
  obtain ⟨f, fd, ps, cl, hm, hb, G⟩ := c.ex
  refine ⟨fun pins s σ H Q I ⟨F, Γ, M, R, RX, s0, e0, w, hq, hx⟩ => ?_⟩
  refine PySem.W.methodCall_KW (pl := pl) (thn (ho.run pins s σ H (fun x H1 => ∃ a dx vf, x = .ref a ∧ H1 a = some (.ins C dx vf) ∧ vf.lookup m = none ∧ lA X.K W n tr σ H1 fun vs H2 => spD X.K (n + 1) fs (.ref a :: vs) H2 Q (fun cls d H' => W cls d σ H')) I
    ⟨F, Γ, M, _, RX, s0, e0, w, fun d M1 F1 H1 v h1 s1 k1 r1 => ?_, hx⟩) fun u s1 ⟨x, H1, I1, rx, a, dx, vf, ex, ea, l, q⟩ => ?_) ht
  · obtain ⟨a, dx, vf, ed, ev, hi, hl, h9⟩ := meth_core (C := C) k1 r1 h1
    subst ed ev
    refine ⟨a, dx, vf, rfl, hi, hl, F1, Γ, M1, _, RX, k1, e0.mono s1, h9, fun ds M2 F2 H2 vs h2 hl s2 k2 r2 => ?_, hx.mono s1⟩
    exact ⟨by rw [List.length_cons, r2.len, hl], F2, .ref a :: ds, M2, R, RX, k2, ⟨_, _, rfl, rfl, r2⟩, h2, fun d M3 F3 H3 v h3 s3 => hq d M3 F3 H3 v h3 ((s1.trans s2).trans s3), fun c d M3 F3 H3 v dx h3 s3 => hx c d M3 F3 H3 v dx h3 ((s1.trans s2).trans s3)⟩
  · subst ex
    obtain rfl : u = Value.ref a := rx
    refine getmeth_ok I1 ea cl hm l ?_
    refine PySem.W.callWith_K (first := [.ref a]) (h₀ := X.base) I.ok.mod.kin hm.kp (thn (ha.run pos pins s1 σ H1 _ I1 q) fun us s2 ⟨vs, H2, I2, r, q2⟩ => ⟨I2.kIn, ?_⟩) hst hpl
    exact run_fn2 (us := .ref a :: us) (vs := .ref a :: vs) G hr hb tk (fun _ _ _ z => z) I2 (.cons rfl r) q2
theorem qmeth0 {pl : Sem Bool} (c : MtAt X.prog X.w X.K X.mg X.base k 1 C m fs) (hr : Room k X.A) (tk : Takes X W) (ho : QE X W o wo)
    (ht : eval (.Call (.Attribute o m apos) [] [] pos) X.env = (do
      let ov ← eval o X.env
      standAt apos.atName
      let (f, first) ← holding [ov] (getMethod ov m pl)
      callWith pos f first (backTo pos (starEach [] X.env)) (backToKw pos (keywordEach [] X.env))) := by rfl) : QE X W (.Call (.Attribute o m apos) [] [] pos) (wMeth C m fs wo wNil) := by
  obtain ⟨f, fd, ps, cl, hm, hb, G⟩ := c.ex
  refine ⟨fun pins s σ H Q I ⟨F, Γ, M, R, RX, s0, e0, w, hq, hx⟩ => ?_⟩
  refine PySem.W.methodCall_KW (pl := pl) (thn (ho.run pins s σ H (fun x H1 => ∃ a dx vf, x = .ref a ∧ H1 a = some (.ins C dx vf) ∧ vf.lookup m = none ∧ spD X.K 1 fs [.ref a] H1 Q (fun cls d H' => W cls d σ H')) I
    ⟨F, Γ, M, _, RX, s0, e0, w, fun d M1 F1 H1 v h1 s1 k1 r1 => ?_, hx⟩) fun u s1 ⟨x, H1, I1, rx, a, dx, vf, ex, ea, l, q⟩ => ?_) ht
  · obtain ⟨a, dx, vf, ed, ev, hi, hl, h9⟩ := meth_core (C := C) k1 r1 h1
    subst ed ev
    exact ⟨a, dx, vf, rfl, hi, hl, rfl, F1, [.ref a], M1, R, RX, k1, ⟨_, _, rfl, rfl, rfl⟩, h9, fun d M3 F3 H3 v h3 s3 => hq d M3 F3 H3 v h3 (s1.trans s3), fun c d M3 F3 H3 v dx h3 s3 => hx c d M3 F3 H3 v dx h3 (s1.trans s3)⟩
  · subst ex
    obtain rfl : u = Value.ref a := rx
    refine getmeth_ok I1 ea cl hm l ?_
    exact PySem.W.callWith_K0 (first := [.ref a]) I1.kIn hm.kp (run_fn2 (us := [.ref a]) (vs := [.ref a]) G hr hb tk (fun _ _ _ z => z) I1 (.cons rfl .nil) q)
/-- C(..) -/
def wMake (C : Addr) (fs : FS) (t : WA) : WE := fun Γ M R RX => t Γ M (fun ds M1 => ∀ a, M1 a = none → fs (.ref a :: ds) (mup M1 a (.ins C [])) (fun d M2 => d = .non ∧ R (.ref a) M2) RX) RX
theorem make_ok {σ : L2.St} {H : Hp} {Q : VK} {R : DK} {RX : DX} {F F1 : Hp} {ds : List D} {M1 : Mem} {vs : List V} (s1 : Same F F1) (k1 : SOk X.K F1 H M1) (r1 : Reps X.K F1 ds vs) (hl : ds.length = n)
    (h1 : ∀ a, M1 a = none → fs (.ref a :: ds) (mup M1 a (.ins C [])) (fun d M2 => d = .non ∧ R (.ref a) M2) RX)
    (hq : ∀ d M' F' H' v, R d M' → Same F F' → SOk X.K F' H' M' → Rep X.K F' d v → Q v H') (hx : RXok X.K W F σ RX) :
    ∀ x dx, H x = none → H dx = none → dx ≠ x → spD X.K (n + 1) fs (.ref x :: vs) (upd (upd H dx (.own x)) x (.ins C dx [])) (fun v H2 => v = .non ∧ Q (.ref x) H2) (fun cls d H' => W cls d σ H') := by
  intro x dx nx ndx ne
  obtain ⟨fx, mx⟩ := k1.free nx
  obtain ⟨fd, md⟩ := k1.free ndx
  have k2 : SOk X.K F1 (upd (upd H dx (.own x)) x (.ins C dx [])) (mup M1 x (.ins C [])) := by
    refine ⟨fun b u e => ?_, fun b u e => ?_⟩
    · rw [upd_ne (ne_of_none e fx), upd_ne (ne_of_none e fd)]; exact k1.sub b u e
    · by_cases hb : b = x
      · subst hb; rw [mup_same] at e; cases e; exact ⟨fx, dx, [], upd_same, rfl⟩
      · rw [mup_ne hb] at e
        obtain ⟨f, q⟩ := k1.mem b u e
        exact ⟨f, q.mono (Same.refl F1) (by rw [upd_ne hb, upd_ne (mne e md)])⟩
  refine ⟨by rw [List.length_cons, r1.len, hl], F1, .ref x :: ds, _, _, RX, k2, ⟨_, _, rfl, rfl, r1⟩, h1 x mx, fun d M2 F2 H2 v h2 s2 k3 r2 => ?_, fun c d M2 F2 H2 v dx h2 s2 => hx c d M2 F2 H2 v dx h2 (s1.trans s2)⟩
  obtain ⟨ed, h2⟩ := h2
  subst ed
  cases r2
  exact ⟨rfl, hq _ _ _ _ _ h2 (s1.trans s2) k3 rfl⟩
theorem qmake (c : MkAt X.prog X.w X.K X.mg X.base k (n + 1) x C fs) (hr : Room (k + 1) X.A) (tk : Takes X W) (hg : Gl X x) (ha : QA X W (e :: es) n tr)
    (hdb : (x == ("__debug__" : Str)) = false := by decide) (he : starEach (e :: es) X.env = (false, eval e X.env) :: starEach es X.env := by rfl) (hpl : (backTo pos (starEach es X.env)).any (·.1) = false := by rfl) :
    QE X W (.Call (.Name x p) (e :: es) [] pos) (wMake C fs tr) := by
  obtain ⟨f, fd, ps, hm, hk, hb, G⟩ := c.ex
  refine ⟨fun pins s σ H Q I ⟨F, Γ, M, R, RX, s0, e0, w, hq, hx⟩ => ?_⟩
  refine wpAny_Call_Name_kw (ld_glob I hg hm ?_ hdb)
  refine PySem.W.callWith_K (h₀ := X.base) I.ok.mod.kin hk.kp (thn (ha.run pos pins s σ H (fun vs H1 => ∀ x dx, H1 x = none → H1 dx = none → dx ≠ x → spD X.K (n + 1) fs (.ref x :: vs) (upd (upd H1 dx (.own x)) x (.ins C dx [])) (fun v H2 => v = .non ∧ Q (.ref x) H2) (fun cls d H' => W cls d σ H')) I
    ⟨F, Γ, M, _, RX, s0, e0, w, fun ds M1 F1 H1 vs h1 hl s1 k1 r1 => make_ok s1 k1 r1 hl h1 hq hx, hx⟩) fun us s1 ⟨vs, H1, I1, r, q⟩ => ⟨I1.kIn, ?_⟩) he hpl
  exact run_make2 hk G hr hb tk (fun _ _ _ z => z) I1 r q
theorem qmake0 (c : MkAt X.prog X.w X.K X.mg X.base k 1 x C fs) (hr : Room (k + 1) X.A) (tk : Takes X W) (hg : Gl X x) (hdb : (x == ("__debug__" : Str)) = false := by decide) : QE X W (.Call (.Name x p) [] [] pos) (wMake C fs wNil) := by
  obtain ⟨f, fd, ps, hm, hk, hb, G⟩ := c.ex
  refine ⟨fun pins s σ H Q I ⟨F, Γ, M, R, RX, s0, e0, w, hq, hx⟩ => ?_⟩
  refine wpAny_Call_Name_kw (ld_glob I hg hm ?_ hdb)
  exact PySem.W.callWith_K0 I.kIn hk.kp (run_make2 (us := []) (vs := []) hk G hr hb tk (fun _ _ _ z => z) I .nil (make_ok (n := 0) (ds := []) (Same.refl F) s0 rfl rfl w hq hx))
end
end DL

set_option Elab.async false
set_option backward.match.sparseCases false
set_option linter.all false
set_option maxRecDepth 100000
set_option maxHeartbeats 4000000
/-! DL7: statements, loops, comprehensions, defs by their bodies. -/
namespace DL
open PySem PySem.Spec PyProof.Rows L2

theorem ps_imp {X : Cx} {e : Stmt} {t t' : TS} (h : PS X e t) (i : ∀ D σ H, t' D σ H → t D σ H) : PS X e t' := ⟨fun p s σ H D I z => h.run p s σ H D I (i _ _ _ z)⟩
theorem pss_imp {X : Cx} {e : List Stmt} {t t' : TS} (h : PSs X e t) (i : ∀ D σ H, t' D σ H → t D σ H) : PSs X e t' := ⟨fun p s σ H D I z => h.run p s σ H D I (i _ _ _ z)⟩
theorem pg_imp {X : Cx} {e : Expr} {t t' : TG} (h : PG X e t) (i : ∀ v σ H Q, t' v σ H Q → t v σ H Q) : PG X e t' := ⟨fun p s σ H v u Q I r z => h.run p s σ H v u Q I r (i _ _ _ _ z)⟩
theorem pi_imp {X : Cx} {tg e : Expr} {t t' : TI} (h : PI X tg e t) (i : ∀ σ H R, t' σ H R → t σ H R) : PI X tg e t' := ⟨fun p s σ H R I z => h.run p s σ H R I (i _ _ _ z)⟩

section
variable {X : Cx} {W : WX} {e o a b : Expr} {we wo wa wb : WE} {pos pos' : Pos} {s1 : Stmt} {ss : List Stmt} {t u : WS} {i : Nat} {x : Str}
/-! ### small statements -/
def wNext : WS := fun R Γ M => R.nx Γ M
def wSeq (t u : WS) : WS := fun R Γ M => t { R with nx := u R } Γ M
theorem snil : QSs X W [] wNext := pss_imp pss_nil fun D σ H ⟨F, Γ, M, R, s, e, w, o⟩ => o.nx _ _ F _ _ w (Same.refl F) s e
theorem sone (h : QS X W s1 t) : QSs X W [s1] t := pss_one h
theorem scons (h : QS X W s1 t) (g : QSs X W ss u) : QSs X W (s1 :: ss) (wSeq t u) := pss_imp (pss_cons h g) fun D σ H ⟨F, Γ, M, R, s, e, w, o⟩ =>
  ⟨F, Γ, M, _, s, e, w, ⟨fun Γ1 M1 F1 σ1 H1 h1 s1 k1 e1 => ⟨F1, Γ1, M1, R, k1, e1, h1, o.mono s1⟩, o.rt, o.bk, o.ct, o.ex⟩⟩
def wPass : WS := wNext
theorem spass : QS X W (.Pass pos) wNext := ps_imp ps_pass fun D σ H ⟨F, Γ, M, R, s, e, w, o⟩ => o.nx _ _ F _ _ w (Same.refl F) s e
def wBreak : WS := fun R Γ M => R.bk Γ M
def wCont : WS := fun R Γ M => R.ct Γ M
theorem sbreak : QS X W (.Break pos) wBreak := ps_imp ps_break fun D σ H ⟨F, Γ, M, R, s, e, w, o⟩ => o.bk _ _ F _ _ w (Same.refl F) s e
theorem scont : QS X W (.Continue pos) wCont := ps_imp ps_continue fun D σ H ⟨F, Γ, M, R, s, e, w, o⟩ => o.ct _ _ F _ _ w (Same.refl F) s e
def wExpr (we : WE) : WS := fun R Γ M => we Γ M (fun _ M1 => R.nx Γ M1) (fun c d M1 => R.ex c d Γ M1)
theorem exOk {K : PySem.W.Frag} {F : Hp} {D : Ends} {R : EndsD} {Γ : GE} {σ : L2.St} (o : EOk K W F D R) (e : REnv K F Γ σ) : RXok K W F σ (fun c d M1 => R.ex c d Γ M1) := fun c d M' F' H' v dx h a b r x => o.ex c d Γ M' F' σ H' v dx h a b (e.mono a) r x
theorem sexpr (h : QE X W e we) (hs : swapsWith e none pos.line X.env = pure false := by rfl) : QS X W (.Expr e pos) (wExpr we) := ps_imp (ps_expr h hs) fun D σ H ⟨F, Γ, M, R, s, e, w, o⟩ =>
  ⟨F, Γ, M, _, _, s, e, w, fun d M1 F1 H1 v h1 s1 k1 r1 => o.nx _ _ F1 _ _ h1 s1 k1 (e.mono s1), exOk o e⟩
def wRet (we : WE) : WS := fun R Γ M => we Γ M R.rt (fun c d M1 => R.ex c d Γ M1)
theorem sret (h : QE X W e we) : QS X W (.Return (some e) pos) (wRet we) := ps_imp (ps_ret h) fun D σ H ⟨F, Γ, M, R, s, e, w, o⟩ =>
  ⟨F, Γ, M, _, _, s, e, w, fun d M1 F1 H1 v h1 s1 k1 r1 => o.rt _ _ F1 _ _ h1 s1 k1 r1, exOk o e⟩
def wRetN : WS := fun R _ M => R.rt .non M
theorem sretN : QS X W (.Return none pos) wRetN := ps_imp ps_retN fun D σ H ⟨F, Γ, M, R, s, e, w, o⟩ => o.rt _ _ F _ _ w (Same.refl F) s rfl
def wIf (c : WT) (t u : WS) : WS := fun R Γ M => c Γ M (fun b M1 => if b = true then t R Γ M1 else u R Γ M1) (fun c d M1 => R.ex c d Γ M1)
theorem sif {c : Expr} {tc : WT} {sa sb : List Stmt} (hc : QT X W c tc) (ha : QSs X W sa t) (hb : QSs X W sb u) : QS X W (.If c sa sb pos) (wIf tc t u) := ps_imp (ps_if hc ha hb) fun D σ H ⟨F, Γ, M, R, s, e, w, o⟩ =>
  ⟨F, Γ, M, _, _, s, e, w, fun b M1 F1 H1 h1 s1 k1 => by
    cases b with
    | true => exact iteT ⟨F1, Γ, M1, R, k1, e.mono s1, by simpa using h1, o.mono s1⟩
    | false => exact iteF ⟨F1, Γ, M1, R, k1, e.mono s1, by simpa using h1, o.mono s1⟩, exOk o e⟩
def wNever : WS := fun _ _ _ => False
theorem snever : QS X W s1 wNever := ps_imp ps_never fun D σ H ⟨F, Γ, M, R, s, e, w, o⟩ => w.elim

/-! ### names stored -/
def wSet (i : Nat) (we : WE) : WS := fun R Γ M => we Γ M (fun d M1 => R.nx (st Γ i d) M1) (fun c d M1 => R.ex c d Γ M1)
theorem sset (i : Nat) {te : TE} (h : PS X s1 (tAsg te (gName i))) (hw : ∀ σ H Q, lE X.K W we σ H Q → te σ H Q) : QS X W s1 (wSet i we) := ps_imp h fun D σ H ⟨F, Γ, M, R, s, e, w, o⟩ =>
  hw σ H _ ⟨F, Γ, M, _, _, s, e, w, fun d M1 F1 H1 v h1 s1 k1 r1 => o.nx _ _ F1 _ _ h1 s1 k1 ((e.mono s1).set i r1), exOk o e⟩
/-- x = e -/
theorem sasg (i : Nat) {x : Str} (he : QE X W e we) (hN : X.N.Nodup) (hi : X.N[i]? = some x := by rfl) (hx : Loc X.env.scope x := by first | exact Or.inl rfl | exact Or.inr rfl) (hs : swapsWith e (some (.Name x pos')) pos.line X.env = pure false := by rfl)
    (hf : X.fn x = true ∨ X.env.scope.names.lookup x = some .local := by first | exact .inl rfl | exact .inr rfl) : QS X W (.Assign [.Name x pos'] e pos) (wSet i we) :=
  sset i (ps_set hN hi hx he hs hf) fun _ _ _ h => h
/-- a, b = x, y: two local names -/
def wPar (i j : Nat) (wa wb : WE) : WS := fun R Γ M => wa Γ M (fun d M1 => wb Γ M1 (fun d2 M2 => R.nx (st (st Γ i d) j d2) M2) (fun c d M1 => R.ex c d Γ M1)) (fun c d M1 => R.ex c d Γ M1)
theorem spar (i j : Nat) {ta : TA} (h : PS X s1 (tPar i j ta)) (hw : ∀ σ H Q, lA X.K W 2 (wCons wa (wCons wb wNil)) σ H Q → ta σ H Q) : QS X W s1 (wPar i j wa wb) := ps_imp h fun D σ H ⟨F, Γ, M, R, s, e, w, o⟩ =>
  hw σ H _ ⟨F, Γ, M, fun ds M2 => ∃ d d2, ds = [d, d2] ∧ R.nx (st (st Γ i d) j d2) M2, _, s, e, by
    show wa Γ M (fun d M1 => wb Γ M1 (fun d2 M2 => ∃ x y, [d, d2] = [x, y] ∧ R.nx (st (st Γ i x) j y) M2) _) _
    have q : (fun d M1 => wb Γ M1 (fun d2 M2 => ∃ x y, [d, d2] = [x, y] ∧ R.nx (st (st Γ i x) j y) M2) (fun c d M1 => R.ex c d Γ M1)) = (fun d M1 => wb Γ M1 (fun d2 M2 => R.nx (st (st Γ i d) j d2) M2) (fun c d M1 => R.ex c d Γ M1)) := by
      funext d M1
      congr 1
      funext d2 M2
      apply propext
      constructor
      · rintro ⟨x, y, e, h⟩; cases e; exact h
      · intro h; exact ⟨d, d2, rfl, h⟩
    rw [q]; exact w, fun ds M1 F1 H1 vs h1 _ s1 k1 r1 => by
    obtain ⟨d, d2, ed, h1⟩ := h1
    subst ed
    obtain ⟨v, v2, ev, r2, r3⟩ := reps2 r1
    exact ⟨v, v2, ev, o.nx _ _ F1 _ _ h1 s1 k1 (((e.mono s1).set i r2).set j r3)⟩, exOk o e⟩
/-- x op= e -/
def wAug (i : Nat) (f : OD) (we : WE) : WS := fun R Γ M => match gt Γ i with
  | some x => we Γ M (fun y M1 => f x y M1 (fun z M2 => R.nx (st Γ i z) M2)) (fun c d M1 => R.ex c d Γ M1)
  | none => False
def LIp (K : PySem.W.Frag) (r : TIp) (f : OD) : Prop := ∀ x y vx vy F H M R Q, SOk K F H M → Rep K F x vx → Rep K F y vy → f x y M R →
  (∀ d M' F' H' v, R d M' → Same F F' → SOk K F' H' M' → Rep K F' d v → Q v H') → r vx vy H Q
theorem saug (i : Nat) {te : TE} {ti : TIp} {f : OD} (hl : LIp X.K ti f) (h : PS X s1 (tAug i te ti)) (hw : ∀ σ H Q, lE X.K W we σ H Q → te σ H Q) : QS X W s1 (wAug i f we) := ps_imp h fun D σ H ⟨F, Γ, M, R, s, e, w, o⟩ => by
  unfold wAug at w
  cases g : gt Γ i with
  | none => rw [g] at w; exact w.elim
  | some x =>
    rw [g] at w
    obtain ⟨v, h1, h2⟩ := e.get i x g
    refine ⟨v, h1, hw σ H _ ⟨F, Γ, M, _, _, s, e, w, fun d M1 F1 H1 vy h1 s1 k1 r1 => ?_, exOk o e⟩⟩
    exact hl x d v vy F1 H1 M1 _ _ k1 (Rep.mono s1 _ _ h2) r1 h1 fun z M2 F2 H2 vz h3 s2 k2 r2 => o.nx _ _ F2 _ _ h3 (s1.trans s2) k2 ((e.mono (s1.trans s2)).set i r2)
theorem lIpAdd {K : PySem.W.Frag} : LIp K (ipI fun i j => i + j) fAddI := by
  intro x y vx vy F H M R Q s rx ry h q
  cases x with
  | int i =>
    cases y with
    | int j =>
      cases rx; cases ry
      exact ⟨i, j, rfl, rfl, q _ _ _ _ _ h (Same.refl F) s rfl⟩
    | _ => exact h.elim
  | _ => exact h.elim
theorem lIpSub {K : PySem.W.Frag} : LIp K (ipI fun i j => i - j) fSub := by
  intro x y vx vy F H M R Q s rx ry h q
  cases x with
  | int i =>
    cases y with
    | int j =>
      cases rx; cases ry
      exact ⟨i, j, rfl, rfl, q _ _ _ _ _ h (Same.refl F) s rfl⟩
    | _ => exact h.elim
  | _ => exact h.elim

/-! ### targets -/
abbrev WG := D → GE → Mem → (GE → Mem → Prop) → DX → Prop
abbrev WGs := List D → GE → Mem → (GE → Mem → Prop) → DX → Prop
def lG (K : PySem.W.Frag) (W : WX) (g : WG) : TG := fun v σ H Q => ∃ F Γ M d R RX, SOk K F H M ∧ REnv K F Γ σ ∧ Rep K F d v ∧ g d Γ M R RX ∧ (∀ Γ' M' F' σ' H', R Γ' M' → Same F F' → SOk K F' H' M' → REnv K F' Γ' σ' → Q σ' H') ∧ RXok K W F σ RX
def lGs (K : PySem.W.Frag) (W : WX) (g : WGs) : TGs := fun vs σ H Q => ∃ F Γ M ds R RX, SOk K F H M ∧ REnv K F Γ σ ∧ Reps K F ds vs ∧ g ds Γ M R RX ∧ (∀ Γ' M' F' σ' H', R Γ' M' → Same F F' → SOk K F' H' M' → REnv K F' Γ' σ' → Q σ' H') ∧ (∀ σ, RXok K W F σ RX)
abbrev QG (X : Cx) (W : WX) (e : Expr) (g : WG) : Prop := PG X e (lG X.K W g)
def gNm (i : Nat) : WG := fun d Γ M R _ => R (st Γ i d) M
theorem gname (i : Nat) {x : Str} (hN : X.N.Nodup) (hi : X.N[i]? = some x := by rfl) (hx : Loc X.env.scope x := by first | exact Or.inl rfl | exact Or.inr rfl) (hf : X.fn x = true ∨ X.env.scope.names.lookup x = some .local := by first | exact .inl rfl | exact .inr rfl) : QG X W (.Name x pos) (gNm i) :=
  pg_imp (pg_name hN hi hx hf) fun v σ H Q ⟨F, Γ, M, d, R, RX, s, e, r, w, hq, _⟩ => hq _ _ F _ _ w (Same.refl F) s (e.set i r)
/-- names i, j, .. take the items of a tuple -/
def gNms : List Nat → WGs
  | [] => fun ds Γ M R _ => ds = [] ∧ R Γ M
  | i :: is => fun ds Γ M R RX => match ds with
    | d :: r => gNms is r (st Γ i d) M R RX
    | [] => False
/-- several names, by values -/
def tNms : List Nat → TGs
  | [] => gNil
  | i :: is => gCons (gName i) (tNms is)
theorem nms_ok {K : PySem.W.Frag} {F H : Hp} {Q : L2.St → Hp → Prop} {RX : DX} : ∀ {is : List Nat} {ds : List D} {vs : List V} {Γ : GE} {M : Mem} {R : GE → Mem → Prop} {σ : L2.St}, SOk K F H M → REnv K F Γ σ → Reps K F ds vs → gNms is ds Γ M R RX →
    (∀ Γ' M' F' σ' H', R Γ' M' → Same F F' → SOk K F' H' M' → REnv K F' Γ' σ' → Q σ' H') → tNms is vs σ H Q
  | [], ds, vs, Γ, M, R, σ, s, e, r, w, hq => by
    obtain ⟨ed, w⟩ := w
    subst ed
    cases r
    exact ⟨rfl, hq _ _ F _ _ w (Same.refl F) s e⟩
  | i :: is, ds, vs, Γ, M, R, σ, s, e, r, w, hq => by
    cases ds with
    | nil => exact w.elim
    | cons d ds =>
      obtain ⟨v, vr, ev, r1, r2⟩ := r
      exact ⟨v, vr, ev, nms_ok s (e.set i r1) r2 w hq⟩
/-- a, b, .. = a tuple, a list -/
def gTpl (is : List Nat) : WG := fun d Γ M R RX => match asT d with
  | some ds => ds.length = is.length ∧ gNms is ds Γ M R RX
  | none => False
theorem gtup {es : List Expr} {kk n : Nat} {is : List Nat} (h : PG X (.Tuple es kk pos) (gTup X.K n (tNms is))) (hn : is.length = n := by rfl) : QG X W (.Tuple es kk pos) (gTpl is) :=
  pg_imp h fun v σ H Q ⟨F, Γ, M, d, R, RX, s, e, r, w, hq, _⟩ => by
    unfold gTpl at w
    cases g : asT d with
    | none => rw [g] at w; exact w.elim
    | some ds =>
      rw [g] at w
      obtain ⟨a, vs, ea, ha, za, ga⟩ := rep_T s r g
      exact ⟨a, vs, ea, ha, by rw [ga.len, w.1, hn], nms_ok s e ga w.2 hq⟩
/-- o[i] = .. -/
def gSubD (wo wi : WE) : WG := fun d Γ M R RX => wo Γ M (fun x M1 => wi Γ M1 (fun k M2 => dPut x k d M2 fun M3 => R Γ M3) RX) RX
def rSetG : TSet := fun o i v H Q => rSetL o i v H Q ∨ ∃ a H', o = .ref a ∧ DPut H a i v H' ∧ Q H'
theorem set_any (hu : X.A.units + 1 < cLine) : PSet X rSetG := by
  intro pins s σ H o i v ov iv u Q I ro ri rv h
  rcases h with h | ⟨a, H', eo, g, q⟩
  · exact set_list pins s σ H o i v ov iv u Q I ro ri rv h
  · subst eo
    obtain rfl : ov = Value.ref a := ro
    exact d_setItem hu I g ri rv fun s4 I4 => ⟨H', I4, q⟩
theorem rep_put {K : PySem.W.Frag} {F H : Hp} {M : Mem} {x k d : D} {vx vk v : V} {R : Mem → Prop} {Q : Hp → Prop} (s : SOk K F H M) (rx : Rep K F x vx) (rk : Rep K F k vk) (rd : Rep K F d v) (h : dPut x k d M R)
    (q : ∀ M' H', R M' → SOk K F H' M' → Q H') : rSetG vx vk v H Q := by
  unfold dPut at h
  cases x with
  | ref a =>
    cases rx
    cases e : M a with
    | none => simp only [e] at h
    | some mo =>
      cases mo with
      | lst xs =>
        simp only [e] at h
        cases k with
        | int i =>
          simp only at h
          cases e2 : ixN xs.length i with
          | none => simp only [e2] at h
          | some j =>
            simp only [e2] at h
            cases rk
            obtain ⟨_, vs, h1, z, g⟩ := s.mem a _ e
            exact .inl ⟨a, vs, i, j, rfl, rfl, h1, by rw [g.len]; exact e2, q _ _ h (put_lst s e (by rw [List.length_set]; exact z) (g.set j rd))⟩
        | _ => exact h.elim
      | dK kvs =>
        simp only [e] at h
        cases e2 : dKey k with
        | none => simp only [e2] at h
        | some qk =>
          simp only [e2] at h
          obtain ⟨_, vs, h1, g⟩ := s.mem a _ e
          have ek := rep_key rk e2
          subst ek
          exact .inr ⟨a, _, rfl, .inl ⟨vs, qk, h1, rfl, by rw [g.len]; exact h.1, rfl⟩, q _ _ h.2 (s.put (.inr ⟨_, e⟩) ⟨_, upd_same, g.put qk rd⟩)⟩
      | dT kvs =>
        simp only [e] at h
        cases k with
        | kt qk =>
          simp only at h
          obtain ⟨_, vs, h1, g⟩ := s.mem a _ e
          obtain ⟨b, eb, hb, _⟩ := rk
          subst eb
          exact .inr ⟨a, _, rfl, .inr ⟨vs, qk, b, h1, rfl, s.sub _ _ hb, by rw [g.len]; exact h.1, rfl⟩, q _ _ h.2 (s.put (.inr ⟨_, e⟩) ⟨_, upd_same, g.put qk rd⟩)⟩
        | _ => exact h.elim
      | fK _ _ _ => simp only [e] at h
      | ins _ _ => simp only [e] at h
  | _ => exact h.elim
theorem gsub {wi : WE} (h : PG X e (gSub (lE X.K W wo) (lE X.K W wi) rSetG)) : QG X W e (gSubD wo wi) :=
  pg_imp h fun v σ H Q ⟨F, Γ, M, d, R, RX, s, e, r, w, hq, hx⟩ => ⟨F, Γ, M, _, RX, s, e, w, fun x M1 F1 H1 vx h1 s1 k1 r1 =>
    ⟨F1, Γ, M1, _, RX, k1, e.mono s1, h1, fun k M2 F2 H2 vk h2 s2 k2 r2 =>
      rep_put k2 (Rep.mono s2 _ _ r1) r2 (Rep.mono (s1.trans s2) _ _ r) h2 fun M3 H3 h3 k3 => hq _ _ F2 _ _ h3 (s1.trans s2) k3 (e.mono (s1.trans s2)), hx.mono s1⟩, hx⟩
/-- target = e -/
def wAsg (g : WG) (we : WE) : WS := fun R Γ M => we Γ M (fun d M1 => g d Γ M1 R.nx (fun c d M2 => R.ex c d Γ M2)) (fun c d M1 => R.ex c d Γ M1)
theorem stgt {g : WG} (h : PS X s1 (tAsg (lE X.K W we) (lG X.K W g))) : QS X W s1 (wAsg g we) := ps_imp h fun D σ H ⟨F, Γ, M, R, s, e, w, o⟩ =>
  ⟨F, Γ, M, _, _, s, e, w, fun d M1 F1 H1 v h1 s1 k1 r1 => ⟨F1, Γ, M1, d, _, _, k1, e.mono s1, r1, h1, fun Γ2 M2 F2 σ2 H2 h2 s2 k2 e2 => o.nx _ _ F2 _ _ h2 (s1.trans s2) k2 e2, (exOk o e).mono s1⟩, exOk o e⟩
/-- o.f = e -/
def wFldSet (C : Addr) (f : Str) (wo we : WE) : WS := fun R Γ M => we Γ M (fun y M1 => wo Γ M1 (fun x M2 => match x with
  | .ref a => (match M2 a with
    | some (.ins C' fs) => C' = C ∧ fs.length < 1000 ∧ R.nx Γ (mup M2 a (.ins C (fput f y fs)))
    | _ => False)
  | _ => False) (fun c d M1 => R.ex c d Γ M1)) (fun c d M1 => R.ex c d Γ M1)
theorem RepKV.fput {K : PySem.W.Frag} {F : Hp} {f : Str} {d : D} {v : V} (r : Rep K F d v) : ∀ {fs : List (Str × D)} {vf : List (Str × V)}, RepKV K F fs vf → RepKV K F (DL.fput f d fs) (putF f v vf)
  | [], _, h => by cases h; exact ⟨v, [], rfl, r, rfl⟩
  | (g, x) :: q, _, ⟨u, w, z, h1, h2⟩ => by
    subst z
    unfold DL.fput putF
    by_cases e : g = f
    · rw [if_pos e, if_pos e]; exact ⟨v, w, rfl, r, h2⟩
    · rw [if_neg e, if_neg e]; exact ⟨u, _, rfl, h1, RepKV.fput r h2⟩
theorem rep_fset {K : PySem.W.Frag} {F H : Hp} {M : Mem} {C : Addr} {f : Str} {x y : D} {vx vy : V} {R : Mem → Prop} (s : SOk K F H M) (rx : Rep K F x vx) (ry : Rep K F y vy)
    (h : ∃ a fs, x = .ref a ∧ M a = some (.ins C fs) ∧ fs.length < 1000 ∧ R (mup M a (.ins C (fput f y fs)))) : ∃ a dx vf, vx = .ref a ∧ H a = some (.ins C dx vf) ∧ vf.length < 1000 ∧ ∃ M', R M' ∧ SOk K F (upd H a (.ins C dx (putF f vy vf))) M' := by
  obtain ⟨a, fs, ex, e, l, h⟩ := h
  subst ex
  cases rx
  obtain ⟨_, dx, vf, h1, g⟩ := s.mem a _ e
  exact ⟨a, dx, vf, rfl, h1, by rw [g.len]; exact l, _, h, s.put (.inr ⟨_, e⟩) ⟨dx, _, upd_same, g.fput ry⟩⟩
theorem fset_un {C : Addr} {x : D} {M : Mem} {P : Addr → List (Str × D) → Prop} (h : match x with
  | .ref a => (match M a with
    | some (.ins C' fs) => C' = C ∧ P a fs
    | _ => False)
  | _ => False) : ∃ a fs, x = .ref a ∧ M a = some (.ins C fs) ∧ P a fs := by
  cases x with
  | ref a =>
    cases e : M a with
    | none => simp only [e] at h
    | some mo =>
      cases mo with
      | ins C' fs => simp only [e] at h; exact ⟨a, fs, rfl, by rw [e, h.1], h.2⟩
      | dK _ => simp only [e] at h
      | fK _ _ _ => simp only [e] at h
      | dT _ => simp only [e] at h
      | lst _ => simp only [e] at h
  | _ => exact h.elim
theorem sfld {C : Addr} {f : Str} (c : Cls X.K C) (nf : NoAttr X.K C f) (ho : QE X W o wo) (he : QE X W e we) (hs : swapsWith e (some (.Attribute o f pos')) pos.line X.env = pure false := by rfl) : QS X W (.Assign [.Attribute o f pos'] e pos) (wFldSet C f wo we) :=
  ps_imp (ps_fld ho he hs) fun D σ H ⟨F, Γ, M, R, s, e, w, o⟩ => ⟨F, Γ, M, _, _, s, e, w, fun y M1 F1 H1 vy h1 s1 k1 r1 =>
    ⟨F1, Γ, M1, _, _, k1, e.mono s1, h1, fun x M2 F2 H2 vx h2 s2 k2 r2 => by
      obtain ⟨a, dx, vf, ea, hi, hl, M3, h3, k3⟩ := rep_fset (R := fun M' => R.nx Γ M') k2 r2 (Rep.mono s2 _ _ r1) (fset_un (P := fun a fs => fs.length < 1000 ∧ R.nx Γ (mup M2 a (.ins C (fput f y fs)))) h2)
      exact ⟨a, C, dx, vf, ea, hi, c, nf, hl, o.nx _ _ F2 _ _ h3 (s1.trans s2) k3 (e.mono (s1.trans s2))⟩, (exOk o e).mono s1⟩, exOk o e⟩
/-- o.f += e -/
def wFldAug (C : Addr) (f : Str) (g : OD) (wo we : WE) : WS := fun R Γ M => wo Γ M (fun x M1 => match x with
  | .ref a => (match M1 a with
    | some (.ins C' fs) => C' = C ∧ ∃ v, fs.lookup f = some v ∧ we Γ M1 (fun y M2 => g v y M2 fun z M3 => ∃ fs', M3 a = some (.ins C fs') ∧ fs'.length < 1000 ∧ R.nx Γ (mup M3 a (.ins C (fput f z fs')))) (fun c d M1 => R.ex c d Γ M1)
    | _ => False)
  | _ => False) (fun c d M1 => R.ex c d Γ M1)
theorem sfldaug {C : Addr} {f : Str} {op : Operator} {rd : V → V → Hp → VK → Prop} {g : OD} (c : Cls X.K C) (nf : NoAttr X.K C f) (hop : InOp X op rd) (hl : LIp X.K rd g) (ho : QE X W o wo) (he : QE X W e we) {tpos : Pos} : QS X W (.AugAssign (.Attribute o f tpos) op e pos) (wFldAug C f g wo we) :=
  ps_imp (ps_fldaug ho he hop) fun D σ H ⟨F, Γ, M, R, s, e, w, o⟩ => ⟨F, Γ, M, _, _, s, e, w, fun x M1 F1 H1 vx h1 s1 k1 r1 => by
    obtain ⟨a, fs, ex, em, v, hv, h9⟩ := fset_un (P := fun a fs => ∃ v, fs.lookup f = some v ∧ we Γ M1 (fun y M2 => g v y M2 fun z M3 => ∃ fs', M3 a = some (.ins C fs') ∧ fs'.length < 1000 ∧ R.nx Γ (mup M3 a (.ins C (fput f z fs')))) (fun c d M1 => R.ex c d Γ M1)) h1
    subst ex
    cases r1
    obtain ⟨dx, vf, hi, rf⟩ := rep_ins k1 em
    obtain ⟨vv, hvv, rv⟩ := rf.lookup hv
    refine ⟨a, C, dx, vf, vv, rfl, hi, c, nf, hvv, F1, Γ, M1, _, _, k1, e.mono s1, h9, fun y M2 F2 H2 vy h2 s2 k2 r2 => ?_, (exOk o e).mono s1⟩
    refine hl v y vv vy F2 H2 M2 _ _ k2 (Rep.mono s2 _ _ rv) r2 h2 fun z M3 F3 H3 vz h3 s3 k3 r3 => ?_
    obtain ⟨fs', e3, l3, h3⟩ := h3
    obtain ⟨_, dx', vf', hi', g'⟩ := k3.mem a _ e3
    exact ⟨dx', vf', hi', by rw [g'.len]; exact l3, o.nx _ _ F3 _ _ h3 ((s1.trans s2).trans s3) (k3.put (.inr ⟨_, e3⟩) ⟨dx', _, upd_same, g'.fput r3⟩) (e.mono ((s1.trans s2).trans s3))⟩, exOk o e⟩
theorem lrAdd {K : PySem.W.Frag} : LIp K rAdd fAddI := by
  intro x y vx vy F H M R Q s rx ry h q
  cases x with
  | int i =>
    cases y with
    | int j =>
      cases rx; cases ry
      exact ⟨i, j, rfl, rfl, q _ _ _ _ _ h (Same.refl F) s rfl⟩
    | _ => exact h.elim
  | _ => exact h.elim
theorem lrSub {K : PySem.W.Frag} : LIp K rSub fSub := by
  intro x y vx vy F H M R Q s rx ry h q
  cases x with
  | int i =>
    cases y with
    | int j =>
      cases rx; cases ry
      exact ⟨i, j, rfl, rfl, q _ _ _ _ _ h (Same.refl F) s rfl⟩
    | _ => exact h.elim
  | _ => exact h.elim
/-- o[i] += e -/
def wAugSub (g : OD) (wo wi we : WE) : WS := fun R Γ M => wo Γ M (fun x M1 => wi Γ M1 (fun k M2 => fIxG x k M2 fun old M3 => we Γ M3 (fun y M4 => g old y M4 fun z M5 => dPut x k z M5 fun M6 => R.nx Γ M6) (fun c d M1 => R.ex c d Γ M1)) (fun c d M1 => R.ex c d Γ M1)) (fun c d M1 => R.ex c d Γ M1)
end
end DL

set_option Elab.async false
set_option backward.match.sparseCases false
set_option linter.all false
set_option maxRecDepth 100000
set_option maxHeartbeats 4000000
/-! DL8: loops, comprehensions, defs by their bodies. -/
namespace DL
open PySem PySem.Spec PyProof.Rows L2

section
variable {X : Cx} {W : WX} {e o a b : Expr} {we wo wa wb : WE} {pos pos' : Pos} {s1 : Stmt} {ss : List Stmt} {t u : WS} {i : Nat} {x : Str}
/-! ### o[i] op= e -/
theorem pget_any (hu : X.A.units + 1 < cLine) : PGet X (fun x y H Q => rIxL X.K x y H Q ∨ ∃ a v, x = .ref a ∧ DGet H a y (some v) ∧ Q v H) := by
  intro pins s σ H x y v u Q I rx ry h
  rcases h with ⟨p, xs, i, z, rfl, rfl, hq, he, q⟩ | ⟨a, w, ex, g, q⟩
  · cases rx
    obtain ⟨t, rfl⟩ := ry
    obtain ⟨its, r, pl, hz⟩ := I.list hq
    obtain ⟨j, h1, h2, h3, h4, h5⟩ := atI_get he
    obtain ⟨w, ew, rw'⟩ := r.get h2
    have hl := r.length
    have hn := line63
    have fin : EP X pins σ Q w s := ⟨z, H, I, rw', q⟩
    by_cases h0 : 0 ≤ i
    · have hj : i.toNat = j := by
        rw [seqIndex_of h0 h5] at h1
        exact Option.some.inj h1
      exact wpAny_getItem_list pl.isList h0 (by omega) (by rw [hj]; simpa using ew) fin
    · have hj : (i + (its.toArray.size : Int)).toNat = j := by
        rw [seqIndex_neg (by omega) h4] at h1
        rw [List.size_toArray, ← hl]
        exact Option.some.inj h1
      exact wpAny_getItem_list_neg pl.isList (by omega) (by rw [List.size_toArray] <;> omega) (by omega) (by rw [hj]; simpa using ew) fin
  · subst ex
    obtain rfl : v = Value.ref a := rx
    exact d_getItem hu I g ry fun w' s3 I3 rw' => ⟨w, H, I3, rw', q⟩
/-- x[k] of a list, a dict -/
def fIxL : OD := fun x y M R => match dGet x y M with
  | some o => (match o with
    | some d => R d M
    | none => False)
  | none => (match y with
    | .int i => (match asL x M with
      | some xs => (match atI xs i with
        | some d => R d M
        | none => False)
      | none => False)
    | _ => False)
theorem lIxL {K : PySem.W.Frag} : LOp K (fun x y H Q => rIxL K x y H Q ∨ ∃ a v, x = .ref a ∧ DGet H a y (some v) ∧ Q v H) fIxL := by
  intro x y vx vy F H M R Q s rx ry h q
  unfold fIxL at h
  cases e : dGet x y M with
  | some o =>
    rw [e] at h
    cases o with
    | none => exact h.elim
    | some d =>
      obtain ⟨a, ea, f1, _⟩ := rep_dGet s rx ry e
      obtain ⟨v, hv, rv⟩ := f1 d rfl
      exact .inr ⟨a, v, ea, hv, q _ _ _ _ _ h (Same.refl F) s rv⟩
  | none =>
    rw [e] at h
    simp only at h
    split at h
    · rename_i i
      cases ry
      cases e1 : asL x M with
      | none => simp only [e1] at h
      | some xs =>
        simp only [e1] at h
        cases e2 : atI xs i with
        | none => simp only [e2] at h
        | some d =>
          simp only [e2] at h
          obtain ⟨a, vs, ea, ha, za, ga⟩ := rep_L s rx e1
          obtain ⟨v, hv, rv⟩ := ga.at e2
          exact .inl ⟨a, vs, i, v, ea, rfl, ha, hv, q _ _ _ _ _ h (Same.refl F) s rv⟩
    · exact h.elim
def wAugS (g : OD) (wo wi we : WE) : WS := fun R Γ M => wo Γ M (fun x M1 => wi Γ M1 (fun k M2 => fIxL x k M2 fun old M3 => we Γ M3 (fun y M4 => g old y M4 fun z M5 => dPut x k z M5 fun M6 => R.nx Γ M6) (fun c d M1 => R.ex c d Γ M1)) (fun c d M1 => R.ex c d Γ M1)) (fun c d M1 => R.ex c d Γ M1)
theorem saugS {k : Nat} {op : Operator} {tip : TIp} {g : OD} {i : Expr} {wi : WE} {tpos : Pos} (hr : Room k X.A) (hp : PIp X op tip) (hl : LIp X.K tip g) (ho : QE X W o wo) (hi : QE X W i wi) (he : QE X W e we)
    (ha : ∀ ov iv new, augStore i ov iv new = (do holding [new, ov, iv] (setItem ov iv new); release [new, ov, iv] []; pure .next) := by intros; rfl) : QS X W (.AugAssign (.Subscript o i tpos) op e pos) (wAugS g wo wi we) :=
  ps_imp (ps_augS ho hi (pget_any (hu_of hr)) he hp (set_any (hu_of hr)) ha) fun D σ H ⟨F, Γ, M, R, s, e, w, o⟩ => ⟨F, Γ, M, _, _, s, e, w, fun x M1 F1 H1 vx h1 s1 k1 r1 =>
    ⟨F1, Γ, M1, _, _, k1, e.mono s1, h1, fun y M2 F2 H2 vy h2 s2 k2 r2 =>
      lIxL x y vx vy F2 H2 M2 _ _ k2 (Rep.mono s2 _ _ r1) r2 h2 fun old M3 F3 H3 vo h3 s3 k3 r3 =>
        ⟨F3, Γ, M3, _, _, k3, e.mono ((s1.trans s2).trans s3), h3, fun z M4 F4 H4 vz h4 s4 k4 r4 =>
          hl old z vo vz F4 H4 M4 _ _ k4 (Rep.mono s4 _ _ r3) r4 h4 fun n M5 F5 H5 vn h5 s5 k5 r5 =>
            rep_put k5 (Rep.mono (((s2.trans s3).trans s4).trans s5) _ _ r1) (Rep.mono ((s3.trans s4).trans s5) _ _ r2) r5 h5 fun M6 H6 h6 k6 =>
              o.nx _ _ F5 _ _ h6 ((((s1.trans s2).trans s3).trans s4).trans s5) k6 (e.mono ((((s1.trans s2).trans s3).trans s4).trans s5)), (exOk o e).mono ((s1.trans s2).trans s3)⟩, (exOk o e).mono s1⟩, exOk o e⟩

/-! ### while -/
/-- less told -/
def Wk (I : GE → Mem → Prop) (Γ : GE) (M : Mem) : Prop := ∃ Γ' M', LeG Γ' Γ ∧ LeM M' M ∧ I Γ' M'
theorem Wk.of {I : GE → Mem → Prop} {Γ : GE} {M : Mem} (h : I Γ M) : Wk I Γ M := ⟨Γ, M, LeG.refl Γ, LeM.refl M, h⟩
def wWhile (c : WT) (b : WS) : WS := fun R Γ M => ∃ I : Nat → GE → Mem → Prop, (∃ m, I m Γ M) ∧ ∀ m Γ M, I m Γ M →
  c Γ M (fun k M1 => if k = true then b { R with nx := Wk fun Γ' M' => ∃ m', m' < m ∧ I m' Γ' M', ct := Wk fun Γ' M' => ∃ m', m' < m ∧ I m' Γ' M', bk := R.nx } Γ M1 else R.nx Γ M1) (fun c d M1 => R.ex c d Γ M1)
theorem swhile {c : Expr} {tc : WT} {body : List Stmt} (hp : PassesOwn (model X.prog X.w) X.A X.env X.xe) (hc : QT X W c tc) (hb : QSs X W body t) : QS X W (.While c body [] pos) (wWhile tc t) :=
  ps_imp (ps_while hp hc hb) fun D σ H ⟨F, Γ, M, R, s, e, ⟨I, ⟨m0, h0⟩, step⟩, o⟩ => by
    refine ⟨fun m σ1 H1 => ∃ F1 Γ1 M1, Same F F1 ∧ SOk X.K F1 H1 M1 ∧ REnv X.K F1 Γ1 σ1 ∧ I m Γ1 M1, ⟨m0, F, Γ, M, Same.refl F, s, e, h0⟩, ?_⟩
    rintro m σ1 H1 ⟨F1, Γ1, M1, s1, k1, e1, h1⟩
    have back : ∀ Γ' M' F' σ' H', (Wk fun Γ' M' => ∃ m', m' < m ∧ I m' Γ' M') Γ' M' → Same F1 F' → SOk X.K F' H' M' → REnv X.K F' Γ' σ' → ∃ m', m' < m ∧ ∃ F1 Γ1 M1, Same F F1 ∧ SOk X.K F1 H' M1 ∧ REnv X.K F1 Γ1 σ' ∧ I m' Γ1 M1 := by
      rintro Γ' M' F' σ' H' ⟨Γ2, M2, l1, l2, m', hm, h2⟩ s2 k2 e2
      exact ⟨m', hm, F', Γ2, M2, s1.trans s2, k2.le l2, e2.le l1, h2⟩
    refine ⟨F1, Γ1, M1, _, _, k1, e1, step m Γ1 M1 h1, fun k M2 F2 H2 h2 s2 k2 => ?_, exOk (o.mono s1) e1⟩
    cases k with
    | true =>
      refine iteT ⟨fun σ' H' => ∃ m', m' < m ∧ ∃ F1 Γ1 M1, Same F F1 ∧ SOk X.K F1 H' M1 ∧ REnv X.K F1 Γ1 σ' ∧ I m' Γ1 M1, fun σ' H' z => z, F2, Γ1, M2, _, k2, e1.mono s2, by simpa using h2, ?_⟩
      exact ⟨fun Γ' M' F' σ' H' z a b c => back Γ' M' F' σ' H' z (s2.trans a) b c, (o.mono (s1.trans s2)).rt, (o.mono (s1.trans s2)).nx, fun Γ' M' F' σ' H' z a b c => back Γ' M' F' σ' H' z (s2.trans a) b c, (o.mono (s1.trans s2)).ex⟩
    | false => exact iteF (o.nx _ _ F2 _ _ (by simpa using h2) (s1.trans s2) k2 (e1.mono s2))
/-- a while by a state of one's own: st, what holds P, what falls μ -/
theorem while_st {c : WT} {b : WS} {R : EndsD} {Γ : GE} {M : Mem} {α : Type} (g : α → GE) (mm : α → Mem) (P : α → Prop) (μ : α → Nat) (a0 : α) (hg : LeG (g a0) Γ → True) (h0 : Γ = g a0) (h0' : M = mm a0) (hP : P a0)
    (hs : ∀ a, P a → c (g a) (mm a) (fun k M1 => if k = true then b { R with nx := Wk fun Γ' M' => ∃ a', P a' ∧ μ a' < μ a ∧ Γ' = g a' ∧ M' = mm a', ct := Wk fun Γ' M' => ∃ a', P a' ∧ μ a' < μ a ∧ Γ' = g a' ∧ M' = mm a', bk := R.nx } (g a) M1 else R.nx (g a) M1) (fun c d M1 => R.ex c d (g a) M1)) : wWhile c b R Γ M := by
  refine ⟨fun m Γ M => ∃ a, P a ∧ m = μ a ∧ Γ = g a ∧ M = mm a, ⟨_, a0, hP, rfl, h0, h0'⟩, ?_⟩
  rintro m Γ M ⟨a, pa, rfl, rfl, rfl⟩
  have q := hs a pa
  have e : (fun Γ' M' => ∃ m', m' < μ a ∧ ∃ a', P a' ∧ m' = μ a' ∧ Γ' = g a' ∧ M' = mm a') = (fun Γ' M' => ∃ a', P a' ∧ μ a' < μ a ∧ Γ' = g a' ∧ M' = mm a') := by
    funext Γ' M'
    apply propext
    constructor
    · rintro ⟨m', h, a', p, rfl, x, y⟩; exact ⟨a', p, h, x, y⟩
    · rintro ⟨a', p, h, x, y⟩; exact ⟨_, h, a', p, rfl, x, y⟩
  rw [e]
  exact q

/-! ### what a for walks -/
/-- the iterator J gives the items xs while C holds of the store -/
structure Walks (K : PySem.W.Frag) (J : It) (F0 : Hp) (C : Mem → Prop) (xs : List D) : Prop where
  go : ∀ F H M i, Same F0 F → SOk K F H M → C M → i < xs.length → J.go i H
  yld : ∀ F H M i x H', Same F0 F → SOk K F H M → C M → i < xs.length → J.yld i H x H' → H' = H ∧ ∃ d, xs[i]? = some d ∧ Rep K F d x
  stop : ∀ F H M, Same F0 F → SOk K F H M → C M → J.stop xs.length H
theorem Walks.mono {K : PySem.W.Frag} {J : It} {F0 F1 : Hp} {C : Mem → Prop} {xs : List D} (w : Walks K J F0 C xs) (s : Same F0 F1) : Walks K J F1 C xs :=
  ⟨fun F H M i a => w.go F H M i (s.trans a), fun F H M i x H' a => w.yld F H M i x H' (s.trans a), fun F H M a => w.stop F H M (s.trans a)⟩
abbrev WI := GE → Mem → (List D → (Mem → Prop) → Mem → Prop) → DX → Prop
/-- z: whether the walk's length is known to be small -/
def lI (K : PySem.W.Frag) (W : WX) (z : Prop) (wi : WI) : TI := fun σ H R => ∃ F Γ M P RX, SOk K F H M ∧ REnv K F Γ σ ∧ wi Γ M P RX ∧
  (∀ xs C M' F' H' J, P xs C M' → (z → xs.length ≤ sizeLine) → Same F F' → SOk K F' H' M' → C M' → Walks K J F' C xs → R J H') ∧ RXok K W F σ RX
abbrev QI (X : Cx) (W : WX) (z : Prop) (tg iter : Expr) (wi : WI) : Prop := PI X tg iter (lI X.K W z wi)
variable {tg iter : Expr} {z : Prop}
/-- over a list: a tree, or one of the store that stays -/
def wiSeq (we : WE) : WI := fun Γ M P RX => we Γ M (fun d M1 => match d with
  | .ref a => (match M1 a with
    | some (.lst ds) => P ds (fun M' => M' a = some (.lst ds)) M1
    | _ => False)
  | d => (match asL d M1 with
    | some ds => P ds (fun _ => True) M1
    | none => False)) RX
theorem get_lt {α : Type} {xs : List α} {i : Nat} (h : i < xs.length) : ∃ x, xs[i]? = some x := ⟨xs[i], by simp [h]⟩
theorem walks_SqL {K : PySem.W.Frag} {F0 : Hp} {C : Mem → Prop} {a : Addr} {ds : List D} (hv : ∀ F H M, Same F0 F → SOk K F H M → C M → ∃ vs, SqL K H a vs ∧ Reps K F ds vs) : Walks K (Itl K a) F0 C ds where
  go := fun F H M i s k c hi => by
    obtain ⟨vs, hv, g⟩ := hv F H M s k c
    obtain ⟨x, hx⟩ := get_lt (xs := vs) (by rw [g.len]; exact hi)
    exact ⟨vs, x, hv, hx⟩
  yld := fun F H M i x H' s k c hi y => by
    obtain ⟨vs, hv, g⟩ := hv F H M s k c
    obtain ⟨e, y⟩ := y
    obtain ⟨d, hd, r⟩ := g.getV i x (y vs hv)
    exact ⟨e, d, hd, r⟩
  stop := fun F H M s k c => by
    obtain ⟨vs, hv, g⟩ := hv F H M s k c
    exact ⟨vs, hv, by rw [g.len]; exact Nat.le_refl _⟩
theorem walks_SqT {K : PySem.W.Frag} {F0 : Hp} {C : Mem → Prop} {a : Addr} {ds : List D} (hv : ∀ F H M, Same F0 F → SOk K F H M → C M → ∃ vs, SqT K H a vs ∧ Reps K F ds vs) : Walks K (Itt K a) F0 C ds where
  go := fun F H M i s k c hi => by
    obtain ⟨vs, hv, g⟩ := hv F H M s k c
    obtain ⟨x, hx⟩ := get_lt (xs := vs) (by rw [g.len]; exact hi)
    exact ⟨vs, x, hv, hx⟩
  yld := fun F H M i x H' s k c hi y => by
    obtain ⟨vs, hv, g⟩ := hv F H M s k c
    obtain ⟨e, y⟩ := y
    obtain ⟨d, hd, r⟩ := g.getV i x (y vs hv)
    exact ⟨e, d, hd, r⟩
  stop := fun F H M s k c => by
    obtain ⟨vs, hv, g⟩ := hv F H M s k c
    exact ⟨vs, hv, by rw [g.len]; exact Nat.le_refl _⟩
theorem rep_LF {K : PySem.W.Frag} {F : Hp} {M : Mem} {d : D} {v : V} {ds : List D} (r : Rep K F d v) (e : asL d M = some ds) (nr : ∀ a, d ≠ .ref a) : ∃ a vs, v = .ref a ∧ SqL K F a vs ∧ vs.length ≤ sizeLine ∧ Reps K F ds vs := by
  cases d with
  | lst xs =>
    obtain ⟨a, vs, q, h, z, g⟩ := r
    cases e
    exact ⟨a, vs, q, .of h, z, g⟩
  | ref a => exact absurd rfl (nr a)
  | scr ns =>
    obtain ⟨a, q, h, z⟩ := r
    cases e
    exact ⟨a, _, q, h, by rw [List.length_map]; exact z, Reps.ofInts ns⟩
  | _ => cases e
theorem ilist (h : QE X W iter we) : QI X W z tg iter (wiSeq we) := pi_imp (pi_list h) fun σ H R ⟨F, Γ, M, P, RX, s, e, w, hq, hx⟩ => ⟨F, Γ, M, _, RX, s, e, w, fun d M1 F1 H1 v h1 s1 k1 r1 => by
  have tree : ∀ {ds : List D}, asL d M1 = some ds → (∀ a, d ≠ .ref a) → P ds (fun _ => True) M1 → ∃ a, v = V.ref a ∧ (∃ xs, SqL X.K H1 a xs) ∧ R (Itl X.K a) H1 := by
    intro ds e1 nr h1
    obtain ⟨a, vs, ea, ha, za, ga⟩ := rep_LF r1 e1 nr
    exact ⟨a, ea, ⟨vs, k1.sub.seq ha⟩, hq ds _ M1 F1 H1 _ h1 (fun _ => by rw [← ga.len]; exact za) s1 k1 True.intro (walks_SqL fun F H M sF k _ => ⟨vs, (sF.trans k.sub).seq ha, Reps.mono sF _ _ ga⟩)⟩
  cases d with
  | ref a =>
    simp only at h1
    cases e1 : M1 a with
    | none => simp only [e1] at h1
    | some mo =>
      cases mo with
      | lst ds =>
        simp only [e1] at h1
        cases r1
        obtain ⟨_, vs, hvs, z, g⟩ := k1.mem a _ e1
        exact ⟨a, rfl, ⟨vs, .of hvs⟩, hq ds _ M1 F1 H1 _ h1 (fun _ => by rw [← g.len]; exact z) s1 k1 e1 (walks_SqL fun F H M sF k c => by
          obtain ⟨_, us, h2, _, g2⟩ := k.mem a _ c
          exact ⟨us, .of h2, g2⟩)⟩
      | dK _ => simp only [e1] at h1
      | dT _ => simp only [e1] at h1
      | fK _ _ _ => simp only [e1] at h1
      | ins _ _ => simp only [e1] at h1
  | lst ds => exact tree rfl (fun _ q => by cases q) h1
  | scr ns => exact tree rfl (fun _ q => by cases q) h1
  | _ => exact h1.elim, hx⟩
/-- over a tuple -/
def wiTup (we : WE) : WI := fun Γ M P RX => we Γ M (fun d M1 => match asT d with
  | some ds => P ds (fun _ => True) M1
  | none => False) RX
theorem ituple (h : QE X W iter we) : QI X W z tg iter (wiTup we) := pi_imp (pi_tup h) fun σ H R ⟨F, Γ, M, P, RX, s, e, w, hq, hx⟩ => ⟨F, Γ, M, _, RX, s, e, w, fun d M1 F1 H1 v h1 s1 k1 r1 => by
  cases e1 : asT d with
  | none => rw [e1] at h1; exact h1.elim
  | some ds =>
    rw [e1] at h1
    obtain ⟨a, vs, ea, ha, za, ga⟩ := rep_TF r1 e1
    exact ⟨a, ea, ⟨vs, sameT k1.sub ha⟩, hq ds _ M1 F1 H1 _ h1 (fun _ => by rw [← ga.len]; exact za) s1 k1 True.intro (walks_SqT fun F H M sF k _ => ⟨vs, sameT (sF.trans k.sub) ha, Reps.mono sF _ _ ga⟩)⟩, hx⟩
/-- the ints lo, lo + c, .. -/
def upto (lo c : Int) (n : Nat) : List D := (List.range n).map fun (i : Nat) => D.int (lo + (i : Int) * c)
theorem upto_len (lo c : Int) (n : Nat) : (upto lo c n).length = n := by simp [upto]
theorem upto_get {lo c : Int} {n i : Nat} (h : i < n) : (upto lo c n)[i]? = some (.int (lo + (i : Int) * c)) := by simp [upto, h]
theorem walks_range {K : PySem.W.Frag} {F0 : Hp} {C : Mem → Prop} {lo : Int} {n : Nat} : Walks K (Itr lo n) F0 C (upto lo 1 n) where
  go := fun F H M i _ _ _ hi => by rw [upto_len] at hi; exact hi
  yld := fun F H M i x H' _ _ _ hi y => by
    rw [upto_len] at hi
    obtain ⟨e, y⟩ := y
    exact ⟨e, _, upto_get hi, by rw [y, Int.mul_one]; rfl⟩
  stop := fun F H M _ _ _ => by rw [upto_len]; exact Nat.le_refl n
theorem walks_rangeC {K : PySem.W.Frag} {F0 : Hp} {C : Mem → Prop} {lo c : Int} {n : Nat} : Walks K (Itc lo c n) F0 C (upto lo c n) where
  go := fun F H M i _ _ _ hi => by rw [upto_len] at hi; exact hi
  yld := fun F H M i x H' _ _ _ hi y => by
    rw [upto_len] at hi
    obtain ⟨e, y⟩ := y
    exact ⟨e, _, upto_get hi, by rw [y]; rfl⟩
  stop := fun F H M _ _ _ => by rw [upto_len]; exact Nat.le_refl n
def inLine (i : Int) : Prop := -(2 ^ 62) ≤ i ∧ i < 2 ^ 62
/-- range(n) -/
def wiR1 (z : Prop) (we : WE) : WI := fun Γ M P RX => we Γ M (fun d M1 => match d with
  | .int n => inLine n ∧ (z → n ≤ 16777216) ∧ P (upto 0 1 n.toNat) (fun _ => True) M1
  | _ => False) RX
variable {p : Pos} {nm : Nat}
theorem lane {te : WE} (h : QE X W a te) (hs : starEach [a] X.env = (false, eval a X.env) :: starEach [] X.env := by rfl) : QA X W [a] 1 (wCons te wNil) := acons h anil hs
theorem irange1 (hg : Gl X "range") (hm : X.mg "range" = none) (ha : QE X W a wa) (hs : starEach [a] X.env = [(false, eval a X.env)] := by rfl) : QI X W z tg (.Call (.Name "range" p) [a] [] pos) (wiR1 z wa) :=
  pi_imp (pi_range1 hg hm (lane ha hs) hs) fun σ H R ⟨F, Γ, M, P, RX, s, e, w, hq, hx⟩ => ⟨F, Γ, M, fun ds M1 => ∃ n : Int, ds = [.int n] ∧ inLine n ∧ (z → n ≤ 16777216) ∧ P (upto 0 1 n.toNat) (fun _ => True) M1, RX, s, e, by
    show wa Γ M (fun d M1 => ∃ n : Int, [d] = [.int n] ∧ _) RX
    have q : (fun (d : D) (M1 : Mem) => ∃ n : Int, [d] = [D.int n] ∧ inLine n ∧ (z → n ≤ 16777216) ∧ P (upto 0 1 n.toNat) (fun _ => True) M1) = (fun d M1 => match d with
      | .int n => inLine n ∧ (z → n ≤ 16777216) ∧ P (upto 0 1 n.toNat) (fun _ => True) M1
      | _ => False) := by
      funext d M1
      apply propext
      constructor
      · rintro ⟨n, e, h⟩; cases e; exact h
      · intro h
        cases d with
        | int n => exact ⟨n, rfl, h⟩
        | _ => exact h.elim
    rw [q]; exact w, fun ds M1 F1 H1 vs h1 _ s1 k1 r1 => by
    obtain ⟨n, ed, hl, hz, h1⟩ := h1
    subst ed
    obtain ⟨v, ev, rv⟩ := reps1 r1
    cases rv
    exact ⟨n, ev, hl.1, hl.2, hq _ _ M1 F1 H1 _ h1 (fun hh => by have := hz hh; rw [upto_len, sizeLine_eq]; omega) s1 k1 True.intro walks_range⟩, hx⟩
/-- range(a, b) -/
def wiR2 (z : Prop) (wa wb : WE) : WI := fun Γ M P RX => wa Γ M (fun d M1 => wb Γ M1 (fun d2 M2 => match d, d2 with
  | .int i, .int j => inLine i ∧ inLine j ∧ (z → j - i ≤ 16777216) ∧ P (upto i 1 (j - i).toNat) (fun _ => True) M2
  | _, _ => False) RX) RX
theorem irange2 (hg : Gl X "range") (hm : X.mg "range" = none) (ha : QE X W a wa) (hb : QE X W b wb) (hs : starEach [a, b] X.env = [(false, eval a X.env), (false, eval b X.env)] := by rfl) (hs2 : starEach [b] X.env = [(false, eval b X.env)] := by rfl) : QI X W z tg (.Call (.Name "range" p) [a, b] [] pos) (wiR2 z wa wb) :=
  pi_imp (pi_range2 hg hm (acons (W := W) ha (acons hb anil hs2) (by rw [hs, hs2])) hs hs2) fun σ H R ⟨F, Γ, M, P, RX, s, e, w, hq, hx⟩ => ⟨F, Γ, M, fun ds M1 => ∃ d d2, ds = [d, d2] ∧ (match d, d2 with
      | .int i, .int j => inLine i ∧ inLine j ∧ (z → j - i ≤ 16777216) ∧ P (upto i 1 (j - i).toNat) (fun _ => True) M1
      | _, _ => False), RX, s, e, by
    show wa Γ M (fun d M1 => wb Γ M1 (fun d2 M2 => ∃ x y, [d, d2] = [x, y] ∧ _) _) _
    have q : (fun (d : D) (M1 : Mem) => wb Γ M1 (fun d2 M2 => ∃ x y, [d, d2] = [x, y] ∧ (match x, y with
      | .int i, .int j => inLine i ∧ inLine j ∧ (z → j - i ≤ 16777216) ∧ P (upto i 1 (j - i).toNat) (fun _ => True) M2
      | _, _ => False)) RX) = (fun d M1 => wb Γ M1 (fun d2 M2 => match d, d2 with
      | .int i, .int j => inLine i ∧ inLine j ∧ (z → j - i ≤ 16777216) ∧ P (upto i 1 (j - i).toNat) (fun _ => True) M2
      | _, _ => False) RX) := by
      funext d M1
      congr 1
      funext d2 M2
      apply propext
      constructor
      · rintro ⟨x, y, e, h⟩; cases e; exact h
      · intro h; exact ⟨d, d2, rfl, h⟩
    rw [q]; exact w, fun ds M1 F1 H1 vs h1 _ s1 k1 r1 => by
    obtain ⟨d, d2, ed, h1⟩ := h1
    subst ed
    obtain ⟨v, v2, ev, r2, r3⟩ := reps2 r1
    cases d with
    | int i =>
      cases d2 with
      | int j =>
        cases r2; cases r3
        obtain ⟨h2, h3, hz, h1⟩ := h1
        exact ⟨i, j, ev, ⟨h2.1, h2.2, h3.1, h3.2⟩, hq _ _ M1 F1 H1 _ h1 (fun hh => by have := hz hh; rw [upto_len, sizeLine_eq]; omega) s1 k1 True.intro walks_range⟩
      | _ => exact h1.elim
    | _ => exact h1.elim, hx⟩
/-- range(a, b, c) -/
def wiR3 (z : Prop) (wa wb wc : WE) : WI := fun Γ M P RX => wa Γ M (fun d M1 => wb Γ M1 (fun d2 M2 => wc Γ M2 (fun d3 M3 => match d, d2, d3 with
  | .int i, .int j, .int c => ∃ n, RgC i j c n ∧ (z → n ≤ 16777216) ∧ P (upto i c n) (fun _ => True) M3
  | _, _, _ => False) RX) RX) RX
theorem irange3 {c : Expr} {wc : WE} (hg : Gl X "range") (hm : X.mg "range" = none) (ha : QE X W a wa) (hb : QE X W b wb) (hc : QE X W c wc)
    (hs : starEach [a, b, c] X.env = (false, eval a X.env) :: starEach [b, c] X.env := by rfl) (hs2 : starEach [b, c] X.env = (false, eval b X.env) :: starEach [c] X.env := by rfl) (hs3 : starEach [c] X.env = (false, eval c X.env) :: starEach [] X.env := by rfl) (hpl : (backTo pos (starEach [b, c] X.env)).any (·.1) = false := by rfl) : QI X W z tg (.Call (.Name "range" p) [a, b, c] [] pos) (wiR3 z wa wb wc) :=
  pi_imp (pi_range3 hg hm (acons (W := W) ha (acons hb (acons hc anil hs3) hs2) hs) hs hpl) fun σ H R ⟨F, Γ, M, P, RX, s, e, w, hq, hx⟩ => ⟨F, Γ, M, fun ds M1 => ∃ d d2 d3, ds = [d, d2, d3] ∧ (match d, d2, d3 with
      | .int i, .int j, .int c => ∃ n, RgC i j c n ∧ (z → n ≤ 16777216) ∧ P (upto i c n) (fun _ => True) M1
      | _, _, _ => False), RX, s, e, by
    show wa Γ M (fun d M1 => wb Γ M1 (fun d2 M2 => wc Γ M2 (fun d3 M3 => ∃ x y u, [d, d2, d3] = [x, y, u] ∧ _) _) _) _
    have q : (fun (d : D) (M1 : Mem) => wb Γ M1 (fun d2 M2 => wc Γ M2 (fun d3 M3 => ∃ x y u, [d, d2, d3] = [x, y, u] ∧ (match x, y, u with
      | .int i, .int j, .int c => ∃ n, RgC i j c n ∧ (z → n ≤ 16777216) ∧ P (upto i c n) (fun _ => True) M3
      | _, _, _ => False)) RX) RX) = (fun d M1 => wb Γ M1 (fun d2 M2 => wc Γ M2 (fun d3 M3 => match d, d2, d3 with
      | .int i, .int j, .int c => ∃ n, RgC i j c n ∧ (z → n ≤ 16777216) ∧ P (upto i c n) (fun _ => True) M3
      | _, _, _ => False) RX) RX) := by
      funext d M1
      congr 1
      funext d2 M2
      congr 1
      funext d3 M3
      apply propext
      constructor
      · rintro ⟨x, y, u, e, h⟩; cases e; exact h
      · intro h; exact ⟨d, d2, d3, rfl, h⟩
    rw [q]; exact w, fun ds M1 F1 H1 vs h1 _ s1 k1 r1 => by
    obtain ⟨d, d2, d3, ed, h1⟩ := h1
    subst ed
    obtain ⟨v, vr, ev, r2, v2, vr2, ev2, r3, v3, vr3, ev3, r4, r5⟩ := r1
    subst ev2 ev3
    cases r5
    cases d with
    | int i =>
      cases d2 with
      | int j =>
        cases d3 with
        | int c =>
          cases r2; cases r3; cases r4
          obtain ⟨n, hr, hz, h1⟩ := h1
          exact ⟨i, j, c, n, ev, hr, hq _ _ M1 F1 H1 _ h1 (fun hh => by have := hz hh; rw [upto_len, sizeLine_eq]; exact this) s1 k1 True.intro walks_rangeC⟩
        | _ => exact h1.elim
      | _ => exact h1.elim
    | _ => exact h1.elim, hx⟩
/-- over a text -/
def wiStr (we : WE) : WI := fun Γ M P RX => we Γ M (fun d M1 => match d with
  | .str x => P (x.cps.toList.map fun c => D.str ⟨#[c]⟩) (fun _ => True) M1
  | _ => False) RX
theorem istr (h : QE X W iter we) : QI X W False tg iter (wiStr we) := pi_imp (pi_str h) fun σ H R ⟨F, Γ, M, P, RX, s, e, w, hq, hx⟩ => ⟨F, Γ, M, _, RX, s, e, w, fun d M1 F1 H1 v h1 s1 k1 r1 => by
  cases d with
  | str x =>
    cases r1
    refine ⟨x, rfl, hq _ _ M1 F1 H1 _ h1 (fun z => z.elim) s1 k1 True.intro ⟨fun F H M i _ _ _ hi => ?_, fun F H M i y H' _ _ _ hi q => ?_, fun F H M _ _ _ => ?_⟩⟩
    · show i < x.cps.size
      simpa using hi
    · obtain ⟨e, c, hc, ey⟩ := q
      refine ⟨e, .str ⟨#[c]⟩, ?_, ey⟩
      rw [List.getElem?_map]
      have : x.cps.toList[i]? = some c := by simpa using hc
      rw [this]; rfl
    · show x.cps.size ≤ _
      simp
  | _ => exact h1.elim, hx⟩

/-! ### for -/
def wFor (wi : WI) (g : WG) (b : WS) : WS := fun R Γ M => wi Γ M (fun xs C M1 => ∃ I : List D → GE → Mem → Prop, I [] Γ M1 ∧ (∀ pre x post Γ M, xs = pre ++ x :: post → I pre Γ M → C M ∧
    g x Γ M (fun Γ1 M2 => b { R with nx := Wk (I (pre ++ [x])), ct := Wk (I (pre ++ [x])), bk := R.nx } Γ1 M2) (fun c d M2 => R.ex c d Γ M2)) ∧ ∀ Γ M, I xs Γ M → C M ∧ R.nx Γ M) (fun c d M1 => R.ex c d Γ M1)
theorem sfor {g : WG} {body : List Stmt} {wi : WI} (hp : PassesOwn (model X.prog X.w) X.A X.env X.xe) (hc : X.calm = true) (hi : QI X W False tg iter wi) (hg : QG X W tg g) (hb : QSs X W body t)
    (hs : ∀ x, foldedSetIterable iter X.env x = pure x := by intro _; rfl) : QS X W (.For tg iter body [] pos) (wFor wi g t) :=
  ps_imp (ps_for hp hc hi hg hb hs) fun D σ H ⟨F, Γ, M, R, s, e, w, o⟩ => ⟨F, Γ, M, _, _, s, e, w, fun xs C M1 F1 H1 J ⟨I, h0, step, fin⟩ _ s1 k1 c1 wk => by
    refine ⟨fun i m σ2 H2 => ∃ F2 Γ2 M2, Same F1 F2 ∧ SOk X.K F2 H2 M2 ∧ REnv X.K F2 Γ2 σ2 ∧ i + m = xs.length ∧ I (xs.take i) Γ2 M2, ⟨xs.length, F1, Γ, M1, Same.refl F1, k1, e.mono s1, by simp, by simpa using h0⟩, ?_⟩
    rintro i m σ2 H2 ⟨F2, Γ2, M2, s2, k2, e2, him, h2⟩
    by_cases hlt : i < xs.length
    · have spl : xs = xs.take i ++ xs[i] :: xs.drop (i + 1) := by rw [List.getElem_cons_drop, List.take_append_drop]
      obtain ⟨c2, h3⟩ := step _ _ _ Γ2 M2 spl h2
      refine .inr ⟨wk.go F2 H2 M2 i s2 k2 c2 hlt, fun σ' H' => ∃ F3 Γ3 M3, Same F1 F3 ∧ SOk X.K F3 H' M3 ∧ REnv X.K F3 Γ3 σ' ∧ I (xs.take (i + 1)) Γ3 M3, fun σ' H' ⟨F3, Γ3, M3, a, b, c, d⟩ => ⟨m - 1, by omega, F3, Γ3, M3, a, b, c, by omega, d⟩, fun x H' y => ?_⟩
      obtain ⟨eH, d, hd, rd⟩ := wk.yld F2 H2 M2 i x H' s2 k2 c2 hlt y
      subst eH
      have ed : d = xs[i] := by rw [List.getElem?_eq_getElem hlt] at hd; exact (Option.some.inj hd).symm
      subst ed
      refine ⟨F2, Γ2, M2, xs[i], _, _, k2, e2, rd, h3, fun Γ4 M4 F4 σ4 H4 h4 s4 k4 e4 => ⟨F4, Γ4, M4, _, k4, e4, h4, ?_⟩, (exOk (o.mono (s1.trans s2)) e2)⟩
      have back : ∀ Γ5 M5 F5 σ5 H5, Wk (I (xs.take i ++ [xs[i]])) Γ5 M5 → Same F4 F5 → SOk X.K F5 H5 M5 → REnv X.K F5 Γ5 σ5 → ∃ F3 Γ3 M3, Same F1 F3 ∧ SOk X.K F3 H5 M3 ∧ REnv X.K F3 Γ3 σ5 ∧ I (xs.take (i + 1)) Γ3 M3 := by
        rintro Γ5 M5 F5 σ5 H5 ⟨Γ6, M6, l1, l2, h6⟩ s5 k5 e5
        refine ⟨F5, Γ6, M6, (s2.trans s4).trans s5, k5.le l2, e5.le l1, ?_⟩
        rw [List.take_succ_eq_append_getElem hlt]
        exact h6
      have o4 := o.mono ((s1.trans s2).trans s4)
      exact ⟨back, o4.rt, o4.nx, back, o4.ex⟩
    · have ei : i = xs.length := by omega
      subst ei
      rw [List.take_length] at h2
      obtain ⟨c2, h3⟩ := fin Γ2 M2 h2
      exact .inl ⟨wk.stop F2 H2 M2 s2 k2 c2, o.nx _ _ F2 _ _ h3 (s1.trans s2) k2 e2⟩, exOk o e⟩
end
end DL

set_option Elab.async false
set_option backward.match.sparseCases false
set_option linter.all false
set_option maxRecDepth 100000
set_option maxHeartbeats 4000000
/-! DL9: comprehensions, defs by their bodies. -/
namespace DL
open PySem PySem.Spec PyProof.Rows L2

/-- no exception -/
abbrev W0 : WX := fun _ _ _ _ => False
abbrev FX : DX := fun _ _ _ => False
section
variable {X : Cx} {W : WX} {e o a b : Expr} {we wo wa wb : WE} {pos pos' : Pos} {s1 : Stmt} {ss : List Stmt} {t u : WS} {i j : Nat} {x : Str}
def wYes : WT := fun _ M R _ => R true M
abbrev QTs (X : Cx) (W : WX) (es : List Expr) (w : WT) : Prop := PTs X es (lT X.K W w)
theorem pts_imp {X : Cx} {e : List Expr} {t t' : TT} (h : PTs X e t) (i : ∀ σ H Q, t' σ H Q → t σ H Q) : PTs X e t' := ⟨fun p s σ H Q I z => h.run p s σ H Q I (i _ _ _ z)⟩
theorem ifs0 : QTs X W [] wYes := pts_imp pts_nil fun σ H Q ⟨F, Γ, M, R, RX, s, e, w, hq, _⟩ => hq _ _ F _ w (Same.refl F) s
theorem ifs1 {c : Expr} {tc : WT} (h : QT X W c tc) : QTs X W [c] tc := pts_one h
/-- the turns of a comprehension whose own name is j's: what is made so far is out -/
def lcTurns (Γ : GE) (j : Nat) (tt : WT) (we : WE) (xs : List D) (C : Mem → Prop) (p : Addr) (M1 : Mem) (Z : List D → Mem → Prop) : Prop :=
  ∃ I : List D → List D → Mem → Prop, I [] [] (mup M1 p (.lst [])) ∧ (∀ pre x post out M, xs = pre ++ x :: post → I pre out M → C M ∧
    tt (st Γ j x) M (fun b M2 => if b = true then we (st Γ j x) M2 (fun y M3 => M3 p = some (.lst out) ∧ I (pre ++ [x]) (out ++ [y]) (mup M3 p (.lst (out ++ [y])))) FX else I (pre ++ [x]) out M2) FX) ∧
    ∀ out M, I xs out M → C M ∧ M p = some (.lst out) ∧ Z out M
/-- [elt for x in iter if t]: a tree; one of the store -/
def wLc (j : Nat) (wi : WI) (tt : WT) (we : WE) : WE := fun Γ M R RX => wi Γ M (fun xs C M1 => ∀ p, M1 p = none → lcTurns Γ j tt we xs C p M1 fun out M => R (.lst out) (mdel M p)) RX
def wLcM (j : Nat) (wi : WI) (tt : WT) (we : WE) : WE := fun Γ M R RX => wi Γ M (fun xs C M1 => ∀ p, M1 p = none → lcTurns Γ j tt we xs C p M1 fun _ M => R (.ref p) M) RX
theorem lc_walk {wi : WI} {tt : WT} {σ : L2.St} {H : Hp} {Q : VK} {Z : List D → Mem → Addr → DK → Prop} {F : Hp} {Γ : GE} {M : Mem} {R : DK} {RX : DX} (s : SOk X.K F H M) (e : REnv X.K F Γ σ)
    (w : wi Γ M (fun xs C M1 => ∀ p, M1 p = none → lcTurns Γ j tt we xs C p M1 fun out M => Z out M p R) RX) (hx : RXok X.K W F σ RX)
    (fin : ∀ out M' p F' H', Z out M' p R → M' p = some (.lst out) → Same F F' → SOk X.K F' H' M' → Q (.ref p) H') : tLc (lI X.K W True wi) (gName j) (lT X.K W0 tt) (lE X.K W0 we) [j] σ H Q := by
  refine ⟨F, Γ, M, _, RX, s, e, w, fun xs C M1 F1 H1 J h1 hz s1 k1 c1 wk D0 hD => ?_, hx⟩
  have hz := hz True.intro
  have nX : RXok X.K W0 F σ FX := fun _ _ _ _ _ _ _ h => h.elim
  obtain ⟨n1, k2⟩ := rep_new (ds := []) (vs := []) k1 hD (Nat.zero_le _) rfl
  obtain ⟨I, h0, step, fin'⟩ := h1 D0 n1
  refine ⟨fun i m H2 => ∃ F2 M2 out, Same F1 F2 ∧ SOk X.K F2 H2 M2 ∧ i + m = xs.length ∧ out.length ≤ i ∧ I (xs.take i) out M2, ⟨xs.length, F1, _, [], Same.refl F1, k2, by simp, Nat.le_refl _, by simpa using h0⟩, ?_⟩
  rintro i m H2 ⟨F2, M2, out, s2, k2, him, hol, h2⟩
  by_cases hlt : i < xs.length
  · have spl : xs = xs.take i ++ xs[i] :: xs.drop (i + 1) := by rw [List.getElem_cons_drop, List.take_append_drop]
    obtain ⟨c2, h3⟩ := step _ _ _ out M2 spl h2
    refine .inr ⟨wk.go F2 H2 M2 i s2 k2 c2 hlt, fun H' => ∃ F3 M3 out, Same F1 F3 ∧ SOk X.K F3 H' M3 ∧ out.length ≤ i + 1 ∧ I (xs.take (i + 1)) out M3, fun H' ⟨F3, M3, out, a, b, c, d⟩ => ⟨m - 1, by omega, F3, M3, out, a, b, by omega, c, d⟩, fun x H' y => ?_⟩
    obtain ⟨eH, d, hd, rd⟩ := wk.yld F2 H2 M2 i x H' s2 k2 c2 hlt y
    subst eH
    have ed : d = xs[i] := by rw [List.getElem?_eq_getElem hlt] at hd; exact (Option.some.inj hd).symm
    subst ed
    have tk : xs.take (i + 1) = xs.take i ++ [xs[i]] := List.take_succ_eq_append_getElem hlt
    show wipe ((wipe σ [j]).set j (some x)) [j] = wipe σ [j] ∧ _
    have ew : (wipe σ [j]).set j (some x) = σ.set j (some x) := by show (σ.set j none).set j (some x) = _; rw [List.set_set]
    rw [ew]
    have e2 : REnv X.K F2 (st Γ j xs[i]) (σ.set j (some x)) := (e.mono (s1.trans s2)).set j rd
    refine ⟨by show (σ.set j (some x)).set j none = σ.set j none; rw [List.set_set], F2, _, M2, _, FX, k2, e2, h3, fun k M3 F3 H3 h4 s3 k3 => ?_, fun _ _ _ _ _ _ _ h => h.elim⟩
    cases k with
    | true =>
      refine iteT ⟨F3, _, M3, _, FX, k3, e2.mono s3, by simpa using h4, fun y M4 F4 H4 vy h5 s4 k4 r4 => ?_, fun _ _ _ _ _ _ _ h => h.elim⟩
      obtain ⟨hp, h5⟩ := h5
      obtain ⟨_, acc, ha, za, ga⟩ := k4.mem D0 _ hp
      have hl : acc.length < sizeLine := by rw [ga.len]; omega
      refine ⟨acc, ha, hl, F4, _, out ++ [y], (s2.trans s3).trans s4, put_lst k4 hp (by rw [List.length_append]; exact hl) (ga.append (Reps.one r4)), by rw [List.length_append]; simp; exact hol, by rw [tk] at *; exact h5⟩
    | false => exact iteF ⟨F3, M3, out, s2.trans s3, k3, by omega, by rw [tk]; simpa using h4⟩
  · have ei : i = xs.length := by omega
    subst ei
    rw [List.take_length] at h2
    obtain ⟨c2, hp, hZ⟩ := fin' out M2 h2
    exact .inl ⟨wk.stop F2 H2 M2 s2 k2 c2, fin out M2 D0 F2 H2 hZ hp (s1.trans s2) k2⟩
theorem qlc {wi : WI} {tt : WT} (h : PE X e (tLc (lI X.K W True wi) (gName j) (lT X.K W0 tt) (lE X.K W0 we) [j])) : QE X W e (wLc j wi tt we) := pe_imp h fun σ H Q ⟨F, Γ, M, R, RX, s, e, w, hq, hx⟩ =>
  lc_walk (Z := fun out M p R => R (.lst out) (mdel M p)) s e w hx fun out M' p F' H' h hp sF k => by
    obtain ⟨F2, s2, k2, r2⟩ := k.freeze hp
    exact hq _ _ _ _ _ h (sF.trans s2) k2 r2
theorem qlcM {wi : WI} {tt : WT} (h : PE X e (tLc (lI X.K W True wi) (gName j) (lT X.K W0 tt) (lE X.K W0 we) [j])) : QE X W e (wLcM j wi tt we) := pe_imp h fun σ H Q ⟨F, Γ, M, R, RX, s, e, w, hq, hx⟩ =>
  lc_walk (Z := fun _ M p R => R (.ref p) M) s e w hx fun out M' p F' H' h hp sF k => hq _ _ _ _ _ h sF k rfl

/-! ### a def by its body -/
def Up (P : Mem → Prop) (M : Mem) : Prop := ∃ M', LeM M' M ∧ P M'
theorem Up.of {P : Mem → Prop} {M : Mem} (h : P M) : Up P M := ⟨M, LeM.refl M, h⟩
def bodyEnds (R : DK) (RX : DX) : EndsD where
  nx := fun _ M => Up (R .non) M
  rt := fun d M => Up (R d) M
  bk := fun _ _ => False
  ct := fun _ _ => False
  ex := fun c d _ M => Up (RX c d) M
def g0 (n : Nat) (ds : List D) : GE := ds.map some ++ List.replicate (n - ds.length) none
theorem start_ok {K : PySem.W.Frag} {F : Hp} {N : List Str} {ds : List D} {vs : List V} (r : Reps K F ds vs) : REnv K F (g0 N.length ds) (L2.start N vs) := by
  have hl := r.len
  refine ⟨by unfold L2.start g0; simp [hl], fun i d e => ?_⟩
  have key : ∀ (ds : List D) (m : Nat) (i : Nat), gt (ds.map some ++ List.replicate m none) i = some d → ds[i]? = some d := by
    intro ds
    induction ds with
    | nil =>
      intro m i e
      exfalso
      revert i
      induction m with
      | zero => intro i e; cases e
      | succ m ih =>
        intro i e
        cases i with
        | zero => cases e
        | succ i => exact ih i e
    | cons x r ih =>
      intro m i e
      cases i with
      | zero => cases e; rfl
      | succ i => simpa using ih m i e
  have hd := key ds _ i e
  obtain ⟨v, hv, rv⟩ := r.get i d hd
  refine ⟨v, ?_, rv⟩
  unfold L2.start
  have hlt : i < vs.length := (List.getElem?_eq_some_iff.mp hv).1
  rw [List.getElem?_append_left (by simpa using hlt), List.getElem?_map, hv]; rfl
section
variable {P : Program} {w : World} {K : PySem.W.Frag} {mg : Str → Option Value} {base : Heap}
/-- a def (a method) st of the text at f, by its body -/
theorem fnD {q : Str} {st : Stmt} {f : Addr} {fd : FuncData} {N ps : List Str} {k n : Nat} {fs : FS} {wb : WS} (G : Fun K x q st f fd) (S : FnScope N ps (defScope st)) (hn : n = ps.length) (hps : ps.length ≤ N.length)
    (hb : ∀ (cdv : Value) (A : Around) (outer : List Env) (s : Shared) (H : Hp) (E : XK), Room k (A.deeper (envOfC q (defScope st) s.heap.objs.size f cdv)) →
      QSs (cxOf (L2.CX P w) P w K mg base N q (defScope st) f cdv A outer s H E) (fun c d _ H' => E c d H') (defBody st) wb)
    (spec : ∀ ds M R RX, ds.length = n → fs ds M R RX → wb (bodyEnds R RX) (g0 N.length ds) M) : FnOk P w K mg base (L2.CX P w) (k + 1) f fd ps (spD K n fs) := by
  refine G.okX S (fun vs H Q E h => by rw [h.1, hn]) (fun cdv A outer s H vs Q E hr h => ?_)
  obtain ⟨hv, F, ds, M, R, RX, k0, r0, h1, hq, hx⟩ := h
  refine ⟨_, hb cdv A outer s H E hr, F, g0 N.length ds, M, bodyEnds R RX, k0, start_ok r0, spec ds M R RX (by rw [← r0.len, hv]) h1, ?_⟩
  exact ⟨fun Γ M1 F1 σ H1 ⟨M2, l, h⟩ s1 k1 _ => hq _ _ F1 _ _ h s1 (k1.le l) rfl, fun d M1 F1 H1 v ⟨M2, l, h⟩ s1 k1 r1 => hq _ _ F1 _ _ h s1 (k1.le l) r1, fun Γ M1 F1 σ H1 h => h.elim, fun Γ M1 F1 σ H1 h => h.elim,
    fun c d Γ M1 F1 σ H1 v dx ⟨M2, l, h⟩ s1 k1 _ r1 hd => hx _ _ _ F1 _ _ _ h s1 (k1.le l) r1 hd⟩
theorem fnAt {st : Stmt} {f : Addr} {fd : FuncData} {ps : List Str} {k n : Nat} {fs : FS} {q : Str} (G : Fun K x q st f fd) (hm : mg x = some (.ref f)) (hb : Binds K fd ps []) (h : FnOk P w K mg base (L2.CX P w) k f fd ps (spD K n fs)) : FnAt P w K mg base k n x fs :=
  ⟨f, fd, ps, hm, G.kp, hb, h⟩
theorem mtAt {st : Stmt} {f C : Addr} {fd : FuncData} {ps : List Str} {k n : Nat} {fs : FS} {q m : Str} (cl : Cls K C) (hm : Meth K C m f) (hb : Binds K fd ps []) (h : FnOk P w K mg base (L2.CX P w) k f fd ps (spD K n fs)) : MtAt P w K mg base k n C m fs :=
  ⟨f, fd, ps, cl, hm, hb, h⟩
theorem FnAt.mono {k k' n : Nat} {fs : FS} (c : FnAt P w K mg base k n x fs) (h : k ≤ k') : FnAt P w K mg base k' n x fs := by
  obtain ⟨f, fd, ps, a, b, d, g⟩ := c.ex
  exact ⟨f, fd, ps, a, b, d, g.mono h⟩
theorem FnAt.imp {k n : Nat} {fs fs' : FS} (c : FnAt P w K mg base k n x fs) (h : ∀ ds M R RX, fs' ds M R RX → fs ds M R RX) : FnAt P w K mg base k n x fs' := by
  obtain ⟨f, fd, ps, a, b, d, g⟩ := c.ex
  exact ⟨f, fd, ps, a, b, d, g.imp fun vs H Q E ⟨h0, F, ds, M, R, RX, k0, r0, h1, hq, hx⟩ => ⟨h0, F, ds, M, R, RX, k0, r0, h _ _ _ _ h1, hq, hx⟩⟩
end
end
end DL

set_option Elab.async false
set_option backward.match.sparseCases false
set_option linter.all false
set_option maxRecDepth 100000
set_option maxHeartbeats 4000000
/-! DX1: an error class over ValueError whose __init__ says super().__init__(at); self.at = at. -/
namespace DL
open PySem PySem.Spec PyProof.Rows L2

/-- what the written part says of an error class C over the class at B (B itself too) -/
structure ErrC (K : PySem.W.Frag) (B C : Addr) : Prop where
  oex : OexC K C
  mro : PySem.W.mroIn K C (.ref B) = some true
  sup : PySem.W.ks_superIn K C B "__init__" = some (some (.builtin "ValueError.__init__"))
  ve : PySem.W.subIn K (.ref C) (.type "ValueError") = some true
  noAt : PySem.W.findIn K (.ref C) "at" = some none
/-- what is said of B's __init__ -/
structure ErrI (P : Program) (K : PySem.W.Frag) (mg : Str → Option Value) (st : Stmt) (f : Addr) (fd : FuncData) (B : Addr) : Prop where
  ex : ∃ (qual : Str) (oc : Value) (od : Option Addr) (kV doc pm : Value) (an : Option Addr) (cda : Addr) (ct : Value) (cc : Addr) (osl : Array (Option Value)) (ccl : Value) (cdd : Option Addr) (vs : Array Value) (ccs : Array (Option Value)) (file : Str) (tf : Tok) (cl : Value) (cld : Option Addr) (csl : Array (Option Value)) (cdB : ClassData),
    fd = PySem.W.ksFn "__init__" qual (defArgs st) (defBody st) (defScope st) .none kV doc pm an (.ref cda) ct cc ∧ K.lookup f = some ⟨oc, od, .func fd, osl⟩ ∧ PySem.W.codeIn K (.ref cda) qual = true ∧ K.lookup cda = some ⟨ccl, cdd, .fields vs, ccs⟩ ∧ vs[2]? = some (.str file tf) ∧
    ((P.main.file : Str) == file) = true ∧ K.lookup cc = some ⟨cl, cld, .cell (some (.ref B)), csl⟩ ∧ PySem.W.clsIn K B = some cdB
  sup : mg "super" = none
  top : (P.main.scope.names.lookup ("super" : Str)).isSome = false
  any : PySem.W.nsIn K cStatics "thirdparty.any" = some none
/-- its text -/
structure ErrT (st : Stmt) : Prop where
  body : ∃ p0 p1 p2 p3 p4 p5 p6 p7 p8 p9, defBody st = [.Expr (.Call (.Attribute (.Call (.Name "super" p0) [] [] p1) "__init__" p2) [.Name "at" p3] [] p4) p5, .Assign [.Attribute (.Name "self" p6) "at" p7] (.Name "at" p8) p9] ∧ (p2.endLine == p4.line) = true
  head : ∃ ar, ((defArgs st).posonlyargs ++ (defArgs st).args).head? = some ar ∧ ar.arg = "self"
  kind : (defScope st).kind = .function
  co : (defScope st).isCoroutine = false
  gen : (defScope st).isGenerator = false
  cell : ∀ y ∈ (defScope st).names, y.2 ≠ .cell
  free : ∀ y ∈ (defScope st).names, y.2 = .free → y.1 = "__class__"
  ls : (defScope st).names.lookup ("self" : Str) = some .local
  la : (defScope st).names.lookup ("at" : Str) = some .local
  lc : (defScope st).names.lookup ("__class__" : Str) = some .free
  lp : (defScope st).names.lookup ("super" : Str) = some .globalImplicit
def spErr (K : PySem.W.Frag) (B : Addr) : Sp := fun vs H Q _ => ∃ (a C : Addr) (v : V), vs = [.ref a, v] ∧ H a = some (exo a C none) ∧ ErrC K B C ∧
  ∀ d, H d = none → d ≠ a → Q .non (upd (upd H d (exd d [("at", v)])) a (exo a C (some d)))
section
variable {P : Program} {w : World} {K : PySem.W.Frag} {mg : Str → Option Value} {base : Heap}
theorem notfree_lookup {l : List (Str × NameKind)} {x : Str} (h : l.lookup x = some .cell) (hc : ∀ y ∈ l, y.2 ≠ .cell) : False := hc _ (PySem.mem_of_lookup h) rfl
theorem mc_eq {o : Expr} {name x : Str} {apos pos p : Pos} {env : Env} (hline : (apos.endLine == pos.line) = true) : eval (.Call (.Attribute o name apos) [.Name x p] [] pos) env = (do
        let ov ← attributeBase o name env (eval o env)
        standAt apos.atName
        let (f, first) ← holding [ov] (getMethod ov name (do return (← importBound o env).getD true))
        callWith pos f first (backTo pos (starEach [.Name x p] env)) []) := by
  rw [arm_eval_Call]
  have hpos : methodCallPos true o env apos pos = pure pos := by unfold methodCallPos; simp [hline]
  have hform : methodCallForm (([.Name x p] : List Expr).length + ([] : List Keyword).length) (backTo pos (starEach [.Name x p] env)) (backToKw pos (keywordEach [] env)) = true := by rfl
  unfold methodCall
  rw [hform, hpos]
  rfl

theorem err_init {st : Stmt} {f : Addr} {fd : FuncData} {B : Addr} {k : Nat} (G : ErrI P K mg st f fd B) (T : ErrT st) : FnOk P w K mg base (L2.CX P w) (k + 1) f fd ["self", "at"] (spErr K B) := by
  refine ⟨fun vs H Q E h => by obtain ⟨a, C, v, rfl, _⟩ := h; rfl, fun A outer s H args us vs Q E hr e0 hb r hsp => ?_⟩
  obtain ⟨a, C, v, rfl, ha, EC, hq⟩ := hsp
  obtain ⟨qual, oc, od, kV, doc, pm, an, cda, ct, cc, osl, ccl, cdd, fvs, ccs, file, tf, cl, cld, csl, cdB, rfl, lk, hcd, lcd, hv2, hfile, lcc, hcB⟩ := G.ex
  obtain ⟨ua, uv, rfl, rfl, rv⟩ : ∃ ua uv, us = [ua, uv] ∧ ua = Value.ref a ∧ RelV v uv := by
    cases r with
    | cons r1 r2 =>
      cases r2 with
      | cons r2 r3 =>
        cases r3
        exact ⟨_, _, rfl, r1, r2⟩
  have KX : K.In s.heap := e0.mod.kin.keeps fun b o e => (e0.bs b o e).1
  have lim : s.heap.NoLimit := e0.mod.nolimit.keeps fun b o e => (e0.bs b o e).1
  refine ks_codeAny_call_defAt (fd := PySem.W.ksFn "__init__" qual (defArgs st) (defBody st) (defScope st) .none kV doc pm an (.ref cda) ct cc) (body := defBody st) (binds := [("self", Value.ref a), ("at", uv)]) hr.depth (KX _ _ lk) rfl lim (PySem.W.codeRec_of KX hcd) rfl hb T.cell (fun y hy => ?_) (fun h₁ hns hk₁ => ?_) T.co T.gen T.kind
  · simp only [List.mem_cons, List.not_mem_nil, or_false] at hy
    rcases hy with rfl | rfl
    · exact T.ls
    · exact T.la
  obtain ⟨p0, p1, p2, p3, p4, p5, p6, p7, p8, p9, hbody, hline⟩ := T.body
  obtain ⟨ar, har, ear⟩ := T.head
  let env : Env := PySem.W.ksEnv qual (defScope st) s.heap.objs.size f (.ref cda) cc
  let X : Cx := { prog := P, w := w, K := K, mg := mg, base := base, A := A.deeper env, N := ["self", "at"], s_0 := s, H_0 := H, env := env, outer := outer, stack := env :: outer, ex := [], fn := fun _ => false, calm := true, pn := [], xe := fun _ _ => False }
  have hcc : ∀ x c, env.cells.lookup x = some c → x = "__class__" ∧ c = cc := fun x c h => by
    have h : (([(("__class__" : Str), cc)] : List (Str × Addr))).lookup x = some c := h
    by_cases e : x = "__class__"
    · subst e; simp [List.lookup] at h; exact ⟨rfl, h.symm⟩
    · have z : (x == ("__class__" : Str)) = false := by simpa using e
      simp [List.lookup, z] at h
  have bcc : base.get? cc = some ⟨cl, cld, .cell (some (.ref B)), csl⟩ := e0.mod.kin _ _ lcc
  have hfree : ∀ x, ((defScope st).names.lookup x = some .cell ∨ (defScope st).names.lookup x = some .free) → ∃ c, env.cells.lookup x = some c := fun x hx => by
    rcases hx with hx | hx
    · exact (notfree_lookup hx T.cell).elim
    · have e := T.free _ (PySem.mem_of_lookup hx) rfl
      dsimp only at e
      subst e
      exact ⟨cc, rfl⟩
  have O : X.Ok := {
    mod := e0.mod
    kind := T.kind
    glob := rfl
    blt := rfl
    above := Nat.le_refl _
    inj := fun x y c h1 h2 => by rw [(hcc x c h1).1, (hcc y c h2).1]
    has := hfree
    cab := fun x c h _ => by cases h
    hd := fun _ => hr.hd
    frames := Around.frames_deeper e0.frames
    stk := .inr ⟨rfl, rfl⟩
    exf := fun b z => (by cases z)
    bs := e0.bs
    bsz := e0.bsz
    noex := fun b _ _ z => (by cases z)
    exfs := fun b z => (by cases z)
    funs := e0.funs
    frf := e0.frf }
  have I0 : Inv X [] [some (.ref a), some v] H { s with heap := h₁, toks := s.toks + [("self", Value.ref a), ("at", uv)].length } := {
    ok := O
    os := rfl
    bare := e0.bare
    base := Un.kept hk₁
    loc := ⟨_, hns, fun i x u h1 h2 h3 => by
      match i, h1, h2 with
      | 0, h1, h2 =>
        cases h1; cases h2
        exact ⟨.ref a, rfl, .inl ⟨T.ls, rfl⟩⟩
      | 1, h1, h2 =>
        cases h1; cases h2
        exact ⟨uv, rv, .inl ⟨T.la, rfl⟩⟩
      | n + 2, h1, h2 => cases h1⟩
    cell := fun x c h => by
      obtain ⟨_, rfl⟩ := hcc x c h
      exact ⟨_, ⟨_, hk₁ _ _ (e0.bs _ _ bcc).1, rfl⟩⟩
    free := e0.hok.fresh (Nat.le_refl _)
    freeC := fun x c h => by
      obtain ⟨_, rfl⟩ := hcc x c h
      exact (e0.bs _ _ bcc).2
    pin := fun p hp => (by cases hp)
    hok := e0.hok.kept hk₁
    len := rfl }
  have hsz : [("self", Value.ref a), ("at", uv)].length = 2 := rfl
  obtain ⟨nm, q, N, bs, bm, sn, sub, ab, col, dd, k0, k1, k2, k3, k5, hC, hbm⟩ := EC.oex.cls
  have hcl : PySem.W.clsIn X.K C = some { name := nm, bases := bs, mro := .ref C :: bm, ns := N, qualname := q, hasDict := true, slotNames := sn, subclasses := sub, abstract := ab, collection := col, hasDel := false } := by unfold PySem.W.clsIn; rw [hC] <;> rfl
  obtain ⟨t1, ho⟩ := exo_at I0.hok ha
  have K1 : K.In h₁ := I0.kIn
  rw [hbody]
  show _root_.PySem.wpAt (model P w) (A.deeper env) (.func _ env) (execs _ env) _ _ _
  refine ks_wpAt_execs_cons ?_
  refine ks_wpAt_Expr_any ?_ (by show interactive env = false; exact I0.quiet) (by rfl)
  refine ks_wpAt_MethodCall ?_ (mc_eq hline)
  obtain ⟨oD, hD1, hD2⟩ : ∃ oD, h₁.get? B = some oD ∧ oD.data = .cls cdB := by
    unfold PySem.W.clsIn at hcB
    split at hcB
    · rename_i c d cd' sl ho
      cases hcB
      exact ⟨_, K1 _ _ ho, rfl⟩
    · cases hcB
  refine ks_wpAt_super_base (env := env) T.lp T.lc (by rfl) rfl (K1 _ _ lk) rfl har rfl (K1 _ _ lcd) rfl hv2 hfile G.top ?_
  rw [ear]
  refine PySem.W.ks_loadName_global T.kind T.lp ?_
  obtain ⟨mb, b1, b2⟩ := I0.mod.blt
  refine PySem.Calls.loadGlobal_builtin (env := env) (I0.mod.glob.keeps I0.bk) G.sup (b1.keeps I0.bk) ((b2 "super" (by decide)).trans (by decide +kernel)) ⟨rfl, ?_⟩
  refine wpAny_loadName_free T.kind T.lc rfl ⟨_, K1 _ _ lcc, rfl⟩ ?_
  refine wpAny_loadName_local T.kind T.ls hns (v := .ref a) rfl ?_
  refine ks_wpAny_isType_cls hD1 hD2 ⟨rfl, ?_⟩
  refine ks_wpAny_call_super hD1 hD2 ho rfl (fun c e => by cases e) (PySem.W.looks_mroIn K1 EC.mro) (fun h2 e2 k2 => ?_)
  have K2 : K.In h2 := fun b o e => k2 _ _ (K1 b o e)
  have hI : PySem.W.Looks (model P w) h2 (isInstance (.ref a) (.type "ValueError")) true := PySem.W.InstAt.type (⟨k2 _ _ ho, rfl, rfl, trivial⟩ : PySem.W.InstAt h2 a _ C none) |>.andThen (PySem.W.looks_subIn K2 EC.ve)
  have hal : PySem.W.alongIn K "__init__" (((Value.ref C :: bm).dropWhile (· != .ref B)).drop 1) = some (some (.builtin "ValueError.__init__")) := by
    have z := EC.sup
    unfold PySem.W.ks_superIn at z
    rw [hcl] at z
    exact z
  have hne : a ≠ C := PySem.W.ks_ne K1 (⟨ho, rfl, rfl, trivial⟩ : PySem.W.InstAt h₁ a _ C none) hcl
  have hmro : PySem.W.Looks (model P w) h2 (mroOf (.ref C)) (.ref C :: bm) := (PySem.W.looks_clsIn K2 hcl).andThen .now
  refine PySem.W.kxs_getMethod PySem.W.kxs_ValueError e2 (PySem.W.looks_opaque K2 G.any) hmro rfl K2 hal hI hne (by decide) ?_
  have k3 : ∀ b o, h₁.get? b = some o → (h2.push (PySem.W.kxs_mw "ValueError.__init__" a)).get? b = some o := fun b o e => Heap.get?_push_of_some _ (k2 _ _ e)
  have hu : (h2.push (PySem.W.kxs_mw "ValueError.__init__" a)).get? h2.objs.size = some (PySem.W.kxs_mw "ValueError.__init__" a) := Heap.get?_push_at rfl rfl
  refine PySem.W.kxs_callWith (i := "ValueError.__init__") (x := a) (by rfl) ?_
  refine PySem.Calls.evalArgs_plain ?_
  refine PySem.Calls.spliced_cons ?_
  obtain ⟨oL, es, ep, hL, rL⟩ := id hns
  refine wpAny_Name (wpAny_loadName_local (env := env) T.kind T.la (m := fun x => ([("self", Value.ref a), ("at", uv)] : List (Str × Value)).reverse.lookup x) ⟨oL, es, ep, k3 _ _ hL, rL⟩ (v := uv) rfl ?_) (by decide)
  refine PySem.Calls.spliced_nil ⟨hu, ?_⟩
  refine wpAny_call (codeAny_of_tree ?_)
  show wpAny _ (A.deeper env).in1 (callAny (.ref h2.objs.size) ⟨[uv], []⟩) _ _ _
  simp only [callAny]
  refine wpAny_bind (wpAny_load hu ?_)
  simp only [PySem.W.kxs_mw, show (Value.type "method-wrapper" == Value.type "method" || Value.type "method-wrapper" == Value.type "builtin_function_or_method" || Value.type "method-wrapper" == Value.type "method-wrapper") = true by decide, if_true]
  refine PySem.W.KFB.if_so (by decide) ?_
  refine wpAny_bind (PySem.W.check_bound_init F.excBase_ValueError.toExcCallFacts (k3 _ _ (K1 _ _ hC)) (k3 _ _ ho) rfl ?_)
  refine wpAny_bind (wpAny_pure (wpAny_pure ?_))
  refine ⟨plainId_quiet F.excBase_ValueError.init.plain _, codeAny_builtin F.excBase_ValueError.initEntry ?_⟩
  refine PySem.W.exc_init_tree (cls := .ref C) (t0 := t1) (dv := none) (c2 := .none) (c3 := .none) (b4 := .bool false) (k3 _ _ ho) (by show 1 ≤ sizeLine; decide) (fun h4 k4 e4 e5 => ?_)
  have I4 := I0.write (t' := s.toks + [("self", Value.ref a), ("at", uv)].length + 1) (x := a) (e := a) (o := exo a C none) (h' := h4) (by rw [ha]; exact True.intro) (.inl rfl) (fun b o hb e => k4 b o hb (k3 _ _ e)) ⟨_, e4⟩ (exo_ok e4)
  have eu : upd H a (exo a C none) = H := by
    funext b
    by_cases hb : b = a
    · rw [hb, upd_same, ha]
    · rw [upd_ne hb]
  rw [eu] at I4
  have vs : Vis X.env.scope "self" := .inl T.ls
  have va : Vis X.env.scope "at" := .inl T.la
  refine wpAt_of_wpAny ?_
  refine wpAny_mono ((pss_cons (ps_ost (X := X) (o := .Name "self" p6) (e := .Name "at" p8) (f := "at") (p' := p7) (pos := p9) (pe_var (i := 0) rfl vs) (pe_var (i := 1) rfl va) (by rfl)) pss_nil).run [] _ [some (.ref a), some v] H { nx := fun _ H' => Q .non H', rt := Q } I4 ?_) (fun fl s' hs => ?_) fun e s' hs => hs.elim
  · exact ⟨_, rfl, _, rfl, a, C, rfl, EC.oex, EC.noAt, .inl ⟨ha, fun dx n ne => hq dx n ne⟩⟩
  · cases fl with
    | next =>
      obtain ⟨σ', H', J, q⟩ := hs
      exact ⟨.non, H', J.os, J.bare, J.base, J.hok, rfl, q⟩
    | ret u =>
      obtain ⟨v', σ', H', J, rv', q⟩ := hs
      exact ⟨v', H', J.os, J.bare, J.base, J.hok, rv', q⟩
    | brk =>
      obtain ⟨_, _, _, q⟩ := hs
      exact False.elim q
    | cont =>
      obtain ⟨_, _, _, q⟩ := hs
      exact False.elim q
end
end DL

set_option Elab.async false
set_option backward.match.sparseCases false
set_option linter.all false
set_option maxRecDepth 100000
set_option maxHeartbeats 4000000
/-! DX2: raise, try. -/
namespace DL
open PySem PySem.Spec PyProof.Rows L2

/-- the error class called x, at C -/
structure ErAt (P : Program) (w : World) (K : PySem.W.Frag) (mg : Str → Option Value) (base : Heap) (k : Nat) (x : Str) (C : Addr) : Prop where
  ex : ∃ (f B : Addr) (fd : FuncData), mg x = some (.ref C) ∧ ErrC K B C ∧ PySem.W.findIn K (.ref C) "__init__" = some (some (.ref f)) ∧ PySem.W.typeIn K (.ref f) = some (.type "function") ∧ Binds K fd ["self", "at"] [] ∧
    FnOk P w K mg base (L2.CX P w) k f fd ["self", "at"] (spErr K B)
theorem ErAt.mono {P : Program} {w : World} {K : PySem.W.Frag} {mg : Str → Option Value} {base : Heap} {k k' : Nat} {x : Str} {C : Addr} (c : ErAt P w K mg base k x C) (h : k ≤ k') : ErAt P w K mg base k' x C := by
  obtain ⟨f, B, fd, a, b, d, e, g, F⟩ := c.ex
  exact ⟨f, B, fd, a, b, d, e, g, F.mono h⟩
/-- the heap grows -/
theorem SOk.ext {K : PySem.W.Frag} {F H H' : Hp} {M : Mem} (s : SOk K F H M) (e : Same H H') : SOk K F H' M := ⟨fun b u q => e _ _ (s.sub b u q), fun a mo q => by
  obtain ⟨f, m⟩ := s.mem a mo q
  obtain ⟨o, ho⟩ := m.there
  exact ⟨f, m.mono (Same.refl F) ((e _ _ ho).trans ho.symm)⟩⟩
def wRaise (C : Addr) (t : WA) : WS := fun R Γ M => t Γ M (fun ds M1 => match ds with
  | [d] => R.ex C d Γ M1
  | _ => False) (fun c d M1 => R.ex c d Γ M1)
section
variable {X : Cx} {W : WX} {k i : Nat} {x n : Str} {C : Addr} {p pos pos' np : Pos} {e : Expr} {tr : WA}
theorem sraise (c : ErAt X.prog X.w X.K X.mg X.base k x C) (hr : Room (k + 1) X.A) (hc : X.calm = true) (tk : Takes X W) (hg : Gl X x) (ha : QA X W [e] 1 tr)
    (hdb : (x == ("__debug__" : Str)) = false := by decide) (he : starEach [e] X.env = (false, eval e X.env) :: starEach [] X.env := by rfl) (hpl : (backTo pos (starEach [] X.env)).any (·.1) = false := by rfl) :
    QS X W (.Raise (some (.Call (.Name x p) [e] [] pos)) none pos') (wRaise C tr) := by
  obtain ⟨f, B, fd, hm, EC, iC, tI, hb, G⟩ := c.ex
  refine ps_imp (ps_raise hc tk (pmk_oex EC.oex iC tI G hr hb .nil (fun pins σ H s e s' I q => tk _ _ (XE.of_call I (fun _ _ _ z => z.elim) q)) hg hm ha hdb he hpl)) fun D σ H ⟨F, Γ, M, R, s, e0, w, o⟩ => ?_
  refine ⟨F, Γ, M, _, _, s, e0, w, fun ds M1 F1 H1 vs h1 hl s1 k1 r1 => ?_, exOk o e0⟩
  split at h1
  · rename_i d
    obtain ⟨v, _, rfl, rv, rfl⟩ := r1
    refine ⟨by simp, fun a na => ?_⟩
    refine ⟨a, C, v, rfl, upd_same, EC, fun dx nd ne => ?_⟩
    have nd1 : H1 dx = none := by rw [upd_ne ne] at nd; exact nd
    refine ⟨rfl, dx, [("at", v)], upd_same, by rw [upd_ne ne, upd_same], nd1, ?_⟩
    have key : Same H1 (upd (del (upd (upd (upd H1 a (exo a C none)) dx (exd dx [("at", v)])) a (exo a C (some dx))) a) dx (.xd [("at", v)])) := fun b u q => by
      have ba : b ≠ a := ne_of_none q na
      have bd : b ≠ dx := ne_of_none q nd1
      rw [upd_ne bd, del_ne ba, upd_ne ba, upd_ne bd, upd_ne ba]; exact q
    exact o.ex _ _ _ _ F1 _ _ v dx h1 s1 (k1.ext key) (e0.mono s1) rv upd_same
  · exact h1.elim
/-- try: body, except x as n: suite -/
def wTry (K : PySem.W.Frag) (cs : List Addr) (c : Value) (i : Nat) (tb : WS) (ws : Addr → Addr → WS) : WS := fun R Γ M =>
  tb { R with ex := fun C d Γ1 M1 => ∃ b, PySem.W.exmOne K (.ref C) c = some b ∧ (b = true → C ∈ cs ∧ ∀ a dx, ws a dx { nx := fun Γ2 M2 => R.nx (unst Γ2 i) M2, rt := R.rt, bk := fun Γ2 M2 => R.bk (unst Γ2 i) M2, ct := fun Γ2 M2 => R.ct (unst Γ2 i) M2, ex := fun _ _ _ _ => False } (st Γ1 i (.xc a dx d)) M1) ∧ (b = false → R.ex C d Γ1 M1) } Γ M
theorem stry {c : Value} {cs : List Addr} {body suite : List Stmt} {b₀ : Stmt} {tb : WS} {ws : Addr → Addr → WS} (i : Nat) (hs : X.stack = X.env :: X.outer) (hf : X.env.frame = some X.env.locals) (hN : X.N.Nodup) (hc : Names X x c) (tk : Takes X W)
    (hb : ∀ (W' : WX) (pn : List (Addr × Obj)) (xe : Value → Shared → Prop), Takes (X.tr pn xe) W' → PassesOwn (model X.prog X.w) X.A X.env xe → QSs (X.tr pn xe) W' body tb)
    (hsu : ∀ (a dx : Addr) (oe : Obj) (C : Addr) (pn : List (Addr × Obj)), Zc (.ref C) (some dx) oe → (∃ vs, oe.data = .fields vs) → C ∈ cs → QSs (X.suite a ((a, oe) :: pn)) W0 (b₀ :: suite) (ws a dx))
    (hi : X.N[i]? = some n := by rfl) (hln : X.env.kindOf n = some .local := by rfl) :
    QS X W (.Try body [.ExceptHandler (some (.Name x np)) (some n) (b₀ :: suite) pos'] [] [] pos) (wTry X.K cs c i tb ws) := by
  have base := ps_try_as (X := X) (x := x) (n := n) (c := c) (i := i) (body := body) (suite := suite) (b₀ := b₀) (np := np) (pos := pos) (pos' := pos') (tb := fun W' => lS X.K W' tb)
    (ts := fun a cls d D σ H => ∃ C dx, cls = .ref C ∧ d = some dx ∧ C ∈ cs ∧ lS X.K W0 (ws a dx) D σ H) (Wout := W) hs hf hN hi hln hc tk (fun W' pn xe t p => hb W' pn xe t p)
    (fun a oe cls d pn z hd => ⟨fun pins s σ H D I ⟨C, dx, ec, ed, q, h⟩ => by subst ec; subst ed; exact (hsu a dx oe C pn z hd q).run pins s σ H D I h⟩)
  refine ps_imp base fun D σ H ⟨F, Γ, M, R, s, e0, w, o⟩ => ?_
  refine ⟨F, Γ, M, _, s, e0, w, ⟨o.nx, o.rt, o.bk, o.ct, fun C d Γ1 M1 F1 σ1 H1 v dx h1 s1 k1 e1 r1 hx => ?_⟩⟩
  obtain ⟨b, hb1, hb2, hb3⟩ := h1
  refine ⟨b, hb1, fun hbt a na => ?_, fun hbf => o.ex _ _ _ _ F1 _ _ _ _ (hb3 hbf) s1 k1 e1 r1 hx⟩
  subst hbt
  have nM : M1 dx = none := by
    cases z : M1 dx with
    | none => rfl
    | some mo =>
      obtain ⟨_, q⟩ := k1.mem dx mo z
      cases mo with
      | lst _ => obtain ⟨_, q, _⟩ := q; rw [hx] at q; cases q
      | dK _ => obtain ⟨_, q, _⟩ := q; rw [hx] at q; cases q
      | dT _ => obtain ⟨_, q, _⟩ := q; rw [hx] at q; cases q
      | fK _ _ _ => obtain ⟨q, _⟩ := q; rw [hx] at q; cases q
      | ins _ _ => obtain ⟨_, _, q, _⟩ := q; rw [hx] at q; cases q
  have sF : Same F1 (upd F1 dx (.xd [("at", v)])) := fun b u q => by
    by_cases hb : b = dx
    · subst hb
      have := k1.sub b u q
      rw [hx] at this
      rw [upd_same]; exact this
    · rw [upd_ne hb]; exact q
  have k2 : SOk X.K (upd F1 dx (.xd [("at", v)])) H1 M1 := ⟨fun b u q => by
    by_cases hb : b = dx
    · subst hb; rw [upd_same] at q; rw [hx]; exact q
    · rw [upd_ne hb] at q; exact k1.sub b u q, fun b mo q => by
    have hb : b ≠ dx := mne q nM
    obtain ⟨f, m⟩ := k1.mem b mo q
    exact ⟨by rw [upd_ne hb]; exact f, m.mono sF rfl⟩⟩
  refine ⟨C, dx, rfl, rfl, (hb2 rfl).1, upd F1 dx (.xd [("at", v)]), st Γ1 i (.xc a dx d), M1, _, k2, (e1.mono sF).set i ⟨rfl, v, upd_same, Rep.mono sF _ _ r1⟩, (hb2 rfl).2 a dx, ?_⟩
  have s2 := s1.trans sF
  exact ⟨fun Γ2 M2 F2 σ2 H2 h2 s3 k3 e3 => o.nx _ _ F2 _ _ h2 (s2.trans s3) k3 (e3.unset i), fun d2 M2 F2 H2 v2 h2 s3 k3 r3 => o.rt _ _ F2 _ _ h2 (s2.trans s3) k3 r3,
    fun Γ2 M2 F2 σ2 H2 h2 s3 k3 e3 => o.bk _ _ F2 _ _ h2 (s2.trans s3) k3 (e3.unset i), fun Γ2 M2 F2 σ2 H2 h2 s3 k3 e3 => o.ct _ _ F2 _ _ h2 (s2.trans s3) k3 (e3.unset i),
    fun _ _ _ _ _ _ _ _ _ h => h.elim⟩
/-- err.at in an except suite -/
def wXat (a dx : Addr) (we : WE) : WE := fun Γ M R RX => we Γ M (fun d M1 => match d with
  | .xc a' dx' x => a' = a ∧ dx' = dx ∧ R x M1
  | _ => False) RX
theorem qxat {a dx : Addr} {oe : Obj} {pn : List (Addr × Obj)} {we : WE} {W : WX} (T : XfC X.K C) (hno : PySem.W.findIn X.K (.ref C) "at" = some none) (hz : Zc (.ref C) (some dx) oe) (hf : ∃ vs, oe.data = .fields vs)
    (he : QE (X.suite a ((a, oe) :: pn)) W e we) (hb : attributeBase e "at" X.env (eval e X.env) = eval e X.env := by rfl) : QE (X.suite a ((a, oe) :: pn)) W (.Attribute e "at" pos) (wXat a dx we) :=
  pe_imp (pe_xf T hno hz hf he hb) fun σ H Q ⟨F, Γ, M, R, RX, s, e0, w, hq, hx⟩ => ⟨F, Γ, M, _, RX, s, e0, w, fun d M1 F1 H1 v h1 s1 k1 r1 => by
    cases d with
    | xc a' dx' y =>
      obtain ⟨h2, h3, h4⟩ := h1
      subst h2 h3
      obtain ⟨r2, w2, r3, r4⟩ := r1
      exact ⟨r2, rfl, dx', [("at", w2)], w2, rfl, k1.sub _ _ r3, rfl, hq _ _ _ _ _ h4 s1 k1 r4⟩
    | _ => exact h1.elim, hx⟩
end
end DL

set_option Elab.async false
set_option backward.match.sparseCases false
set_option linter.all false
set_option maxRecDepth 100000
set_option maxHeartbeats 4000000
/-! DL10: constants of the module, short names for the printed derivations, the law's own end. -/
namespace DL
open PySem PySem.Spec PyProof.Rows L2

section
variable {X : Cx} {W : WX} {e o a b : Expr} {we wo wa wb : WE} {pos pos' : Pos} {x : Str}
/-- an int of the module -/
def GInt (mg : Str → Option Value) (x : Str) (n : Int) : Prop := ∃ t, mg x = some (.int n t)
theorem qglob {n : Int} (hg : Gl X x) (h : GInt X.mg x n) (hd : (x == ("__debug__" : Str)) = false := by decide) : QE X W (.Name x pos) (wC (.int n)) := by
  obtain ⟨t, h⟩ := h
  exact qc (pe_glob hg h (v := .int n) ⟨t, rfl⟩ hd) fun _ => rfl
/-- a class (a function) of the module -/
theorem qcls {C : Addr} (hg : Gl X x) (h : X.mg x = some (.ref C)) (hd : (x == ("__debug__" : Str)) = false := by decide) : QE X W (.Name x pos) (wC (.ref C)) :=
  qc (pe_glob hg h (v := .ref C) rfl hd) fun _ => rfl
def wNeg (wa : WE) : WE := fun Γ M R RX => wa Γ M (fun d M1 => match d with
  | .int i => R (.int (-i)) M1
  | _ => False) RX
theorem qneg' (ha : QE X W a wa) : QE X W (.UnaryOp .USub a pos) (wNeg wa) := qneg ha
/-- one comprehension -/
theorem qlc1 {elt tg iter : Expr} {ifs : List Expr} {scope : Scope} {j : Nat} {y : Str} {wi : WI} {tt : WT} (hc : X.calm = true) (hN : X.N.Nodup) (ok : blkC X.N X.env.scope scope [(y, j)] = true) (hi : QI X W True tg iter wi)
    (hg : ∀ (s : Shared) (H : Hp) (C : Addr) (cl : List (Str × Addr)) (fp : List Addr), PG (X.blk s H scope (compEnvC scope cl C X.env) fp) tg (gName j)) (ht : ∀ (s : Shared) (H : Hp) (C : Addr) (cl : List (Str × Addr)) (fp : List Addr), QTs (X.blk s H scope (compEnvC scope cl C X.env) fp) W0 ifs tt)
    (he : ∀ (s : Shared) (H : Hp) (C : Addr) (cl : List (Str × Addr)) (fp : List Addr), QE (X.blk s H scope (compEnvC scope cl C X.env) fp) W0 elt we) (hs : ∀ x, foldedSetIterable iter X.env x = pure x := by intro _; rfl) :
    QE X W (.ListComp elt [⟨tg, iter, ifs, 0⟩] scope pos) (wLc j wi tt we) := qlc (pe_lc hc hN hi (blkOk_by ok) hg ht he hs)
theorem qlc1M {elt tg iter : Expr} {ifs : List Expr} {scope : Scope} {j : Nat} {y : Str} {wi : WI} {tt : WT} (hc : X.calm = true) (hN : X.N.Nodup) (ok : blkC X.N X.env.scope scope [(y, j)] = true) (hi : QI X W True tg iter wi)
    (hg : ∀ (s : Shared) (H : Hp) (C : Addr) (cl : List (Str × Addr)) (fp : List Addr), PG (X.blk s H scope (compEnvC scope cl C X.env) fp) tg (gName j)) (ht : ∀ (s : Shared) (H : Hp) (C : Addr) (cl : List (Str × Addr)) (fp : List Addr), QTs (X.blk s H scope (compEnvC scope cl C X.env) fp) W0 ifs tt)
    (he : ∀ (s : Shared) (H : Hp) (C : Addr) (cl : List (Str × Addr)) (fp : List Addr), QE (X.blk s H scope (compEnvC scope cl C X.env) fp) W0 elt we) (hs : ∀ x, foldedSetIterable iter X.env x = pure x := by intro _; rfl) :
    QE X W (.ListComp elt [⟨tg, iter, ifs, 0⟩] scope pos) (wLcM j wi tt we) := qlcM (pe_lc hc hN hi (blkOk_by ok) hg ht he hs)
/-- in a block: the own name -/
theorem gown {s : Shared} {H : Hp} {scope : Scope} {C : Addr} {cl : List (Str × Addr)} {fp : List Addr} (j : Nat) {y : Str} (hN : X.N.Nodup) (hi : X.N[j]? = some y := by rfl)
    (hx : Loc (X.blk s H scope (compEnvC scope cl C X.env) fp).env.scope y := by first | exact Or.inl rfl | exact Or.inr rfl) (hf : (X.blk s H scope (compEnvC scope cl C X.env) fp).fn y = true ∨ (X.blk s H scope (compEnvC scope cl C X.env) fp).env.scope.names.lookup y = some .local := by first | exact .inl rfl | exact .inr rfl) :
    PG (X.blk s H scope (compEnvC scope cl C X.env) fp) (.Name y pos) (gName j) := pg_name (X := X.blk s H scope (compEnvC scope cl C X.env) fp) hN hi hx hf
/-- y = [..] on one line -/
theorem ssetLc {elt tg iter : Expr} {ifs : List Expr} {scope : Scope} {i j : Nat} {y z : Str} {wi : WI} {tt : WT} {py spos : Pos} (hN : X.N.Nodup) (ok : blkC X.N X.env.scope scope [(y, j)] = true) (hi : QI X W True tg iter wi)
    (hg : ∀ (s : Shared) (H : Hp) (C : Addr) (cl : List (Str × Addr)) (fp : List Addr), PG (X.blk s H scope (compEnvC scope cl C X.env) fp) tg (gName j)) (ht : ∀ (s : Shared) (H : Hp) (C : Addr) (cl : List (Str × Addr)) (fp : List Addr), QTs (X.blk s H scope (compEnvC scope cl C X.env) fp) W0 ifs tt)
    (he : ∀ (s : Shared) (H : Hp) (C : Addr) (cl : List (Str × Addr)) (fp : List Addr), QE (X.blk s H scope (compEnvC scope cl C X.env) fp) W0 elt we) (hc : X.calm = true := by rfl) (hz : X.N[i]? = some z := by rfl) (hzl : X.env.scope.names.lookup z = some .local := by rfl)
    (hk : X.env.scope.kind = .function := by rfl) (hl : (py.line == pos.line) = true := by rfl) (hq : (scope.names.any fun (n, k) => n == z && (k == .local || k == .cell)) = false := by decide +kernel) (hs : ∀ x, foldedSetIterable iter X.env x = pure x := by intro _; rfl) :
    QS X W (.Assign [.Name z py] (.ListComp elt [⟨tg, iter, ifs, 0⟩] scope pos) spos) (wSet i (wLc j wi tt we)) :=
  sset i (ps_setLc hc hN hz hzl (sw_true hk hzl hl hq) hi (blkOk_by ok) hg ht he hs) fun σ H Q ⟨F, Γ, M, R, RX, s, e, w, hq, hx⟩ =>
    lc_walk (Z := fun out M p R => R (.lst out) (mdel M p)) s e w hx fun out M' p F' H' h hp sF k => by
      obtain ⟨F2, s2, k2, r2⟩ := k.freeze hp
      exact hq _ _ _ _ _ h (sF.trans s2) k2 r2
/-- a, b = e -/
theorem sasgT {es : List Expr} {kk n : Nat} {is : List Nat} {tp : Pos} {e : Expr} {spos : Pos} (h : PS X (.Assign [.Tuple es kk tp] e spos) (tAsg (lE X.K W we) (lG X.K W (gTpl is)))) : QS X W (.Assign [.Tuple es kk tp] e spos) (wAsg (gTpl is) we) := stgt h
end
end DL

set_option Elab.async false
set_option backward.match.sparseCases false
set_option linter.all false
set_option maxRecDepth 100000
set_option maxHeartbeats 4000000
/-! DX3: exceptions made and held as values; isinstance and .at of them. -/
namespace PySem.W
open PySem PySem.Spec PySem.Calls PyProof.Rows
section
variable {K : Frag} {x t : Value} {H : Heap → Prop}
/-- isinstance is true -/
theorem dx_ansT {c : Value} (ty : ∀ (M : Model) (h : Heap), K.In h → H h → Looks M h (typeOf x) t) (e : kitOne K t c = some true) : Answers (fun s => K.In s.heap ∧ H s.heap) x c true := fun dep tk prog w A R ⟨h0, g, d, tt, os⟩ hs => by
  obtain ⟨⟨X, p⟩, hq⟩ := hs
  unfold kitOne at e
  unfold Builtin.«isinstance.nested»
  refine wpAny_bind ((ty (model prog w) h0 X p).at ?_)
  by_cases q : (t == c) = true
  · rw [if_pos q]
    first
      | ((repeat lk); exact hq tt) | exact wpAny_bind (wpAny_rule (hq tt)) | exact wpAny_bind (wpAny_rule (wpAny_pure (hq tt)))
  · rw [if_neg q] at e
    rw [if_neg q]
    have L3 := kit_cls (M := model prog w) X e
    refine wpAny_bind (L3.1.at ?_)
    rw [if_pos (by decide)]
    k_delta "plainIsInstance"
    refine wpAny_bind (wpAny_bind (L3.2.1.at ?_))
    simp only [Bool.not_true, Bool.false_eq_true, if_false]
    refine wpAny_bind (((ty (model prog w) h0 X p).andThen L3.2.2).at ?_)
    first
      | exact wpAny_pure (wpAny_pure (hq tt)) | (simp only [if_true]; first | exact wpAny_pure (wpAny_pure (hq tt)) | exact wpAny_pure (hq tt) | exact wpAny_bind (wpAny_pure (wpAny_pure (hq tt))))
theorem dx_isT {prog : Program} {w : World} {A : Around} {E : Value → Shared → Prop} {s : Shared} {Q : Value → Shared → Prop} {c : Value} (ty : ∀ (M : Model) (h : Heap), K.In h → H h → Looks M h (typeOf x) t) (X : K.In s.heap) (p : H s.heap) (e : kitOne K t c = some true)
    (hx : x ≠ .builtin "__main__.__loader__#opaque") (h : ∀ tk, Q (.bool true) { s with toks := tk }) : wpAny (model prog w) A (call (.builtin "isinstance") [x, c]) Q E s :=
  call_isinstance (S := fun _ R s => (K.In s.heap ∧ H s.heap) ∧ ∀ tk, R (.ok (.ret (.bool true))) { s with toks := tk }) (fun prog w A R s hs => isinstance_outer (dx_ansT ty e 0 _ prog w A R s hs) hx) ⟨⟨X, p⟩, h⟩
end
end PySem.W
namespace DL
open PySem PySem.Spec PyProof.Rows L2
def tMkX (C : Addr) (sp : Sp) (ta : TA) : TE := fun σ H Q => ta σ H fun vs H1 => vs.length ≤ 1000 ∧ ∀ a, H1 a = none → sp (.ref a :: vs) (upd H1 a (exo a C none)) (fun v H2 => v = .non ∧ Q (.ref a) H2) fun _ _ _ => False
section
variable {X : Cx} {W : WX} {k n : Nat} {x : Str} {C fI : Addr} {fd : FuncData} {ps : List Str} {sp : Sp} {p pos : Pos} {e : Expr} {es : List Expr} {ta : TA} {tr : WA} {we : WE}
/-- C(e), held as a value -/
theorem pe_mkx (T : OexC X.K C) (iC : PySem.W.findIn X.K (.ref C) "__init__" = some (some (.ref fI))) (tI : PySem.W.typeIn X.K (.ref fI) = some (.type "function")) (F1 : FnOk X.prog X.w X.K X.mg X.base (L2.CX X.prog X.w) k fI fd ps sp) (hr : Room (k + 1) X.A) (hb : Binds X.K fd ps [])
    (tk : Takes X W) (hg : Gl X x) (hm : X.mg x = some (.ref C)) (ha : PA X (e :: es) ta) (hdb : (x == ("__debug__" : Str)) = false := by decide) (he : starEach (e :: es) X.env = (false, eval e X.env) :: starEach es X.env := by rfl)
    (hpl : (backTo pos (starEach es X.env)).any (·.1) = false := by rfl) : PE X (.Call (.Name x p) (e :: es) [] pos) (tMkX C sp ta) := ⟨fun pins s σ H Q I h => by
  have TC := T.cls
  obtain ⟨_, _, _, _, bm, _, _, _, _, _, _, _, _, _, _, hC, hbm⟩ := TC
  refine wpAny_Call_Name_kw (ld_glob I hg hm ?_ hdb)
  refine PySem.W.callWith_K (h₀ := X.base) I.ok.mod.kin T.kC (thn (ha.run pos pins s σ H _ I h) fun us s1 ⟨vs, H1, I1, r1, hz, q1⟩ => ⟨I1.kIn, ?_⟩) he hpl
  show wpAny _ _ (call (.ref C) us) _ _ _
  cases s1 with
  | mk hp g dr tk1 os =>
  have n1 : H1 (hp.objs.size + 1) = none := I1.hok.fresh (Nat.le_succ _)
  have q2 := q1 (hp.objs.size + 1) n1
  have I2 : Inv X pins σ (upd H1 (hp.objs.size + 1) (exo (hp.objs.size + 1) C none)) ⟨(hp.push (PySem.W.kdv_tup us)).push (PySem.HandSPX.excO C hp.objs.size), g, dr, tk1, os⟩ :=
    I1.laid (t' := tk1) (a := hp.objs.size + 1) (fun b o e => Heap.get?_push_of_some _ (Heap.get?_push_of_some _ e)) (Nat.le_succ _) (exo_ok (t1 := hp.objs.size) (by heap_get))
  have r2 : Vals (V.ref (hp.objs.size + 1) :: vs) (Value.ref (hp.objs.size + 1) :: us) := .cons rfl r1
  have l2 : (Value.ref (hp.objs.size + 1) :: us).length = ps.length := by
    have z := r2.length
    rw [F1.len _ _ _ _ q2] at z
    exact z.symm
  have hus : us.length ≤ sizeLine := by
    rw [← Paired.length r1, sizeLine_eq]
    omega
  refine wpAny_call (PySem.HandSPX.call_own F.excBase_ValueError (fun Y => PySem.HandSPX.refsVE_contains Y bm hbm) (I1.kIn _ _ hC) (PySem.W.looks_findIn I1.kIn iC) (fun self => PySem.W.bind_fn I1.kIn self tI) hus (codeAny_mono
    (F1.run _ X.stack _ _ ⟨Value.ref (hp.objs.size + 1) :: us, []⟩ (Value.ref (hp.objs.size + 1) :: us) _ _ (fun _ _ _ => False) (hr.make C us []) (I2.env0.make C us []) (by have := hb _ (Value.ref (hp.objs.size + 1) :: us) I2.kIn (by simpa using l2); simpa using this) r2 q2) fun r s' hq => ?_))
  cases r with
  | error er => exact tk _ _ (XE.of_call I2 (fun _ _ _ z => z.elim) hq)
  | ok fl =>
    cases fl with
    | ret u =>
      obtain ⟨v, H3, I3, rv, ev, q3⟩ := I2.after hq
      subst ev
      exact ⟨rv, ⟨V.ref (hp.objs.size + 1), H3, I3, rfl, q3⟩⟩
    | next => exact False.elim hq
    | brk => exact False.elim hq
    | cont => exact False.elim hq⟩
def wMkx (C : Addr) (t : WA) : WE := fun Γ M R RX => t Γ M (fun ds M1 => match ds with
  | [d] => R (.xv C d) M1
  | _ => False) RX
theorem qmkx (c : ErAt X.prog X.w X.K X.mg X.base k x C) (hr : Room (k + 1) X.A) (tk : Takes X W) (hg : Gl X x) (ha : QA X W [e] 1 tr)
    (hdb : (x == ("__debug__" : Str)) = false := by decide) (he : starEach [e] X.env = (false, eval e X.env) :: starEach [] X.env := by rfl) (hpl : (backTo pos (starEach [] X.env)).any (·.1) = false := by rfl) :
    QE X W (.Call (.Name x p) [e] [] pos) (wMkx C tr) := by
  obtain ⟨f, B, fd, hm, EC, iC, tI, hb, G⟩ := c.ex
  refine pe_imp (pe_mkx EC.oex iC tI G hr hb tk hg hm ha hdb he hpl) fun σ H Q ⟨F, Γ, M, R, RX, s, e0, w, hq, hx⟩ => ⟨F, Γ, M, _, RX, s, e0, w, fun ds M1 F1 H1 vs h1 hl s1 k1 r1 => ?_, hx⟩
  split at h1
  · rename_i d
    obtain ⟨v, _, rfl, rv, rfl⟩ := r1
    refine ⟨by simp, fun a na => ⟨a, C, v, rfl, upd_same, EC, fun dx nd ne => ⟨rfl, ?_⟩⟩⟩
    have nd1 : H1 dx = none := by rw [upd_ne ne] at nd; exact nd
    have ep : upd (upd (upd H1 a (exo a C none)) dx (exd dx [("at", v)])) a (exo a C (some dx)) = upd (upd H1 dx (exd dx [("at", v)])) a (exo a C (some dx)) := by
      funext b
      by_cases ba : b = a
      · subst ba; rw [upd_same, upd_same]
      · rw [upd_ne ba, upd_ne ba]
        by_cases bd : b = dx
        · subst bd; rw [upd_same, upd_same]
        · rw [upd_ne bd, upd_ne bd, upd_ne ba]
    rw [ep]
    obtain ⟨k2, sF⟩ := k1.grow (o := exd dx [("at", v)]) nd1
    have na2 : upd H1 dx (exd dx [("at", v)]) a = none := by rw [upd_ne (Ne.symm ne)]; exact na
    obtain ⟨k3, sF3⟩ := k2.grow (o := exo a C (some dx)) na2
    exact hq _ _ _ _ _ h1 ((s1.trans sF).trans sF3) k3 ⟨a, dx, v, rfl, upd_same, by rw [upd_ne ne, upd_same], Rep.mono (sF.trans sF3) _ _ rv⟩
  · exact h1.elim
/-- isinstance(x, c) of such a value, where it is true -/
def cIsx (d : D) (P : Addr → Prop) : OC := fun ds M R => ∃ C y, ds = [.xv C y, d] ∧ P C ∧ R (.bl true) M
theorem qisx {c : Value} {d : D} {e2 : Expr} (hg : Gl X "isinstance") (hm : X.mg "isinstance" = none) (he : QE X W e we) (h2 : QE X W e2 (wC d)) (hd : ∀ F v, Rep X.K F d v → ∀ u, RelV v u → u = c)
    (hs : starEach [e, e2] X.env = (false, eval e X.env) :: starEach [e2] X.env := by rfl) (hs2 : starEach [e2] X.env = (false, eval e2 X.env) :: starEach [] X.env := by rfl) (hpl : (backTo pos (starEach [e2] X.env)).any (·.1) = false := by rfl) :
    QE X W (.Call (.Name "isinstance" p) [e, e2] [] pos) (wCB (cIsx d fun C => PySem.W.kitOne X.K (.ref C) c = some true) (wCons we (wCons (wC d) wNil))) := by
  have hc : CallR X (.builtin "isinstance") (fun xs H Q => ∃ (a C dx : Addr) (v : V), xs = [.ref a, v] ∧ H a = some (exo a C (some dx)) ∧ (∃ fs, H dx = some (exd dx fs)) ∧ (∀ u, RelV v u → u = c) ∧ PySem.W.kitOne X.K (.ref C) c = some true ∧ Q (.bl true) H) := by
    intro pins s σ H xs us Q I r h
    obtain ⟨a, C, dx, v, rfl, ha, ⟨fs, hdx⟩, hv, hk, q⟩ := h
    obtain ⟨u1, u2, rfl, r1, r2⟩ := vals2 r
    obtain rfl : u1 = Value.ref a := r1
    have e2 := hv _ r2
    subst e2
    obtain ⟨t1, h1⟩ := exo_at I.hok ha
    obtain ⟨mA, ⟨od, _, _, ho, _⟩, _⟩ := exd_at I.hok hdx
    have J : PySem.W.InstAt s.heap a { cls := .ref C, dict := some dx, data := .fields #[.ref t1, .none, .none, .none, .bool false, .none] } C (some od) := ⟨h1, rfl, rfl, ho⟩
    exact PySem.W.dx_isT (K := X.K) (t := .ref C) (H := fun h => PySem.W.InstAt h a { cls := .ref C, dict := some dx, data := .fields #[.ref t1, .none, .none, .none, .bool false, .none] } C (some od)) (fun M h _ hh => hh.type) I.kIn J hk (by intro z; cases z) fun tk => ⟨.bl true, H, I.tok tk, rfl, q⟩
  refine qcallB hc ?_ hg hm (by decide +kernel) (acons he (acons h2 anil hs2) hs) (he := hs) (hpl := hpl)
  intro ds vs F H M R Q s r h q
  obtain ⟨C, y, rfl, hk, h⟩ := h
  obtain ⟨v1, v2, rfl, r1, r2⟩ := reps2 r
  obtain ⟨a, dx, w, rfl, f1, f2, _⟩ := r1
  exact ⟨a, C, dx, v2, rfl, s.sub _ _ f1, ⟨_, s.sub _ _ f2⟩, hd F v2 r2, hk, q _ _ _ _ _ h (Same.refl F) s rfl⟩
/-- .at of such a value -/
def wXvat (we : WE) (P : Addr → Prop) : WE := fun Γ M R RX => we Γ M (fun d M1 => match d with
  | .xv C y => P C ∧ R y M1
  | _ => False) RX
theorem qxvat {P : Addr → Prop} (T : ∀ C, P C → XfC X.K C ∧ PySem.W.findIn X.K (.ref C) "at" = some none) (he : QE X W e we) (hb : attributeBase e "at" X.env (eval e X.env) = eval e X.env := by rfl) : QE X W (.Attribute e "at" pos) (wXvat we P) := by
  have base : PE X (.Attribute e "at" pos) (fun σ H Q => lE X.K W we σ H fun x H1 => ∃ (a C dx : Addr) (w : V), x = .ref a ∧ H1 a = some (exo a C (some dx)) ∧ H1 dx = some (exd dx [("at", w)]) ∧ P C ∧ Q w H1) := by
    refine ⟨fun pins s σ H Q I h => ?_⟩
    refine attr_of hb (thn (he.run pins s σ H _ I h) fun u s1 hh => ?_)
    obtain ⟨x, H1, I1, rx, a, C, dx, w, ex, ha, hdx, hP, q⟩ := hh
    subst ex
    obtain rfl : u = Value.ref a := rx
    obtain ⟨t1, h1⟩ := exo_at I1.hok ha
    obtain ⟨mA, hns, hr⟩ := exd_at I1.hok hdx
    obtain ⟨TX, TN⟩ := T C hP
    obtain ⟨od, ho, hl⟩ := lookIn_ns hns
    obtain ⟨u, hu, ru⟩ := RelO.some_of (v := w) (o := mA "at") (by have := hr "at"; simpa [List.lookup] using this)
    have J : PySem.W.InstAt s1.heap a { cls := .ref C, dict := some dx, data := .fields #[.ref t1, .none, .none, .none, .bool false, .none] } C (some od) := ⟨h1, rfl, rfl, ho⟩
    exact HandSPX.exc_get I1.kIn J TX.ga TX.gg TX.exC (PySem.W.findObj_own TX.hdC TN rfl (by rw [hl, hu])) (handed_of ru) ⟨w, H1, I1.tok _, ru, q⟩
  refine pe_imp base fun σ H Q ⟨F, Γ, M, R, RX, s, e0, w, hq, hx⟩ => ⟨F, Γ, M, _, RX, s, e0, w, fun d M1 F1 H1 v h1 s1 k1 r1 => ?_, hx⟩
  cases d with
  | xv C y =>
    obtain ⟨a, dx, w2, r2, f1, f2, r3⟩ := r1
    exact ⟨a, C, dx, w2, r2, k1.sub _ _ f1, k1.sub _ _ f2, h1.1, hq _ _ _ _ _ h1.2 s1 k1 r3⟩
  | _ => exact h1.elim
end
end DL

set_option Elab.async false
set_option backward.match.sparseCases false
set_option linter.all false
set_option maxRecDepth 100000
set_option maxHeartbeats 4000000
/-! DL11: the transformers by equations (for simp only), loops by states of one's own. -/
namespace DL
open PySem PySem.Spec PyProof.Rows L2

def setNx (E : EndsD) (f : GE → Mem → Prop) : EndsD := { E with nx := f }
def loopE (E : EndsD) (I : GE → Mem → Prop) : EndsD := { E with nx := Wk I, ct := Wk I, bk := E.nx }
def tryE (E : EndsD) (x : Addr → D → GE → Mem → Prop) : EndsD := { E with ex := x }
section
variable {E : EndsD} {f I : GE → Mem → Prop} {x : Addr → D → GE → Mem → Prop} {R : DK} {RX : DX}
theorem p_s1 : (setNx E f).nx = f := (rfl)
theorem p_s2 : (setNx E f).rt = E.rt := (rfl)
theorem p_s3 : (setNx E f).bk = E.bk := (rfl)
theorem p_s4 : (setNx E f).ct = E.ct := (rfl)
theorem p_s5 : (setNx E f).ex = E.ex := (rfl)
theorem p_l1 : (loopE E I).nx = Wk I := (rfl)
theorem p_l2 : (loopE E I).rt = E.rt := (rfl)
theorem p_l3 : (loopE E I).bk = E.nx := (rfl)
theorem p_l4 : (loopE E I).ct = Wk I := (rfl)
theorem p_l5 : (loopE E I).ex = E.ex := (rfl)
theorem p_t1 : (tryE E x).nx = E.nx := (rfl)
theorem p_t2 : (tryE E x).rt = E.rt := (rfl)
theorem p_t3 : (tryE E x).bk = E.bk := (rfl)
theorem p_t4 : (tryE E x).ct = E.ct := (rfl)
theorem p_t5 : (tryE E x).ex = x := (rfl)
theorem p_b1 : (bodyEnds R RX).nx = fun _ M => Up (R .non) M := (rfl)
theorem p_b2 : (bodyEnds R RX).rt = fun d M => Up (R d) M := (rfl)
theorem p_b5 : (bodyEnds R RX).ex = fun c d _ M => Up (RX c d) M := (rfl)
end
/-- a new environment, to be reckoned first -/
def envK (Q : GE → Mem → Prop) (Γ : GE) (M : Mem) : Prop := Q Γ M
/-- what comes next, not looked at yet -/
def seqK (u : WS) (E : EndsD) (Γ : GE) (M : Mem) : Prop := u E Γ M
def onSome {α : Type} (o : Option α) (k : α → Prop) : Prop := match o with
  | some x => k x
  | none => False
theorem e_some {α : Type} {x : α} {k : α → Prop} : onSome (some x) k = k x := (rfl)
def onLst (o : Option MO) (k : List D → Prop) : Prop := match o with
  | some (.lst xs) => k xs
  | _ => False
theorem e_onLst {xs : List D} {k : List D → Prop} : onLst (some (.lst xs)) k = k xs := (rfl)
def onIns (o : Option MO) (k : Addr → List (Str × D) → Prop) : Prop := match o with
  | some (.ins C fs) => k C fs
  | _ => False
theorem e_onIns {C : Addr} {fs : List (Str × D)} {k : Addr → List (Str × D) → Prop} : onIns (some (.ins C fs)) k = k C fs := (rfl)
section
variable {Γ : GE} {M : Mem} {R : DK} {RX : DX} {E : EndsD} {d x y : D} {i j : Int} {n : Nat} {a : Addr} {xs ys : List D}
theorem e_seq {t u : WS} : wSeq t u E Γ M = t (setNx E (seqK u E)) Γ M := (rfl)
theorem e_seqK {u : WS} : seqK u E Γ M = u E Γ M := (rfl)
theorem e_set {we : WE} : wSet n we E Γ M = we Γ M (fun d M1 => envK E.nx (st Γ n d) M1) (fun c d M1 => E.ex c d Γ M1) := (rfl)
theorem e_envK {Q : GE → Mem → Prop} : envK Q Γ M = Q Γ M := (rfl)
theorem e_next : wNext E Γ M = E.nx Γ M := (rfl)
theorem e_expr {we : WE} : wExpr we E Γ M = we Γ M (fun _ M1 => E.nx Γ M1) (fun c d M1 => E.ex c d Γ M1) := (rfl)
theorem e_ret {we : WE} : wRet we E Γ M = we Γ M E.rt (fun c d M1 => E.ex c d Γ M1) := (rfl)
theorem e_retN : wRetN E Γ M = E.rt .non M := (rfl)
theorem e_break : wBreak E Γ M = E.bk Γ M := (rfl)
theorem e_cont : wCont E Γ M = E.ct Γ M := (rfl)
theorem e_if {c : WT} {t u : WS} : wIf c t u E Γ M = c Γ M (fun b M1 => if b = true then t E Γ M1 else u E Γ M1) (fun c d M1 => E.ex c d Γ M1) := (rfl)
theorem e_par {m : Nat} {wa wb : WE} : wPar n m wa wb E Γ M = wa Γ M (fun d M1 => wb Γ M1 (fun d2 M2 => envK E.nx (st (st Γ n d) m d2) M2) (fun c d M1 => E.ex c d Γ M1)) (fun c d M1 => E.ex c d Γ M1) := (rfl)
theorem e_aug {f : OD} {we : WE} : wAug n f we E Γ M = onSome (gt Γ n) (fun x => we Γ M (fun y M1 => f x y M1 (fun z M2 => envK E.nx (st Γ n z) M2)) (fun c d M1 => E.ex c d Γ M1)) := by unfold wAug onSome envK; cases gt Γ n <;> rfl
theorem e_asg {g : WG} {we : WE} : wAsg g we E Γ M = we Γ M (fun d M1 => g d Γ M1 E.nx (fun c d M2 => E.ex c d Γ M2)) (fun c d M1 => E.ex c d Γ M1) := (rfl)
theorem e_raise {C : Addr} {t : WA} : wRaise C t E Γ M = t Γ M (fun ds M1 => match ds with
  | [d] => E.ex C d Γ M1
  | _ => False) (fun c d M1 => E.ex c d Γ M1) := rfl
theorem e_gSubD {wo wi : WE} {Q : GE → Mem → Prop} : gSubD wo wi d Γ M Q RX = wo Γ M (fun x M1 => wi Γ M1 (fun k M2 => dPut x k d M2 fun M3 => Q Γ M3) RX) RX := (rfl)
theorem e_gNm {Q : GE → Mem → Prop} : gNm n d Γ M Q RX = envK Q (st Γ n d) M := (rfl)
theorem e_gTpl {is : List Nat} {Q : GE → Mem → Prop} : gTpl is d Γ M Q RX = onSome (asT d) (fun xs => xs.length = is.length ∧ gNms is xs Γ M Q RX) := by unfold gTpl onSome; cases asT d <;> rfl
theorem e_gNms0 {Q : GE → Mem → Prop} : gNms [] [] Γ M Q RX = Q Γ M := by unfold gNms; simp
theorem e_gNms {is : List Nat} {Q : GE → Mem → Prop} : gNms (n :: is) (d :: xs) Γ M Q RX = gNms is xs (st Γ n d) M Q RX := (rfl)
theorem e_var : wVar n Γ M R RX = onSome (gt Γ n) (fun d => R d M) := by unfold wVar onSome; cases gt Γ n <;> rfl
theorem e_var0 {g : GE} : wVar 0 (some d :: g) M R RX = R d M := (rfl)
theorem e_varS {o : Option D} {g : GE} : wVar (n + 1) (o :: g) M R RX = wVar n g M R RX := (rfl)
theorem e_c : wC d Γ M R RX = R d M := (rfl)
theorem e_op {f : OD} {wa wb : WE} : wOp f wa wb Γ M R RX = wa Γ M (fun x M1 => wb Γ M1 (fun y M2 => f x y M2 R) RX) RX := (rfl)
theorem e_b {w : WE} {Q : Bool → Mem → Prop} : wB w Γ M Q RX = w Γ M (fun d M' => match d with
  | .bl b => Q b M'
  | _ => False) RX := rfl
theorem e_and {t u : WT} {Q : Bool → Mem → Prop} : wAnd t u Γ M Q RX = t Γ M (fun c M1 => if c = true then u Γ M1 Q RX else Q false M1) RX := (rfl)
theorem e_or {t u : WT} {Q : Bool → Mem → Prop} : wOr t u Γ M Q RX = t Γ M (fun c M1 => if c = true then Q true M1 else u Γ M1 Q RX) RX := (rfl)
theorem e_not {t : WT} {Q : Bool → Mem → Prop} : wNot t Γ M Q RX = t Γ M (fun c M1 => Q (!c) M1) RX := (rfl)
theorem e_yes {Q : Bool → Mem → Prop} : wYes Γ M Q RX = Q true M := (rfl)
theorem e_andV {wa wb : WE} : wAndV wa wb Γ M R RX = wa Γ M (fun d M1 => match d with
  | .bl true => wb Γ M1 R RX
  | .bl false => R (.bl false) M1
  | _ => False) RX := rfl
theorem e_orV {wa wb : WE} : wOrV wa wb Γ M R RX = wa Γ M (fun d M1 => match d with
  | .bl false => wb Γ M1 R RX
  | .bl true => R (.bl true) M1
  | _ => False) RX := rfl
theorem e_notV {wa : WE} : wNotV wa Γ M R RX = wa Γ M (fun d M1 => match d with
  | .bl b => R (.bl (!b)) M1
  | _ => False) RX := rfl
theorem e_chain {f g : OD} {wa wb wc : WE} : wChain f g wa wb wc Γ M R RX = wa Γ M (fun x M1 => wb Γ M1 (fun y M2 => f x y M2 (fun z M3 => match z with
  | .bl true => wc Γ M3 (fun u M4 => g y u M4 R) RX
  | .bl false => R (.bl false) M3
  | _ => False)) RX) RX := rfl
theorem e_ifE {t : WT} {wa wb : WE} : wIfE t wa wb Γ M R RX = t Γ M (fun c M1 => if c = true then wa Γ M1 R RX else wb Γ M1 R RX) RX := (rfl)
theorem e_neg {wa : WE} : wNeg wa Γ M R RX = wa Γ M (fun d M1 => match d with
  | .int i => R (.int (-i)) M1
  | _ => False) RX := rfl
theorem e_nil {Q : List D → Mem → Prop} : wNil Γ M Q RX = Q [] M := (rfl)
theorem e_cons {te : WE} {tr : WA} {Q : List D → Mem → Prop} : wCons te tr Γ M Q RX = te Γ M (fun d M1 => tr Γ M1 (fun ds M2 => Q (d :: ds) M2) RX) RX := (rfl)
theorem e_tup {t : WA} : wTup t Γ M R RX = t Γ M (fun ds M1 => R (.tup ds) M1) RX := (rfl)
theorem e_lst {t : WA} : wLst t Γ M R RX = t Γ M (fun ds M1 => R (.lst ds) M1) RX := (rfl)
theorem e_lstM {t : WA} : wLstM t Γ M R RX = t Γ M (fun ds M1 => ∀ p, M1 p = none → R (.ref p) (mup M1 p (.lst ds))) RX := (rfl)
def fzP (R : DK) (d : D) (M : Mem) : Prop := match d with
  | .ref a => (match M a with
    | some (.lst ds) => R (.lst ds) (mdel M a)
    | _ => False)
  | _ => False
theorem e_fz {we : WE} : wFz we Γ M R RX = we Γ M (fzP R) RX := (rfl)
theorem e_fzP : fzP R (.ref a) M = onLst (M a) (fun xs => R (.lst xs) (mdel M a)) := (rfl)
theorem e_cb {f : OC} {t : WA} : wCB f t Γ M R RX = t Γ M (fun ds M1 => f ds M1 R) RX := (rfl)
theorem e_call {fs : FS} {t : WA} : wCall fs t Γ M R RX = t Γ M (fun ds M1 => fs ds M1 R RX) RX := (rfl)
theorem e_meth {C : Addr} {m : Str} {fs : FS} {wo : WE} {t : WA} : wMeth C m fs wo t Γ M R RX = wo Γ M (fun d M1 => mDisp C m d M1 fun a => t Γ M1 (fun ds M2 => fs (.ref a :: ds) M2 R RX) RX) RX := (rfl)
theorem e_mDisp {C : Addr} {m : Str} {k : Addr → Prop} : mDisp C m (.ref a) M k = onIns (M a) (fun C' fl => C' = C ∧ fl.lookup m = none ∧ k a) := by dsimp only [mDisp, onIns] <;> (generalize M a = o; rcases o with _ | o <;> (first | rfl | (cases o <;> rfl)))
theorem e_make {C : Addr} {fs : FS} {t : WA} : wMake C fs t Γ M R RX = t Γ M (fun ds M1 => ∀ a, M1 a = none → fs (.ref a :: ds) (mup M1 a (.ins C [])) (fun d M2 => d = .non ∧ R (.ref a) M2) RX) RX := (rfl)
theorem e_sl {we : WE} {lo hi : WO} : wSl we lo hi Γ M R RX = we Γ M (fun d M1 => lo Γ M1 (fun i M2 => hi Γ M2 (fun j M3 => fSl d i j M3 R) RX) RX) RX := (rfl)
theorem e_noP {Q : Option Int → Mem → Prop} : wNoP Γ M Q RX = Q none M := (rfl)
theorem e_p {w : WE} {Q : Option Int → Mem → Prop} : wP w Γ M Q RX = w Γ M (fun d M' => match d with
  | .int i => Q (some i) M'
  | _ => False) RX := rfl
theorem e_fSlL {lo hi : Option Int} : fSl (.lst xs) lo hi M R = R (.lst (cutD xs lo hi)) M := (rfl)
theorem e_fSlR {lo hi : Option Int} : fSl (.ref a) lo hi M R = onLst (M a) (fun xs => R (.lst (cutD xs lo hi)) M) := by dsimp only [fSl, asL, onLst]; generalize M a = o; cases o with
  | none => rfl
  | some o => cases o <;> rfl
theorem e_fSlT {lo hi : Option Int} : fSl (.tup xs) lo hi M R = R (.tup (cutD xs lo hi)) M := (rfl)
def revP (R : DK) (d : D) (M : Mem) : Prop := match asL d M with
  | some xs => R (.lst xs.reverse) M
  | none => False
theorem e_rev {we : WE} : wRev we Γ M R RX = we Γ M (revP R) RX := (rfl)
theorem e_revPL : revP R (.lst xs) M = R (.lst xs.reverse) M := (rfl)
theorem e_revPS {ns : List Int} : revP R (.scr ns) M = R (.lst (ns.map .int).reverse) M := (rfl)
theorem e_revPR : revP R (.ref a) M = onLst (M a) (fun xs => R (.lst xs.reverse) M) := by dsimp only [revP, asL, onLst]; generalize M a = o; cases o with
  | none => rfl
  | some o => cases o <;> rfl
theorem e_mt {f : OM} {wo : WE} {t : WA} : wMt f wo t Γ M R RX = wo Γ M (fun x M1 => (∃ xs, asL x M1 = some xs) ∧ t Γ M1 (fun ds M2 => f x ds M2 R) RX) RX := (rfl)
theorem e_asLx : (∃ xs, asL (.ref a) M = some xs) = onLst (M a) (fun _ => True) := by dsimp only [asL, onLst]; generalize M a = o; cases o with
  | none => simp
  | some o => cases o <;> simp
theorem e_append : fAppend (.ref a) [y] M R = onLst (M a) (fun xs => xs.length < sizeLine ∧ R .non (mup M a (.lst (xs ++ [y])))) := by dsimp only [fAppend, onLst] <;> (generalize M a = o; rcases o with _ | o <;> (first | rfl | (cases o <;> rfl)))
def fldP (C : Addr) (f : Str) (R : DK) (d : D) (M1 : Mem) : Prop := match d with
  | .ref a => (match M1 a with
    | some (.ins C' fs) => C' = C ∧ (match fs.lookup f with
      | some v => R v M1
      | none => False)
    | _ => False)
  | _ => False
theorem e_fld {C : Addr} {f : Str} {wo : WE} : wFld C f wo Γ M R RX = wo Γ M (fldP C f R) RX := (rfl)
theorem e_fldP {C : Addr} {f : Str} : fldP C f R (.ref a) M = onIns (M a) (fun C' fs => C' = C ∧ onSome (fs.lookup f) (fun v => R v M)) := by
  unfold fldP onIns onSome
  dsimp only
  generalize M a = o
  cases o with
  | none => rfl
  | some o =>
    cases o with
    | ins C' fs => dsimp only; generalize fs.lookup f = q; cases q <;> rfl
    | _ => rfl
def fsetP (C : Addr) (f : Str) (y : D) (Q : Mem → Prop) (x : D) (M2 : Mem) : Prop := match x with
  | .ref a => (match M2 a with
    | some (.ins C' fs) => C' = C ∧ fs.length < 1000 ∧ Q (mup M2 a (.ins C (fput f y fs)))
    | _ => False)
  | _ => False
theorem e_fldSet {C : Addr} {f : Str} {wo we : WE} : wFldSet C f wo we E Γ M = we Γ M (fun y M1 => wo Γ M1 (fsetP C f y (E.nx Γ)) (fun c d M1 => E.ex c d Γ M1)) (fun c d M1 => E.ex c d Γ M1) := (rfl)
theorem e_fsetP {C : Addr} {f : Str} {Q : Mem → Prop} : fsetP C f y Q (.ref a) M = onIns (M a) (fun C' fs => C' = C ∧ fs.length < 1000 ∧ Q (mup M a (.ins C (fput f y fs)))) := (rfl)
def faugP (C : Addr) (f : Str) (g : OD) (we : WE) (E : EndsD) (Γ : GE) (x : D) (M1 : Mem) : Prop := match x with
  | .ref a => (match M1 a with
    | some (.ins C' fs) => C' = C ∧ ∃ v, fs.lookup f = some v ∧ we Γ M1 (fun y M2 => g v y M2 fun z M3 => ∃ fs', M3 a = some (.ins C fs') ∧ fs'.length < 1000 ∧ E.nx Γ (mup M3 a (.ins C (fput f z fs')))) (fun c d M1 => E.ex c d Γ M1)
    | _ => False)
  | _ => False
theorem e_fldAug {C : Addr} {f : Str} {g : OD} {wo we : WE} : wFldAug C f g wo we E Γ M = wo Γ M (faugP C f g we E Γ) (fun c d M1 => E.ex c d Γ M1) := (rfl)
theorem e_faugP {C : Addr} {f : Str} {g : OD} {we : WE} : faugP C f g we E Γ (.ref a) M = onIns (M a) (fun C' fs => C' = C ∧ ∃ v, fs.lookup f = some v ∧ we Γ M (fun y M2 => g v y M2 fun z M3 => ∃ fs', M3 a = some (.ins C fs') ∧ fs'.length < 1000 ∧ E.nx Γ (mup M3 a (.ins C (fput f z fs')))) (fun c d M1 => E.ex c d Γ M1)) := (rfl)
theorem e_augS {g : OD} {wo wi we : WE} : wAugS g wo wi we E Γ M = wo Γ M (fun x M1 => wi Γ M1 (fun k M2 => fIxL x k M2 fun old M3 => we Γ M3 (fun y M4 => g old y M4 fun z M5 => dPut x k z M5 fun M6 => E.nx Γ M6) (fun c d M1 => E.ex c d Γ M1)) (fun c d M1 => E.ex c d Γ M1)) (fun c d M1 => E.ex c d Γ M1) := (rfl)
def ixlM (o : Option MO) (i : Int) (R : DK) (M : Mem) : Prop := match o with
  | some (.lst xs) => onSome (atI xs i) (fun d => R d M)
  | some (.dK kvs) => onSome (vget kvs (.inl i)) (fun d => R d M)
  | some (.fK od vk kvs) => onSome (vget kvs (.inl i)) (fun d => R d M)
  | _ => False
theorem e_ixlM : ixlM (some (.lst xs)) i R M = onSome (atI xs i) (fun d => R d M) := (rfl)
theorem e_fIxL : fIxL (.ref a) (.int i) M R = ixlM (M a) i R M := by
  unfold fIxL dGet asL ixlM onSome
  dsimp only
  generalize M a = o
  cases o with
  | none => rfl
  | some o =>
    cases o with
    | lst xs => dsimp only; generalize atI xs i = q; cases q <;> rfl
    | dK kvs => dsimp only [dKey]; generalize vget kvs (.inl i) = q; cases q <;> rfl
    | fK od vk kvs => dsimp only [dKey]; generalize vget kvs (.inl i) = q; cases q <;> rfl
    | _ => rfl
theorem e_try {K : PySem.W.Frag} {cs : List Addr} {c : Value} {tb : WS} {ws : Addr → Addr → WS} : wTry K cs c n tb ws E Γ M = tb (tryE E fun C d Γ1 M1 => ∃ b, PySem.W.exmOne K (.ref C) c = some b ∧ (b = true → C ∈ cs ∧ ∀ a dx, ws a dx { nx := fun Γ2 M2 => E.nx (unst Γ2 n) M2, rt := E.rt, bk := fun Γ2 M2 => E.bk (unst Γ2 n) M2, ct := fun Γ2 M2 => E.ct (unst Γ2 n) M2, ex := fun _ _ _ _ => False } (st Γ1 n (.xc a dx d)) M1) ∧ (b = false → E.ex C d Γ1 M1)) Γ M := (rfl)
def xatP (a dx : Addr) (R : DK) (d : D) (M : Mem) : Prop := match d with
  | .xc a' dx' x => a' = a ∧ dx' = dx ∧ R x M
  | _ => False
theorem e_xat {a dx : Addr} {we : WE} : wXat a dx we Γ M R RX = we Γ M (xatP a dx R) RX := (rfl)
theorem e_xatP {a dx a' dx' : Addr} : xatP a dx R (.xc a' dx' d) M = (a' = a ∧ dx' = dx ∧ R d M) := (rfl)
theorem e_mkx {C : Addr} {t : WA} : wMkx C t Γ M R RX = t Γ M (fun ds M1 => match ds with
  | [d] => R (.xv C d) M1
  | _ => False) RX := rfl
def xvatP (P : Addr → Prop) (R : DK) (d : D) (M : Mem) : Prop := match d with
  | .xv C y => P C ∧ R y M
  | _ => False
theorem e_xvat {we : WE} {P : Addr → Prop} : wXvat we P Γ M R RX = we Γ M (xvatP P R) RX := (rfl)
theorem e_xvatP {P : Addr → Prop} {C : Addr} : xvatP P R (.xv C d) M = (P C ∧ R d M) := (rfl)
theorem e_int {C : Int → Int → Prop} {g : Int → Int → D} : fInt C g (.int i) (.int j) M R = (C i j ∧ R (g i j) M) := (rfl)
theorem e_int0 {g : Int → Int → D} : fInt0 g (.int i) (.int j) M R = R (g i j) M := (rfl)
theorem e_addI : fAdd (.int i) (.int j) M R = R (.int (i + j)) M := (rfl)
theorem e_addS {i j : Str} : fAdd (.str i) (.str j) M R = (i.length + j.length ≤ sizeLine ∧ R (.str (i ++ j)) M) := (rfl)
theorem e_addT : fAdd (.tup xs) (.tup ys) M R = (xs.length + ys.length ≤ sizeLine ∧ R (.tup (xs ++ ys)) M) := (rfl)
theorem e_addLL : fAdd (.lst xs) (.lst ys) M R = (xs.length + ys.length ≤ sizeLine ∧ R (.lst (xs ++ ys)) M) := (rfl)
theorem e_addRL : fAdd (.ref a) (.lst ys) M R = onLst (M a) (fun xs => xs.length + ys.length ≤ sizeLine ∧ R (.lst (xs ++ ys)) M) := by dsimp only [fAdd, asP, onLst]; generalize M a = o; cases o with
  | none => rfl
  | some o => cases o <;> rfl
theorem e_addLR : fAdd (.lst xs) (.ref a) M R = onLst (M a) (fun ys => xs.length + ys.length ≤ sizeLine ∧ R (.lst (xs ++ ys)) M) := by dsimp only [fAdd, asP, onLst]; generalize M a = o; cases o with
  | none => rfl
  | some o => cases o <;> rfl
theorem e_catMLL : fCatM (.lst xs) (.lst ys) M R = (xs.length + ys.length ≤ sizeLine ∧ ∀ p, M p = none → R (.ref p) (mup M p (.lst (xs ++ ys)))) := (rfl)
theorem e_mulI : fMul (.int i) (.int j) M R = (mulOk i j ∧ R (.int (i * j)) M) := (rfl)
theorem e_mulL : fMul (.lst xs) (.int j) M R = ((-(2 ^ 63) ≤ j ∧ j < 2 ^ 63 ∧ xs.length * j.toNat ≤ sizeLine) ∧ R (.lst (List.replicate j.toNat xs).flatten) M) := (rfl)
theorem e_repM : fRepM (.lst xs) (.int j) M R = ((-(2 ^ 63) ≤ j ∧ j < 2 ^ 63 ∧ xs.length * j.toNat ≤ sizeLine) ∧ ∀ p, M p = none → R (.ref p) (mup M p (.lst (List.replicate j.toNat xs).flatten))) := (rfl)
theorem e_isN : fIsN x .non M R = R (.bl (isNon x)) M := (rfl)
theorem e_notN : fNotN x .non M R = R (.bl (!isNon x)) M := (rfl)
theorem e_eqI : fEq (.int i) (.int j) M R = R (.bl (decide (i = j))) M := (rfl)
theorem e_eqS {i j : Str} : fEq (.str i) (.str j) M R = R (.bl (decide (i = j))) M := (rfl)
theorem e_eqB {i j : Bool} : fEq (.bl i) (.bl j) M R = R (.bl (decide (i = j))) M := (rfl)
theorem e_neI : fNe (.int i) (.int j) M R = R (.bl (!decide (i = j))) M := (rfl)
theorem e_neS {i j : Str} : fNe (.str i) (.str j) M R = R (.bl (!decide (i = j))) M := (rfl)
theorem e_neB {i j : Bool} : fNe (.bl i) (.bl j) M R = R (.bl (!decide (i = j))) M := (rfl)
theorem e_ixL : fIx (.lst xs) (.int i) M R = onSome (atI xs i) (fun d => R d M) := by dsimp only [fIx, asQ, onSome]; generalize atI xs i = o; cases o <;> rfl
theorem e_ixT : fIx (.tup xs) (.int i) M R = onSome (atI xs i) (fun d => R d M) := by dsimp only [fIx, asQ, onSome]; generalize atI xs i = o; cases o <;> rfl
theorem e_ixS {ns : List Int} : fIx (.scr ns) (.int i) M R = onSome (atI (ns.map D.int) i) (fun d => R d M) := by dsimp only [fIx, asQ, onSome]; generalize atI (ns.map D.int) i = o; cases o <;> rfl
theorem e_ixR : fIx (.ref a) (.int i) M R = onLst (M a) (fun xs => onSome (atI xs i) (fun d => R d M)) := by dsimp only [fIx, asQ, onLst, onSome]; generalize M a = o; cases o with
  | none => rfl
  | some o =>
    cases o with
    | lst xs => dsimp only; generalize atI xs i = q; cases q <;> rfl
    | _ => rfl
theorem e_lenL : cLen [.lst xs] M R = R (.int (xs.length : Int)) M := (rfl)
theorem e_lenT : cLen [.tup xs] M R = R (.int (xs.length : Int)) M := (rfl)
theorem e_lenSc {ns : List Int} : cLen [.scr ns] M R = R (.int ((ns.map D.int).length : Int)) M := (rfl)
def lenM (o : Option MO) (k : Int → Prop) : Prop := match o with
  | some (.lst xs) => k (xs.length : Int)
  | some (.dK xs) => k (xs.length : Int)
  | some (.dT xs) => k (xs.length : Int)
  | _ => False
theorem e_lenML {k : Int → Prop} : lenM (some (.lst xs)) k = k (xs.length : Int) := (rfl)
theorem e_lenR : cLen [.ref a] M R = lenM (M a) (fun n => R (.int n) M) := by dsimp only [cLen, asQ, lenM]; generalize M a = o; cases o with
  | none => rfl
  | some o => cases o <;> rfl
theorem e_lenS {z : Str} : cLen [.str z] M R = (z.length ≤ sizeLine ∧ R (.int (z.length : Int)) M) := (rfl)
theorem e_max : cMax [.int i, .int j] M R = R (.int (max i j)) M := (rfl)
theorem e_min : cMin [.int i, .int j] M R = R (.int (min i j)) M := (rfl)
theorem e_intI : cInt [.int i] M R = R (.int i) M := (rfl)
theorem e_intB {b : Bool} : cInt [.bl b] M R = R (.int (if b = true then 1 else 0)) M := (rfl)
theorem e_strI : cStr [.int i] M R = (i.natAbs.log2 < 1920 ∧ R (.str (toString i)) M) := (rfl)
theorem e_strS {z : Str} : cStr [.str z] M R = R (.str z) M := (rfl)
theorem e_listL : cList [.lst xs] M R = R (.lst xs) M := (rfl)
theorem e_listT : cList [.tup xs] M R = R (.lst xs) M := (rfl)
theorem e_listS {ns : List Int} : cList [.scr ns] M R = R (.lst (ns.map .int)) M := (rfl)
theorem e_listR : cList [.ref a] M R = onLst (M a) (fun xs => R (.lst xs) M) := by dsimp only [cList, asQ, onLst]; generalize M a = o; cases o with
  | none => rfl
  | some o => cases o <;> rfl
theorem e_listML : cListM [.lst xs] M R = (∀ p, M p = none → R (.ref p) (mup M p (.lst xs))) := (rfl)
theorem e_tupleL : cTuple [.lst xs] M R = R (.tup xs) M := (rfl)
theorem e_tupleT : cTuple [.tup xs] M R = R (.tup xs) M := (rfl)
theorem e_tupleR : cTuple [.ref a] M R = onLst (M a) (fun xs => R (.tup xs) M) := by dsimp only [cTuple, asQ, onLst]; generalize M a = o; cases o with
  | none => rfl
  | some o => cases o <;> rfl
theorem e_divmod : cDivmod [.int i, .int j] M R = ((0 < j ∧ Builtin.divisionGoesByPylong i j = false) ∧ R (.tup [.int (i / j), .int (i % j)]) M) := (rfl)
theorem e_abs : cAbs [.int i] M R = R (.int (if i < 0 then -i else i)) M := (rfl)
theorem e_all {bs : List Bool} (h : asL d M = some (bs.map D.bl)) (r : R (.bl (bs.all fun b => b)) M) : cAll [d] M R := ⟨bs, h, r⟩
theorem e_isi {c : String} : cIsi [x, .ty c] M R = (c ∈ ["bool", "int", "str", "list", "tuple", "dict"] ∧ onSome (tyN x M) (fun t => R (.bl (isT t c)) M)) := by dsimp only [cIsi, onSome]; generalize tyN x M = o; cases o <;> rfl
theorem e_ty0 : tyN .non M = some "NoneType" := (rfl)
theorem e_ty1 {b : Bool} : tyN (.bl b) M = some "bool" := (rfl)
theorem e_ty2 : tyN (.int i) M = some "int" := (rfl)
theorem e_ty3 {z : Str} : tyN (.str z) M = some "str" := (rfl)
theorem e_ty4 : tyN (.lst xs) M = some "list" := (rfl)
theorem e_ty5 : tyN (.tup xs) M = some "tuple" := (rfl)
theorem e_ty6 {ns : List Int} : tyN (.scr ns) M = some "list" := (rfl)
theorem e_asPl : asP (.lst xs) M = some xs := (rfl)

theorem e_asLl : asL (.lst xs) M = some xs := (rfl)

theorem e_asLs {ns : List Int} : asL (.scr ns) M = some (ns.map .int) := (rfl)
theorem e_asQl : asQ (.lst xs) M = some xs := (rfl)
theorem e_asQt : asQ (.tup xs) M = some xs := (rfl)
theorem e_asQs {ns : List Int} : asQ (.scr ns) M = some (ns.map .int) := (rfl)

theorem e_asT : asT (.tup xs) = some xs := (rfl)
def putM (o : Option MO) (i : Int) (v : D) (M : Mem) (a : Addr) (Q : Mem → Prop) : Prop := match o with
  | some (.lst xs) => onSome (ixN xs.length i) (fun k => Q (mup M a (.lst (xs.set k v))))
  | some (.dK kvs) => kvs.length < sizeLine ∧ Q (mup M a (.dK (vput kvs (.inl i) v)))
  | _ => False
theorem e_put {v : D} {Q : Mem → Prop} : dPut (.ref a) (.int i) v M Q = putM (M a) i v M a Q := by dsimp only [dPut, putM, onSome]; generalize M a = o; cases o with
  | none => rfl
  | some o =>
    cases o with
    | lst xs => dsimp only; generalize ixN xs.length i = q; cases q <;> rfl
    | _ => rfl
theorem e_putML {v : D} {Q : Mem → Prop} : putM (some (.lst xs)) i v M a Q = onSome (ixN xs.length i) (fun k => Q (mup M a (.lst (xs.set k v)))) := (rfl)
theorem e_gt0 {o : Option D} {g : GE} : gt (o :: g) 0 = o := (rfl)
theorem e_gt {o : Option D} {g : GE} : gt (o :: g) (n + 1) = gt g n := (rfl)
theorem e_st0 {o : Option D} {g : GE} : st (o :: g) 0 d = some d :: g := (rfl)
theorem e_st {o : Option D} {g : GE} : st (o :: g) (n + 1) d = o :: st g n d := (rfl)
theorem e_unst0 {o : Option D} {g : GE} : unst (o :: g) 0 = none :: g := (rfl)
theorem e_unst {o : Option D} {g : GE} : unst (o :: g) (n + 1) = o :: unst g n := (rfl)
theorem cAll_of {bs : List Bool} (h : R (.bl (bs.all fun b => b)) M) : cAll [.lst (bs.map D.bl)] M R := ⟨bs, rfl, h⟩
theorem e_nN0 : isNon .non = true := (rfl)
theorem e_nN1 : isNon (.int i) = false := (rfl)
theorem e_nN2 {b : Bool} : isNon (.bl b) = false := (rfl)
theorem e_nN3 {z : Str} : isNon (.str z) = false := (rfl)
theorem e_nN4 : isNon (.lst xs) = false := (rfl)
theorem e_nN5 : isNon (.tup xs) = false := (rfl)
end

/-- the rest of a block as a variable: the kernel does not look into it -/
theorem gen_u {t u : WS} {E : EndsD} {Γ : GE} {M : Mem} (h : ∀ v, v = u → wSeq t v E Γ M) : wSeq t u E Γ M := h u rfl
/-! ### loops -/
theorem while_s {c : WT} {b : WS} {R : EndsD} {Γ : GE} {M : Mem} {α : Type} (g : α → GE) (mm : α → Mem) (P : α → Prop) (μ : α → Nat) (a0 : α) (h0 : Γ = g a0) (h0' : M = mm a0) (hP : P a0)
    (hs : ∀ a, P a → c (g a) (mm a) (fun k M1 => if k = true then b (loopE R fun Γ' M' => ∃ a', P a' ∧ μ a' < μ a ∧ Γ' = g a' ∧ M' = mm a') (g a) M1 else R.nx (g a) M1) (fun c d M1 => R.ex c d (g a) M1)) : wWhile c b R Γ M := while_st g mm P μ a0 (fun _ => trivial) h0 h0' hP hs
/-- the inside of a for -/
def forB (g : WG) (b : WS) (R : EndsD) (Γ : GE) (xs : List D) (C : Mem → Prop) (M1 : Mem) : Prop := ∃ I : List D → GE → Mem → Prop, I [] Γ M1 ∧ (∀ pre x post Γ M, xs = pre ++ x :: post → I pre Γ M → C M ∧
    g x Γ M (fun Γ1 M2 => b { R with nx := Wk (I (pre ++ [x])), ct := Wk (I (pre ++ [x])), bk := R.nx } Γ1 M2) (fun c d M2 => R.ex c d Γ M2)) ∧ ∀ Γ M, I xs Γ M → C M ∧ R.nx Γ M
theorem e_for {wi : WI} {g : WG} {b : WS} {R : EndsD} {Γ : GE} {M : Mem} : wFor wi g b R Γ M = wi Γ M (forB g b R Γ) (fun c d M1 => R.ex c d Γ M1) := (rfl)
def seqP (P : List D → (Mem → Prop) → Mem → Prop) (d : D) (M1 : Mem) : Prop := match d with
  | .ref a => (match M1 a with
    | some (.lst ds) => P ds (fun M' => M' a = some (.lst ds)) M1
    | _ => False)
  | d => (match asL d M1 with
    | some ds => P ds (fun _ => True) M1
    | none => False)
section
variable {Γ : GE} {M : Mem} {RX : DX} {P : List D → (Mem → Prop) → Mem → Prop} {xs : List D} {a : Addr} {i j c : Int} {z : Prop} {we wa wb wc : WE}
theorem e_iseq : wiSeq we Γ M P RX = we Γ M (seqP P) RX := (rfl)
theorem e_seqL : seqP P (.lst xs) M = P xs (fun _ => True) M := (rfl)
theorem e_seqS {ns : List Int} : seqP P (.scr ns) M = P (ns.map .int) (fun _ => True) M := (rfl)
theorem e_seqR : seqP P (.ref a) M = onLst (M a) (fun xs => P xs (fun M' => M' a = some (.lst xs)) M) := (rfl)
def tupP (P : List D → (Mem → Prop) → Mem → Prop) (d : D) (M1 : Mem) : Prop := match asT d with
  | some ds => P ds (fun _ => True) M1
  | none => False
theorem e_itup : wiTup we Γ M P RX = we Γ M (tupP P) RX := (rfl)
theorem e_tupP : tupP P (.tup xs) M = P xs (fun _ => True) M := (rfl)
def r1P (z : Prop) (P : List D → (Mem → Prop) → Mem → Prop) (d : D) (M1 : Mem) : Prop := match d with
  | .int n => inLine n ∧ (z → n ≤ 16777216) ∧ P (upto 0 1 n.toNat) (fun _ => True) M1
  | _ => False
theorem e_ir1 : wiR1 z we Γ M P RX = we Γ M (r1P z P) RX := (rfl)
theorem e_r1P : r1P z P (.int i) M = (inLine i ∧ (z → i ≤ 16777216) ∧ P (upto 0 1 i.toNat) (fun _ => True) M) := (rfl)
def r2P (z : Prop) (P : List D → (Mem → Prop) → Mem → Prop) (d d2 : D) (M2 : Mem) : Prop := match d, d2 with
  | .int i, .int j => inLine i ∧ inLine j ∧ (z → j - i ≤ 16777216) ∧ P (upto i 1 (j - i).toNat) (fun _ => True) M2
  | _, _ => False
theorem e_ir2 : wiR2 z wa wb Γ M P RX = wa Γ M (fun d M1 => wb Γ M1 (r2P z P d) RX) RX := (rfl)
theorem e_r2P : r2P z P (.int i) (.int j) M = (inLine i ∧ inLine j ∧ (z → j - i ≤ 16777216) ∧ P (upto i 1 (j - i).toNat) (fun _ => True) M) := (rfl)
def r3P (z : Prop) (P : List D → (Mem → Prop) → Mem → Prop) (d d2 d3 : D) (M2 : Mem) : Prop := match d, d2, d3 with
  | .int i, .int j, .int c => ∃ n, RgC i j c n ∧ (z → n ≤ 16777216) ∧ P (upto i c n) (fun _ => True) M2
  | _, _, _ => False
theorem e_ir3 : wiR3 z wa wb wc Γ M P RX = wa Γ M (fun d M1 => wb Γ M1 (fun d2 M2 => wc Γ M2 (r3P z P d d2) RX) RX) RX := (rfl)
theorem e_r3P : r3P z P (.int i) (.int j) (.int c) M = (∃ n, RgC i j c n ∧ (z → n ≤ 16777216) ∧ P (upto i c n) (fun _ => True) M) := (rfl)
theorem e_lc {k : Nat} {wi : WI} {tt : WT} {R : DK} : wLc k wi tt we Γ M R RX = wi Γ M (fun xs C M1 => ∀ p, M1 p = none → lcTurns Γ k tt we xs C p M1 fun out M => R (.lst out) (mdel M p)) RX := (rfl)
end
/-- a for by states of one's own: g, m what they say, P what holds after a prefix -/
theorem for_st {α : Type} {gg : WG} {b : WS} {R : EndsD} {Γ : GE} {xs : List D} {C : Mem → Prop} {M : Mem} (g : α → GE) (m : α → Mem) (P : List D → α → Prop) (a0 : α) (hg : Γ = g a0) (hm : M = m a0) (h0 : P [] a0)
    (step : ∀ pre x post a, xs = pre ++ x :: post → P pre a → C (m a) ∧ gg x (g a) (m a) (fun Γ1 M2 => b (loopE R fun Γ' M' => ∃ a', P (pre ++ [x]) a' ∧ Γ' = g a' ∧ M' = m a') Γ1 M2) (fun c d M2 => R.ex c d (g a) M2))
    (fin : ∀ a, P xs a → C (m a) ∧ R.nx (g a) (m a)) : forB gg b R Γ xs C M := by
  refine ⟨fun pre Γ M => ∃ a, P pre a ∧ Γ = g a ∧ M = m a, ⟨a0, h0, hg, hm⟩, ?_, ?_⟩
  · rintro pre x post Γ M e ⟨a, pa, rfl, rfl⟩
    exact step pre x post a e pa
  · rintro Γ M ⟨a, pa, rfl, rfl⟩
    exact fin a pa
/-- the same by the place -/
theorem for_ix {α : Type} {gg : WG} {b : WS} {R : EndsD} {Γ : GE} {xs : List D} {C : Mem → Prop} {M : Mem} (g : α → GE) (m : α → Mem) (P : Nat → α → Prop) (a0 : α) (hg : Γ = g a0) (hm : M = m a0) (h0 : P 0 a0)
    (step : ∀ k x a, xs[k]? = some x → P k a → C (m a) ∧ gg x (g a) (m a) (fun Γ1 M2 => b (loopE R fun Γ' M' => ∃ a', P (k + 1) a' ∧ Γ' = g a' ∧ M' = m a') Γ1 M2) (fun c d M2 => R.ex c d (g a) M2))
    (fin : ∀ a, P xs.length a → C (m a) ∧ R.nx (g a) (m a)) : forB gg b R Γ xs C M :=
  for_st g m (fun pre a => P pre.length a) a0 hg hm h0 (fun pre x post a e pa => by
    have q := step pre.length x a (by rw [e]; simp) pa
    have l : (pre ++ [x]).length = pre.length + 1 := by simp
    rw [l]; exact q) fin
/-- over range -/
theorem for_up {α : Type} {gg : WG} {b : WS} {R : EndsD} {Γ : GE} {lo c : Int} {n : Nat} {C : Mem → Prop} {M : Mem} (g : α → GE) (m : α → Mem) (P : Nat → α → Prop) (a0 : α) (hg : Γ = g a0) (hm : M = m a0) (h0 : P 0 a0)
    (step : ∀ k a, k < n → P k a → C (m a) ∧ gg (.int (lo + (k : Int) * c)) (g a) (m a) (fun Γ1 M2 => b (loopE R fun Γ' M' => ∃ a', P (k + 1) a' ∧ Γ' = g a' ∧ M' = m a') Γ1 M2) (fun c d M2 => R.ex c d (g a) M2))
    (fin : ∀ a, P n a → C (m a) ∧ R.nx (g a) (m a)) : forB gg b R Γ (upto lo c n) C M :=
  for_ix g m P a0 hg hm h0 (fun k x a e pa => by
    have hk : k < n := by have := (List.getElem?_eq_some_iff.mp e).1; rwa [upto_len] at this
    rw [upto_get hk] at e
    cases e
    exact step k a hk pa) (fun a pa => fin a (by rwa [upto_len] at pa))
theorem wk_of {I : GE → Mem → Prop} {Γ Γ' : GE} {M M' : Mem} (lg : LeG Γ' Γ) (lm : LeM M' M) (h : I Γ' M') : Wk I Γ M := ⟨Γ', M', lg, lm, h⟩
/-- a comprehension whose item leaves the store as it is -/
theorem lc_map {Γ : GE} {j : Nat} {we : WE} {xs : List D} {C : Mem → Prop} {M1 : Mem} {R : DK} (f : D → D) (hC : ∀ p out, M1 p = none → C (mup M1 p (.lst out)))
    (hw : ∀ x, x ∈ xs → ∀ (R' : DK) (p : Addr) (out : List D), M1 p = none → R' (f x) (mup M1 p (.lst out)) → we (st Γ j x) (mup M1 p (.lst out)) R' FX) (hR : R (.lst (xs.map f)) M1) :
    ∀ p, M1 p = none → lcTurns Γ j wYes we xs C p M1 fun out M => R (.lst out) (mdel M p) := fun p hp => by
  refine ⟨fun pre out M => out = pre.map f ∧ M = mup M1 p (.lst out), ⟨rfl, rfl⟩, ?_, ?_⟩
  · rintro pre x post out M e ⟨rfl, rfl⟩
    refine ⟨hC p _ hp, ?_⟩
    rw [e_yes, if_pos rfl]
    refine hw x (by rw [e]; simp) _ p _ hp ⟨mup_same, by simp, ?_⟩
    rw [mup_mup]
  · rintro out M ⟨rfl, rfl⟩
    refine ⟨hC p _ hp, mup_same, ?_⟩
    show R (.lst (xs.map f)) (mdel (mup M1 p _) p)
    rw [mdel_mup hp]; exact hR
theorem lc_mapZ {Γ : GE} {j : Nat} {we : WE} {xs : List D} {C : Mem → Prop} {M1 : Mem} {p : Addr} {Z : List D → Mem → Prop} (f : D → D) (hC : ∀ out, C (mup M1 p (.lst out)))
    (hw : ∀ x, x ∈ xs → ∀ (R' : DK) (out : List D), R' (f x) (mup M1 p (.lst out)) → we (st Γ j x) (mup M1 p (.lst out)) R' FX) (hR : Z (xs.map f) (mup M1 p (.lst (xs.map f)))) : lcTurns Γ j wYes we xs C p M1 Z := by
  refine ⟨fun pre out M => out = pre.map f ∧ M = mup M1 p (.lst out), ⟨rfl, rfl⟩, ?_, ?_⟩
  · rintro pre x post out M e ⟨rfl, rfl⟩
    refine ⟨hC _, ?_⟩
    rw [e_yes, if_pos rfl]
    refine hw x (by rw [e]; simp) _ _ ⟨mup_same, by simp, ?_⟩
    rw [mup_mup]
  · rintro out M ⟨rfl, rfl⟩
    exact ⟨hC _, mup_same, hR⟩
/-- the end of a def -/
theorem up_of {P : Mem → Prop} {M M' : Mem} (l : LeM M' M) (h : P M') : Up P M := ⟨M', l, h⟩
theorem LeM.mupN {M : Mem} {a : Addr} {o : MO} (h : M a = none) : LeM M (mup M a o) := LeM.up h
theorem LeM.mup2 {M : Mem} {a : Addr} {o o' : MO} : LeM (mup M a o') (mup (mup M a o) a o') := by rw [mup_mup]; exact LeM.refl _
theorem LeM.del {M : Mem} {a : Addr} : LeM (mdel M a) M := fun b o h => by
  unfold mdel at h
  by_cases e : b = a
  · rw [if_pos e] at h; cases h
  · rw [if_neg e] at h; exact h
theorem ixN_nat {n k : Nat} (h : k < n) : ixN n (k : Int) = some k := by
  unfold ixN
  rw [if_pos (by omega), if_pos (by omega)]; simp
theorem atI_lt {xs : List D} {k : Nat} {d : D} (h : xs[k]? = some d) : atI xs (k : Int) = some d := atI_nat h
theorem cut_to {α : Type} (xs : List α) (k : Nat) : cutD xs none (some (k : Int)) = xs.take k := by
  unfold cutD
  rw [HT.sIx_none, HT.sIx_nat]
  simp only [List.drop_zero, Nat.sub_zero]
  by_cases h : k ≤ xs.length
  · rw [Nat.min_eq_left h]
  · rw [Nat.min_eq_right (by omega), List.take_length, List.take_of_length_le (by omega)]
theorem cut_from {α : Type} (xs : List α) (k : Nat) : cutD xs (some (k : Int)) none = xs.drop k := by
  unfold cutD
  rw [HT.sIx_none, HT.sIx_nat]
  by_cases h : k ≤ xs.length
  · rw [Nat.min_eq_left h, List.take_of_length_le (by rw [List.length_drop]; omega)]
  · rw [Nat.min_eq_right (by omega), List.drop_length, List.drop_of_length_le (by omega), List.take_nil]
end DL

set_option Elab.async false
set_option backward.match.sparseCases false
set_option linter.all false
set_option maxRecDepth 100000
set_option maxHeartbeats 4000000
/-! DL12: the law's own end, with what is told of the loose constants. -/
namespace DL
open PySem PySem.Spec PyProof.Rows L2
theorem walkX {l : PySem.W.OpenLaw} {n k : Nat} {q : Program} {loose : List Str} {XP : (Str → Option Value) → Heap → Prop} {YP : World → Heap → Prop} {d : DefRec} {K : Params → PySem.W.Frag} {CX : World → CXT} {sp : World → Sp} {x : Str} (hn : l.most = some n) (hn2 : n ≤ sizeLine) (hdf : d.params.defaults = []) (hr : Room k callerA)
    (hY : ∀ (w : World) (h : Heap), YP w h → (K w.params).In h) (F : ∀ (w : World) (mg : Str → Option Value) (fa : Addr) (h : Heap), XP mg h → (K w.params).In h → h.Ns mainGlobals mg → mg d.name = some (.ref fa) →
      ∃ fd : FuncData, (∀ (s : Shared) (u : Value), BindsTo s fd ⟨[u], []⟩ [(x, u)]) ∧ ∀ base : Heap, (K w.params).In base → base.Ns mainGlobals mg → FnOk l.prog w (K w.params) mg base (CX w) k fa fd [x] (sp w))
    (hsp : ∀ (w : World) (H : Hp) (a : Addr) (ns : List Int), ns.length ≤ n → Only H → SqL (K w.params) H a (ns.map V.int) → sp w [.ref a] H (fun v _ => v = .bl true) fun _ _ _ => False)
    (hCX : ∀ (w : World) (H : Hp) (s : Shared) (e : Value) (s' : Shared), CX w [] H s (fun _ _ _ => False) e s' → False) : PySem.W.WalkO q loose XP YP l.row.toRowW d [] (fun f vs => PySem.call f vs) :=
  Att.attach_callB hn hdf fun w s₀ s₁ mg mb fa o pm cd doc a vs ns G Y ho hd hcd hmg hobj hints hlen _ hg => by
    have KX := hY w _ Y
    obtain ⟨fd, hb, hF⟩ := F w mg fa _ G.X KX G.T.g hmg
    exact law_call KX G.T.g G.T.b G.T.builtins G.T.nolimit hg hobj hints (Nat.le_trans hlen hn2) hr hF hb (fun H hO hS => hsp w H a ns hlen hO hS) fun H e s' => hCX w H s₁ e s'
/-- a def that no one calls -/
theorem FnOk.none {P : Program} {w : World} {K : PySem.W.Frag} {mg : Str → Option Value} {base : Heap} {k n : Nat} {f : Addr} {fd : FuncData} {ps : List Str} (hn : n = ps.length) : FnOk P w K mg base (L2.CX P w) k f fd ps (spD K n fun _ _ _ _ => False) :=
  ⟨fun vs H Q E h => by rw [h.1, hn], fun A outer s H args us vs Q E hr e0 hb r ⟨_, F, ds, M, R, RX, _, _, z, _⟩ => z.elim⟩
end DL

set_option Elab.async false
set_option backward.match.sparseCases false
set_option linter.all false
set_option maxRecDepth 100000
set_option maxHeartbeats 4000000
/-! DL13: what the top has made, in the shape that the head's facts are found in. -/
namespace DL
open PySem PySem.Spec PyProof.Rows L2
/-- the def called x as the top has made it -/
structure FnF (K : PySem.W.Frag) (mg : Str → Option Value) (x : Str) (st : Stmt) (ps : List Str) : Prop where
  ex : ∃ (f : Addr) (fd : FuncData), Fun K x x st f fd ∧ mg x = some (.ref f) ∧ Binds K fd ps []
section
variable {P : Program} {w : World} {K : PySem.W.Frag} {mg : Str → Option Value} {h : Heap} {C B f g : Addr} {od an : Option Addr} {sl : Array (Option Value)} {oc kV dc pm cd ct : Value} {x q m : Str} {st : Stmt} {ps : List Str}
theorem fnF (X : K.In h) (G : h.Ns mainGlobals mg) (hb : ∀ fd, Fun K x x st f fd → Binds K fd ps []) (a : PySem.W.nsIn K mainGlobals x = some (some (.ref f))) (l : K.lookup f = some ⟨oc, od, .func (PySem.W.fnOf x x (defArgs st) (defBody st) (defScope st) .none kV dc pm an cd ct), sl⟩) (c : PySem.W.codeIn K cd x = true) (kp : PySem.W.keepIn K (.ref f) = true) : FnF K mg x st ps :=
  ⟨f, _, fun_mk l c kp, PySem.W.mg_of X G a, hb _ (fun_mk l c kp)⟩
/-- a method's function -/
structure MnF (K : PySem.W.Frag) (C : Addr) (m q : Str) (st : Stmt) (ps : List Str) : Prop where
  ex : ∃ (f : Addr) (fd : FuncData), Fun K m q st f fd ∧ Meth K C m f ∧ Binds K fd ps []
theorem mnF (hb : ∀ fd, Fun K m q st f fd → Binds K fd ps []) (a : PySem.W.findIn K (.ref C) m = some (some (.ref f))) (i : PySem.W.isFn K (.ref f) = true) (l : K.lookup f = some ⟨oc, od, .func (PySem.W.fnOf m q (defArgs st) (defBody st) (defScope st) .none kV dc pm an cd ct), sl⟩) (c : PySem.W.codeIn K cd q = true) (kp : PySem.W.keepIn K (.ref f) = true) : MnF K C m q st ps :=
  ⟨f, _, fun_mk l c kp, ⟨a, i, kp⟩, hb _ (fun_mk l c kp)⟩
theorem clsF (pg : PySem.W.plainGet K C Str.empty = true) (hd : PySem.W.hasDictIn K C = true) (po : PySem.W.plainOver K C = true) (sa : PySem.W.findIn K (.ref C) "__setattr__" = some (some (.builtin "object.__setattr__"))) : Cls K C := ⟨pg, hd, po, sa⟩
theorem errF {nm qq : Str} {N : Addr} {bs : List Value} {sn : List Str} {sub : List Value} {ab : Bool} {col : Option Bool} {dd : Option Addr} {m0 m1 m2 m3 m5 : Option Value} {bm : List Value}
    (xL : K.lookup C = some (excClassObj nm qq C N bs bm true sn sub ab col dd m0 m1 m2 m3 m5 "ValueError.__new__")) (rf : PySem.HandSPX.refsVE bm = true)
    (sa : PySem.W.findIn K (.ref C) "__setattr__" = some (some (.builtin "object.__setattr__"))) (exC : PySem.W.subIn K (.ref C) (.type "BaseException") = some true) (tyC : PySem.W.typeIn K (.ref C) = some (.type "type")) (kC : PySem.W.keepIn K (.ref C) = true)
    (mro : PySem.W.mroIn K C (.ref B) = some true) (sup : PySem.W.ks_superIn K C B "__init__" = some (some (.builtin "ValueError.__init__"))) (ve : PySem.W.subIn K (.ref C) (.type "ValueError") = some true) (noAt : PySem.W.findIn K (.ref C) "at" = some none) : ErrC K B C :=
  ⟨⟨⟨_, _, _, _, _, _, _, _, _, _, _, _, _, _, _, xL, rf⟩, sa, exC, tyC, kC⟩, mro, sup, ve, noAt⟩
theorem xfF (ga : PySem.W.findIn K (.ref C) "__getattribute__" = some (some (.builtin "BaseException.__getattribute__"))) (gg : PySem.W.findIn K (.ref C) "__getattr__" = some none) (ex : PySem.W.subIn K (.ref C) (.type "BaseException") = some true) (hd : PySem.W.hasDictIn K C = true) (na : PySem.W.findIn K (.ref C) "at" = some none) :
    XfC K C ∧ PySem.W.findIn K (.ref C) "at" = some none := ⟨⟨ga, gg, ex, hd⟩, na⟩
theorem exmF (h1 : PySem.W.subIn K (.ref C) (.type "BaseException") = some true) (h2 : PySem.W.isClsIn K C = true) (h3 : PySem.W.typeIn K (.ref C) = some (.type "type")) (h4 : PySem.W.subIn K (.ref B) (.ref C) = some true) : PySem.W.exmOne K (.ref B) (.ref C) = some true := by
  have e1 : (PySem.W.subIn K (.ref C) (.type "BaseException") == some true) = true := by rw [h1] <;> rfl
  have e2 : ((PySem.W.clsIn K C).isSome && PySem.W.typeIn K (.ref C) == some (.type "type")) = true := by
    have h2' : (PySem.W.clsIn K C).isSome = true := h2
    rw [h2', h3] <;> rfl
  show (if (PySem.W.subIn K (.ref C) (.type "BaseException") == some true) = true then (if ((PySem.W.clsIn K C).isSome && PySem.W.typeIn K (.ref C) == some (.type "type")) = true then PySem.W.subIn K (.ref B) (.ref C) else none) else none) = some true
  rw [if_pos e1, if_pos e2]
  exact h4
/-- the law's own end -/
theorem law_end {n k : Nat} {fs : FS} {fa : Addr} {base : Heap} (F : FnAt P w K mg base k 1 x fs) (hm : mg x = some (.ref fa)) : ∃ (fd : FuncData) (ps : List Str), FnOk P w K mg base (L2.CX P w) k fa fd ps (spD K 1 fs) := by
  obtain ⟨f, fd, ps, a, b, c, d⟩ := F.ex
  cases hm.symm.trans a
  exact ⟨fd, ps, d⟩
theorem law_sp {fs : FS} {n : Nat} (hl : n ≤ sizeLine) (h : ∀ ns : List Int, ns.length ≤ n → fs [.scr ns] (fun _ => none) (fun d _ => d = .bl true) fun _ _ _ => False) (H : Hp) (a : Addr) (ns : List Int) (hn : ns.length ≤ n) (hS : SqL K H a (ns.map V.int)) :
    spD K 1 fs [.ref a] H (fun v _ => v = .bl true) fun _ _ _ => False := by
  refine ⟨rfl, H, [.scr ns], fun _ => none, fun d _ => d = .bl true, fun _ _ _ => False, ⟨Same.refl H, fun a mo e => by cases e⟩, Reps.one ⟨a, rfl, hS, Nat.le_trans hn hl⟩, h ns hn, ?_, ?_⟩
  · intro d M' F' H' v e _ _ r
    subst e
    exact r
  · intro c d M' F' H' v dx e
    exact e.elim
theorem noCX {H : Hp} {s : Shared} {e : Value} {s' : Shared} (h : L2.CX P w [] H s (fun _ _ _ => False) e s') : False := by
  obtain ⟨_, _, _, _, _, _, _, _, _, _, _, _, z⟩ := h
  exact z
end
end DL
namespace DL
open PySem PySem.Spec PyProof.Rows L2
theorem all_nil {α : Type} {p : α → Prop} : ∀ x ∈ ([] : List α), p x := fun x h => by cases h
theorem all_cons {α : Type} {p : α → Prop} {a : α} {l : List α} (h : p a) (t : ∀ x ∈ l, p x) : ∀ x ∈ a :: l, p x := fun x m => by
  cases m with
  | head => exact h
  | tail _ m => exact t x m
/-- the errors' common __init__ -/
structure EnF (P : Program) (K : PySem.W.Frag) (mg : Str → Option Value) (st : Stmt) (f B : Addr) : Prop where
  ex : ∃ fd : FuncData, ErrI P K mg st f fd B ∧ PySem.W.typeIn K (.ref f) = some (.type "function") ∧ Binds K fd ["self", "at"] []
theorem enF {P : Program} {K : PySem.W.Frag} {mg : Str → Option Value} {h : Heap} {st : Stmt} {f B cda cc : Addr} {q : Str} {oc kV doc pm ct ccl cl : Value} {od an cdd cld : Option Addr} {osl ccs csl : Array (Option Value)} {vs : Array Value} {file : Str} {tf : Tok} {cdB : ClassData} (X : K.In h) (G : h.Ns mainGlobals mg)
    (hb : ∀ (q : Str) (kV doc pm : Value) (an : Option Addr) (cdv ct : Value) (cc : Addr) (us : List Value), us.length = (["self", "at"] : List Str).length → bindArgs (PySem.W.ksFn "__init__" q (defArgs st) (defBody st) (defScope st) .none kV doc pm an cdv ct cc) ⟨us, []⟩ = pure ((["self", "at"] : List Str).zip us)) (top : (P.main.scope.names.lookup ("super" : Str)).isSome = false)
    (l : K.lookup f = some ⟨oc, od, .func (PySem.W.ksFn "__init__" q (defArgs st) (defBody st) (defScope st) .none kV doc pm an (.ref cda) ct cc), osl⟩) (c : PySem.W.codeIn K (.ref cda) q = true) (lc : K.lookup cda = some ⟨ccl, cdd, .fields vs, ccs⟩) (hv : vs[2]? = some (.str file tf)) (hf : ((P.main.file : Str) == file) = true)
    (lcc : K.lookup cc = some ⟨cl, cld, .cell (some (.ref B)), csl⟩) (hB : PySem.W.clsIn K B = some cdB) (sup : PySem.W.nsIn K mainGlobals "super" = some none) (any : PySem.W.nsIn K cStatics "thirdparty.any" = some none) (ty : PySem.W.typeIn K (.ref f) = some (.type "function")) : EnF P K mg st f B :=
  ⟨_, ⟨⟨q, oc, od, kV, doc, pm, an, cda, ct, cc, osl, ccl, cdd, vs, ccs, file, tf, cl, cld, csl, cdB, rfl, l, c, lc, hv, hf, lcc, hB⟩, PySem.W.mg_none_of X G sup, top, any⟩, ty, .all (hb q kV doc pm an _ ct cc)⟩
/-- an error class, by its facts -/
theorem er_of {P : Program} {w : World} {K : PySem.W.Frag} {mg : Str → Option Value} {base : Heap} {st : Stmt} {x : Str} {C B f : Addr} {k : Nat} (hm : mg x = some (.ref C)) (EC : ErrC K B C) (E : EnF P K mg st f B) (T : ErrT st) (i : PySem.W.findIn K (.ref C) "__init__" = some (some (.ref f))) : ErAt P w K mg base (k + 1) x C := by
  obtain ⟨fd, G, t, hb⟩ := E.ex
  exact ⟨f, B, fd, hm, EC, i, t, hb, err_init G T⟩
theorem gint_loose {p : Program} {lv : List (Str × PySem.W.WData)} {mg : Str → Option Value} {h : Heap} {x : Str} {n : Int} (XP : PySem.W.XL p lv mg h) (m : (x, PySem.W.WData.int n) ∈ lv) : GInt mg x n := by
  obtain ⟨v, a, r⟩ := XP.2.val _ m
  cases r with
  | int i t => exact ⟨t, a⟩
theorem gint {K : PySem.W.Frag} {mg : Str → Option Value} {h : Heap} {x : Str} {n : Int} {t : Tok} (KX : K.In h) (G : h.Ns mainGlobals mg) (e : PySem.W.nsIn K mainGlobals x = some (some (.int n t))) : GInt mg x n := ⟨_, PySem.W.mg_of KX G e⟩
end DL

set_option Elab.async false
set_option backward.match.sparseCases false
set_option linter.all false
set_option maxRecDepth 100000
set_option maxHeartbeats 4000000
/-! DX4: a list comprehension that an exception may leave. -/
namespace DL
open PySem PySem.Spec PyProof.Rows L2

section
variable {M : Model} {A : Around} {E : Value → Shared → Prop} {s : Shared} {env : Env}
/-- what is to hold behind the block, whose locals stand at C, in the frame fr -/
def Cpo (M : Model) (A : Around) (E : Value → Shared → Prop) (use : Option (Value → Sem Unit)) (Q : Value → Shared → Prop) (acc : Value) (C : Addr) (fr : Option Addr) (r : Result) (s1 : Shared) : Prop :=
  match r, use with
  | .ok _, none => ∃ m, s1.heap.Ns C m ∧ ∀ h1, Heap.SameBut C s1.heap h1 → Q acc { s1 with heap := h1 }
  | .ok _, some u => wpAny M A (u acc) (fun _ s2 => ∃ m, s2.heap.Ns C m ∧ ∀ h2, Heap.SameBut C s2.heap h2 → Q .none { s2 with heap := h2 }) E s1
  | .error x, _ => ∃ m, s1.heap.Ns C m ∧ ∀ h1 m1, h1.Ns C m1 → Heap.SameBut C s1.heap h1 → ∀ ce : Env, ce.frame = fr → wpAny M A (passOn "comprehension.variables-let-go" x ce : Sem Value) (fun _ _ => False) E { s1 with heap := h1 }
theorem comp_run {e : Expr} {scope : Scope} {pos : Pos} {newAcc first : Sem Value} {g : Comprehension} {gs : List Comprehension} {cl : List (Str × Addr)} {use : Option (Value → Sem Unit)} {Q : Value → Shared → Prop}
    (h1 : clausesOf e = g :: gs) (h2 : ∀ x, foldedSetIterable g.iter env x = pure x) (h3 : closureFor scope env = pure cl) (hk : scope.kind = .function) (hn : ∀ x ∈ scope.names, x.2 = .local → scope.names.lookup x.1 = some .local)
    (h : wpAny M A first (fun x t1 => wpAny M A (pyIter x) (fun it t2 => wpAny M A newAcc (fun acc t3 => wpAny M A (newFunctionEnv scope env.globals cl [] env.qual none .none (some env)) (fun ce t4 =>
        codeAny M A (.compStart e 0 it acc { ce with scope := relabel scope env }) (Cpo M A E use Q acc ce.locals ce.frame) t4) E t3) E t2) E t1) E s) : wpAny M A (comprehension e scope env pos newAcc false first use) Q E s := by
  unfold comprehension
  rw [h3, h1]
  refine wpAny_bind (wpAny_mono h (fun x t1 k1 => ?_) fun _ _ z => z)
  refine wpAny_bind (wpAny_standAt (wpAny_bind (wpAny_of_eq (h2 x) (wpAny_bind (wpAny_holding (wpAny_mono k1 (fun it t2 k2 => ?_) fun _ _ z => z))))))
  refine wpAny_standIf (wpAny_bind (wpAny_mono k2 (fun acc t3 k3 => wpAny_bind (wpAny_pure (wpAny_bind (wpAny_mono k3 (fun ce t4 k4 => ?_) fun _ _ z => z)))) fun _ _ z => z))
  dsimp only
  have hv : ∀ x ∈ (scope.names.filter fun y => (y.2 == .local || y.2 == .cell) && y.1 != (".0" : Str)).reverse, x.2 = .local → Env.kindOf { ce with scope := relabel scope env } x.1 = some .local :=
    fun x hx hl => lookup_relabel_local (hn x (List.mem_filter.mp (List.mem_reverse.mp hx)).1 hl)
  refine wpAny_holding (wpAny_bind (wpAny_attempt (wpAny_holding (wpAny_run (codeAny_mono k4 fun r t5 k5 => ?_)))))
  cases r with
  | error x =>
    have k6 : ∃ m, t5.heap.Ns ce.locals m ∧ ∀ h1 m1, h1.Ns ce.locals m1 → Heap.SameBut ce.locals t5.heap h1 → ∀ c1 : Env, c1.frame = ce.frame → wpAny M A (passOn "comprehension.variables-let-go" x c1 : Sem Value) (fun _ _ => False) E { t5 with heap := h1 } := by cases use <;> exact k5
    obtain ⟨m, n5, k6⟩ := k6
    exact wpAny_bind (wpAny_holding (wpAny_comp_letGo (cenv := { ce with scope := relabel scope env }) hk _ t5 m hv n5 fun h' m' n' hs' => wpAny_mono (k6 h' m' n' hs' _ rfl) (fun _ _ f => f.elim) fun _ _ y => y))
  | ok f =>
    cases use with
    | none =>
      obtain ⟨m, n5, k5⟩ := k5
      exact wpAny_bind (wpAny_holding (wpAny_comp_letGo (cenv := { ce with scope := relabel scope env }) hk _ t5 m hv n5 fun h' m' _ hs' => wpAny_pure (k5 h' hs')))
    | some u =>
      refine wpAny_bind (wpAny_rule (wpAny_bind (wpAny_holding (wpAny_mono k5 (fun _ t6 k6 => ?_) fun _ _ z => z))))
      obtain ⟨m, n6, k6⟩ := k6
      refine wpAny_bind (wpAny_comp_letGo (cenv := { ce with scope := relabel scope env }) hk _ t6 m (fun x hx hl => ?_) n6 fun h' m' _ hs' => wpAny_pure (k6 h' hs'))
      rcases List.mem_append.mp hx with z | z
      · exact hv x (List.mem_of_mem_drop z) hl
      · exact hv x (List.mem_of_mem_take z) hl
/-- the frame notes what another place flew from -/
theorem looks_other {base : Heap} {outer : List Env} {e L : Addr} {Z : Obj → Prop} {fl : Value} {Q : Unit → Shared → Prop} (hZ : HandSPX.Steady Z) (hfr : A.frames = some (env :: outer)) (hf : env.frame = some L) (hne : (fl == rawInt L) = false)
    (hkb : base.StaysIn s.heap) (hen : base.get? e = none) (hl : s.heap.FunFrames base (env :: outer)) (ht : HandSPX.TracedZ s.heap base e Z fl)
    (hQ : ∀ h1, HandSPX.HeldZ base (env :: outer) e Z L h1 → s.heap.UpToSlots h1 → Q () { s with heap := h1 }) : wpAny M A (noteFrame (.ref e) env) Q E s := by
  obtain ⟨oe, vs, T, oT, ts, he, hz, hd, g1, hnT, hTe, hT, hdT, g3⟩ := ht
  unfold noteFrame
  simp only [hf]
  refine wpAny_bind (wpAny_field he hd g1 ?_)
  rw [if_pos (by simp : (Value.ref T != Value.none) = true)]
  refine wpAny_bind (wpAny_field hT hdT g3 ?_)
  rw [if_neg (by rw [hne]; decide)]
  refine wpAny_bind (wpAny_setField hT hdT (Array.getElem?_eq_some_iff.mp g3).1 ?_)
  have oth : ∀ b, b ≠ T → (s.heap.update T (Obj.mapFields (·.setIfInBounds 3 Value.none))).get? b = s.heap.get? b := fun b hb => Heap.get?_update_other _ _ (Ne.symm hb)
  have nrec : ∀ b o, s.heap.get? b = some o → (∀ ws, o.data ≠ .fields ws) → b ≠ T := fun b o hb hnf q => by
    rw [q, hT] at hb; cases hb; exact hnf ts hdT
  refine HandSPX.wpAny_entryZ hZ hfr (hl.of_keeps fun b o hb hnf => ⟨o, (oth b (nrec b o hb hnf)).trans hb, rfl⟩) hf ((oth e (Ne.symm hTe)).trans he) (fun b o hbo => ?_) hen hd (Array.getElem?_eq_some_iff.mp g1).1 hz fun h1 hN => ?_
  · exact (oth b fun q => by rw [q, hnT] at hbo; cases hbo).trans (hkb b o hbo)
  · obtain ⟨x1, x2, x3, x4⟩ := hN
    exact hQ h1 ⟨x1, hen, x2, x3⟩ fun b o hb hnf => x4 b o ((oth b (nrec b o hb hnf)).trans hb) hnf
theorem note_same {e : Value} {ce : Env} (h : ce.frame = env.frame) : noteFrame e ce = noteFrame e env := by
  unfold PySem.noteFrame PySem.frameOf
  rw [h]
end
abbrev CxB (X : Cx) (s : Shared) (H : Hp) (scope : Scope) (ce : Env) (fp : List Addr) (xe : Value → Shared → Prop) : Cx := (X.blk s H scope ce fp).tr [] xe
section
variable {X : Cx} {pins : List (Addr × Obj)} {σ : L2.St} {H3 : Hp} {s3 : Shared} {Wo Wb : WX} {scope : Scope} {ce : Env} {fp : List Addr} {xe : Value → Shared → Prop}
/-- an exception in the block's air is one of the def's, behind the block -/
theorem blk_out (hsk : X.stack = X.env :: X.outer) (hf : X.env.frame = some X.env.locals) (tk : Takes X Wo) (hW : ∀ c d σ1 H1, Wb c d σ1 H1 → Wo c d σ H1) (I3 : Inv X pins σ H3 s3) (f3 : ∀ b ∈ fp, FpOk X pins H3 b ∧ b < s3.heap.objs.size)
    (hce : ce.frame = X.env.frame) (cL : ce.locals = s3.heap.objs.size) {use : Option (Value → Sem Unit)} {Qf : Value → Shared → Prop} {D : Value} {u : Value} {s1 : Shared} (x : XE (CxB X s3 H3 scope ce fp xe) Wb u s1) :
    notedBy (model X.prog X.w) X.A ce (fun e s2 => Cpo (model X.prog X.w) X.A X.xe use Qf D s3.heap.objs.size X.env.frame (.error e) s2) u s1 := by
  obtain ⟨a, B, sI, pb, σb, Hb, cls, d, rfl, Jb, nb, up, sky, na, os, ag, w⟩ := x
  have hfr : X.A.frames = some (X.env :: X.outer) := by rw [I3.ok.frames, hsk]
  have hCn : s3.heap.objs.size ≠ X.env.locals := Nat.ne_of_gt I3.lt
  unfold notedBy
  rw [note_same hce]
  have nC : Hb s3.heap.objs.size = none := by
    have z : Hb ce.locals = none := Jb.free
    rw [cL] at z; exact z
  have fC : FpOk X pins Hb s3.heap.objs.size := I3.fpOk (Nat.le_refl _) nC
  have nst : s3.heap.objs.size ∉ frs X.stack := fun hm => by
    rcases List.mem_cons.mp (I3.stkSub _ hm) with z | z
    · exact hCn z
    · exact fC.2.2.1 z
  have fin : ∀ h2, HandSPX.HeldZ B (X.env :: X.outer) a (Zc cls d) X.env.locals h2 → s1.heap.UpToSlots h2 → Cpo (model X.prog X.w) X.A X.xe use Qf D s3.heap.objs.size X.env.frame (.error (.ref a)) { s1 with heap := h2 } := by
    intro h2 hh up2
    have J2 : Inv (CxB X s3 H3 scope ce fp xe) pb σb Hb { s1 with heap := h2 } := Jb.landed nb hh.1 (up.trans up2) os ag
    obtain ⟨m, hn, _⟩ := J2.loc
    have hn : h2.Ns ce.locals m := hn
    rw [cL] at hn
    have key : ∃ m, h2.Ns s3.heap.objs.size m ∧ ∀ h4 m1, h4.Ns s3.heap.objs.size m1 → Heap.SameBut s3.heap.objs.size h2 h4 → ∀ c1 : Env, c1.frame = X.env.frame →
        wpAny (model X.prog X.w) X.A (passOn "comprehension.variables-let-go" (.ref a) c1 : Sem Value) (fun _ _ => False) X.xe { s1 with heap := h4 } := by
      refine ⟨m, hn, fun h4 m1 hn4 sb c1 hc1 => ?_⟩
      obtain ⟨g1, g2, g3, oe, vs, T, oT, ts, he, hz, hd, e1, hnT, hTe, hT, hdT, e3⟩ := hh
      obtain ⟨oC, esC, epC, hoC, hdC, _⟩ := id hn
      have aC : a ≠ s3.heap.objs.size := fun q => by
        rw [q, hoC] at he; cases he
        rw [hdC] at hd; cases hd
      have TC : T ≠ s3.heap.objs.size := fun q => by
        rw [q, hoC] at hT; cases hT
        rw [hdC] at hdT; cases hdT
      obtain ⟨B1, r1, r2⟩ := restrict B fun b => decide (b ≠ s3.heap.objs.size)
      obtain ⟨G1, q1, q2⟩ := restrict sI.heap fun b => decide (b ≠ s3.heap.objs.size)
      have bB : ∀ b o, B1.get? b = some o → b ≠ s3.heap.objs.size ∧ B.get? b = some o := fun b o e => by
        by_cases hb : b = s3.heap.objs.size
        · rw [r2 b (by simp [hb])] at e; cases e
        · exact ⟨hb, by rw [← r1 b (by simp [hb])]; exact e⟩
      have bG : ∀ b o, G1.get? b = some o → b ≠ s3.heap.objs.size ∧ sI.heap.get? b = some o := fun b o e => by
        by_cases hb : b = s3.heap.objs.size
        · rw [q2 b (by simp [hb])] at e; cases e
        · exact ⟨hb, by rw [← q1 b (by simp [hb])]; exact e⟩
      have nB : ∀ b, B.get? b = none → B1.get? b = none := fun b e => by
        cases q : B1.get? b with
        | none => rfl
        | some o => rw [(bB b o q).2] at e; cases e
      have held : HandSPX.HeldZ B1 (X.env :: X.outer) a (Zc cls d) X.env.locals h4 := by
        refine ⟨fun b o e => ?_, nB a g2, funFrames_none (Heap.FunFrames.sameBut sb hn4 g3) fun L hL => nB L (g3.mem hL).1, oe, vs, T, oT, ts, ?_, hz, hd, e1, nB T hnT, hTe, ?_, hdT, e3⟩
        · obtain ⟨hb, e⟩ := bB b o e
          rw [sb.2 b hb]; exact g1 b o e
        · rw [sb.2 a aC]; exact he
        · rw [sb.2 T TC]; exact hT
      have JX : Inv X pins σ Hb sI := I3.call' (ch := fp) Jb.os Jb.base Jb.hok Jb.bare fun b hb => ⟨(f3 b hb).1.2.2.2.1, (f3 b hb).1.2.1, (f3 b hb).1.2.2.2.2.1, (f3 b hb).1.2.2.2.2.2⟩
      have JX' : Inv X pins σ Hb { sI with heap := G1, toks := sI.toks } := JX.turned (it := s3.heap.objs.size) (fun b o hb e => by rw [q1 b (by simp [hb])]; exact e) nC hCn.symm.symm fC.2.2.2.1 fC.2.2.2.2.1 fC.2.2.2.2.2
      have he4 : h4.get? a = some oe := by rw [sb.2 a aC]; exact he
      unfold PySem.passOn
      refine wpAny_bind (wpAny_field he4 hd e1 ?_)
      rw [if_neg (by simp : ¬ ((Value.ref T == Value.none) = true)), hc1, hf]
      have last : wpAny (model X.prog X.w) X.A (setFlight (.ref a) (some X.env.locals)) (fun _ s5 => wpAny (model X.prog X.w) X.A (throw (.ref a) : Sem Value) (fun _ _ => False) X.xe s5) X.xe { s1 with heap := h4 } := by
        refine HandSPX.setFlight_onZ held fun h5 hh5 up5 => wpAny_throw (tk _ _ ?_)
        refine ⟨a, B1, _, pins, σ, Hb, cls, d, rfl, JX', fun b o e hb => ?_, ?_, ?_, na, os, ag, hW _ _ _ _ w⟩
        · obtain ⟨hbC, e⟩ := bG b o e
          rw [r1 b (by simp [hbC])]
          exact nb b o e hb
        · intro b o e hnf
          obtain ⟨hbC, e⟩ := bG b o e
          obtain ⟨sl, z⟩ := (up.trans up2) b o e hnf
          have z4 : h4.get? b = some { o with slots := sl } := by rw [sb.2 b hbC]; exact z
          obtain ⟨sl2, z5⟩ := up5 b _ z4 hnf
          exact ⟨sl2, z5⟩
        · rw [hsk]; exact .inr (.inr hh5)
      first
        | exact wpAny_bind (wpAny_pure (wpAny_bind last))
        | exact wpAny_bind last
    unfold Cpo
    exact key
  have skyB : Sky B (X.env :: X.outer) a (Zc cls d) ce.locals s1.heap := by
    have z : Sky B X.stack a (Zc cls d) ce.locals s1.heap := sky
    rw [hsk] at z; exact z
  rcases skyB with ⟨hB, hn, hl, oe, vs, he, hz, hd, h1⟩ | fl | ⟨g1, g2, g3, g4⟩
  · exact HandSPX.look_newZ Zc.steady hfr hl hf he hB hn hd h1 hz fin
  · exact HandSPX.looks_onZ Zc.steady hfr hf fl fin
  · rw [cL] at g4
    refine looks_other Zc.steady hfr hf ?_ g1 g2 g3 g4 fin
    simp only [rawInt]
    have z : s3.heap.objs.size ≠ X.env.locals := hCn
    simpa using fun q => z (by exact_mod_cast q)
variable {elt tg iter : Expr} {ifs : List Expr} {own : List (Str × Nat)} {pos pos' : Pos} {wi : TI} {g : TG} {tt : TT} {te : TE} {Q : VK} {H : Hp} {s : Shared}
theorem comp_core {use : Option (Value → Sem Unit)} {Qf : Value → Shared → Prop} (hsk : X.stack = X.env :: X.outer) (hf : X.env.frame = some X.env.locals) (tk : Takes X Wo) (hW : ∀ c d σ1 H1, Wb c d σ1 H1 → Wo c d σ H1) (hc : X.calm = true) (hN : X.N.Nodup) (I : Inv X pins σ H s)
    (hi : PI X tg iter wi) (ok : BlkOk X.N X.env.scope scope own) (hg : ∀ (s : Shared) (H : Hp) (C : Addr) (cl : List (Str × Addr)) (fp : List Addr) (xe : Value → Shared → Prop), Takes (CxB X s H scope (compEnvC scope cl C X.env) fp xe) Wb → PG (CxB X s H scope (compEnvC scope cl C X.env) fp xe) tg g)
    (ht : ∀ (s : Shared) (H : Hp) (C : Addr) (cl : List (Str × Addr)) (fp : List Addr) (xe : Value → Shared → Prop), Takes (CxB X s H scope (compEnvC scope cl C X.env) fp xe) Wb → PTs (CxB X s H scope (compEnvC scope cl C X.env) fp xe) ifs tt)
    (he : ∀ (s : Shared) (H : Hp) (C : Addr) (cl : List (Str × Addr)) (fp : List Addr) (xe : Value → Shared → Prop), Takes (CxB X s H scope (compEnvC scope cl C X.env) fp xe) Wb → PE (CxB X s H scope (compEnvC scope cl C X.env) fp xe) elt te)
    (hs : ∀ x, foldedSetIterable iter X.env x = pure x) (h : tLc wi g tt te (own.map (·.2)) σ H Q)
    (hR : ∀ D C t m H1, Inv X pins σ H1 t → Q (.ref D) H1 → t.heap.Ns C m → FpOk X pins H1 C → Cpo (model X.prog X.w) X.A X.xe use Qf (.ref D) C X.env.frame (.ok .next) t) :
    wpAny (model X.prog X.w) X.A (comprehension (.ListComp elt [⟨tg, iter, ifs, 0⟩] scope pos) scope X.env pos' (newList []) false (eval iter X.env) use) Qf X.xe s := by
  refine comp_run (use := use) rfl hs (closure_ok fun y hy e => ?_) ok.kind (fun y hy e => by rw [ok.uniq y hy, e]) (thn (hi.run pins s σ H _ I h) fun xv t1 k1 => thn k1 fun itv t2 k2 => ?_)
  · rcases ok.free y hy e with k | k
    · exact I.ok.has _ (.inl k)
    · exact I.ok.has _ (.inr k)
  obtain ⟨it, fp, tn, J, H2, e, I2, T, st2, f2, q⟩ := k2
  subst e
  refine wpAny_newObj_type (newEnv_comp ?_) (Nat.zero_le sizeLine)
  generalize hD : t2.heap.objs.size = D
  obtain ⟨W, ⟨m0, w0⟩, turn⟩ := q D (I2.hok.fresh (Nat.le_of_eq hD))
  generalize e3 : ({ t2 with heap := t2.heap.push { cls := .type "list", data := .seq ([] : List Value).toArray } } : Shared) = t3
  have hp3 : t3.heap = t2.heap.push { cls := .type "list", data := .seq ([] : List Value).toArray } := by rw [← e3]
  have I3 : Inv X pins σ (upd H2 D (.lst [])) t3 := by
    rw [← e3]
    refine I2.laid (t' := t2.toks) (fun b o e => Heap.get?_push_of_some _ e) (Nat.le_of_eq hD) ⟨Nat.zero_le _, [], 0, .nil, ?_⟩
    rw [← hD]; exact Heap.get?_push_size _ rfl
  have sz : ∀ b ∈ fp, b < t2.heap.objs.size := fun b hb => let ⟨_, e, _⟩ := T.obj _ _ st2 b hb; Heap.lt_size e
  have f3 : ∀ b ∈ fp, FpOk X pins (upd H2 D (.lst [])) b ∧ b < t3.heap.objs.size := fun b hb => by
    have lt := sz b hb
    refine ⟨⟨?_, (f2 b hb).2⟩, by rw [hp3, Heap.size_push]; exact Nat.lt_succ_of_lt lt⟩
    rw [upd_ne (by rw [← hD]; exact Nat.ne_of_lt lt)]; exact (f2 b hb).1
  have st3 : tn 0 t3.heap := T.keep _ _ _ st2 fun b _ o e => by rw [hp3]; exact Heap.get?_push_of_some _ e
  have I4 := block_start I3 ok hN f3
  generalize eC : cellsFrom (t3.heap.objs.size + 1) scope.names (cloFrom X.env.cells scope.names []) = cells at I4 ⊢
  generalize eH : upd H2 D (.lst []) = H3 at I3 I4 w0 f3
  show codeAny _ _ (.compStart (.ListComp elt [⟨tg, iter, ifs, 0⟩] scope pos) 0 (.ref it) (.ref D) (compEnvC scope cells t3.heap.objs.size X.env)) (Cpo (model X.prog X.w) X.A X.xe use Qf (.ref D) t3.heap.objs.size X.env.frame) { t3 with heap := pushCells (t3.heap.push { cls := .type "dict", data := .dict #[] }) scope.names }
  have out : Takes (CxB X t3 H3 scope (compEnvC scope cells t3.heap.objs.size X.env) fp (notedBy (model X.prog X.w) X.A (compEnvC scope cells t3.heap.objs.size X.env) fun e s2 => Cpo (model X.prog X.w) X.A X.xe use Qf (.ref D) t3.heap.objs.size X.env.frame (.error e) s2)) Wb :=
    fun u s1 x => blk_out (ce := compEnvC scope cells t3.heap.objs.size X.env) hsk hf tk hW I3 f3 rfl rfl x
  have pg := hg t3 H3 t3.heap.objs.size cells fp _ out
  have pt := ht t3 H3 t3.heap.objs.size cells fp _ out
  have pe := he t3 H3 t3.heap.objs.size cells fp _ out
  clear out
  generalize ece : compEnvC scope cells t3.heap.objs.size X.env = ce at I4 pg pt pe ⊢
  have cL : ce.locals = t3.heap.objs.size := by rw [← ece]; rfl
  generalize exe : (notedBy (model X.prog X.w) X.A ce fun e s2 => Cpo (model X.prog X.w) X.A X.xe use Qf (.ref D) t3.heap.objs.size X.env.frame (.error e) s2) = xe at pg pt pe
  have I4 : Inv (CxB X t3 H3 scope ce fp xe) [] (wipe σ (own.map (·.2))) H3 { t3 with heap := pushCells (t3.heap.push { cls := .type "dict", data := .dict #[] }) scope.names } := I4.toTry xe
  generalize e4 : ({ t3 with heap := pushCells (t3.heap.push { cls := .type "dict", data := .dict #[] }) scope.names } : Shared) = t4 at I4 ⊢
  have st4 : tn 0 t4.heap := T.keep _ _ _ st3 fun b _ o e => by rw [← e4]; exact pushCells_keeps _ _ _ _ (Heap.get?_push_of_some _ e)
  have stat : ∀ {σ1 : L2.St} {H1 : Hp} {u : Shared}, Inv (CxB X t3 H3 scope ce fp xe) [] σ1 H1 u → (∀ b ∈ fp, H1 b = none) → ∀ b ∈ fp, FpOk (CxB X t3 H3 scope ce fp xe) [] H1 b := fun {σ1 H1 u} K n b hb =>
    ⟨n b hb, (K.ok.exf b hb).1, K.ok.exfs b hb, .inl hb, fun x c e => (K.ok.exf b hb).2 x c e, fun p hp => absurd (show p ∈ ([] : List (Addr × Obj)) ++ [] from hp) (by simp)⟩
  have loop : codeAny (model X.prog X.w) X.A (.compLoop (.ListComp elt [⟨tg, iter, ifs, 0⟩] scope pos) 0 (.ref it) (.ref D) ce) (Cpo (model X.prog X.w) X.A X.xe use Qf (.ref D) t3.heap.objs.size X.env.frame) t4 := by
    refine compLoop_any (fun n u => ∃ i H1, Inv (CxB X t3 H3 scope ce fp xe) [] (wipe σ (own.map (·.2))) H1 u ∧ tn i u.heap ∧ (∀ b ∈ fp, H1 b = none) ∧ W i n H1) ?_ m0 ⟨0, H3, I4, st4, fun b hb => (f3 b hb).1.1, w0⟩
    rw [exe]
    rintro n t5 ⟨i, H5, I5, st5, n5, w5⟩
    rcases turn i n H5 w5 with ⟨stop, qq⟩ | ⟨go, Nx, hNx, step⟩
    · refine thnF (T.done (CxB X t3 H3 scope ce fp xe) rfl rfl rfl hc i [] t5 _ H5 (fun _ _ => False) I5 (stat I5 n5) st5 stop) fun r t6 ⟨hr, I6⟩ => ?_
      subst hr
      have I7 : Inv X pins σ H5 t6 := I3.call' (ch := fp) I6.os I6.base I6.hok I6.bare fun b hb => let ⟨a1, a2⟩ := f3 b hb; ⟨a1.2.2.2.1, a1.2.1, a1.2.2.2.2.1, a1.2.2.2.2.2⟩
      have nC : H5 ce.locals = none := I6.free
      obtain ⟨m, hn, _⟩ := I6.loc
      have hn : t6.heap.Ns ce.locals m := hn
      rw [cL] at hn nC
      exact hR D t3.heap.objs.size t6 m H5 I7 qq hn (I3.fpOk (Nat.le_refl _) nC)
    · refine thnF (T.item (CxB X t3 H3 scope ce fp xe) rfl rfl rfl hc i [] t5 _ H5 (fun _ _ => False) I5 (stat I5 n5) st5 go) fun r t6 ⟨u, hr, k6⟩ => ?_
      subst hr
      refine thnF k6 fun _ t7 ⟨x, H7, I7, r7, y7, st7, n7⟩ => ?_
      refine thn (pg.run _ t7 _ H7 x u _ (I7.pinned (stat I7 n7) (T.obj _ _ st7)) r7 (step x H7 y7)) fun _ t8 ⟨σ8, H8, I8, hw8, q8⟩ => ?_
      refine thn (pt.run _ t8 σ8 H8 _ I8 q8) fun b t9 ⟨H9, I9, q9⟩ => ?_
      have turned : ∀ {u : Shared} {H1 : Hp}, Inv (CxB X t3 H3 scope ce fp xe) ([] ++ pinsAt fp t7.heap) σ8 H1 u → Nx H1 → ∃ m, m < n ∧ ∃ i H1, Inv (CxB X t3 H3 scope ce fp xe) [] (wipe σ (own.map (·.2))) H1 u ∧ tn i u.heap ∧ (∀ b ∈ fp, H1 b = none) ∧ W i m H1 := fun {u H1} K nx => by
        obtain ⟨m1, hm, w1⟩ := hNx H1 nx
        have pin1 : ∀ b ∈ fp, ∀ o, t7.heap.get? b = some o → u.heap.get? b = some o ∧ H1 b = none := fun b hb o e => (K.pin (b, o) (List.mem_append_right _ (List.mem_append_right _ (mem_pinsAt hb e)))).imp id And.left
        refine ⟨m1, hm, i + 1, H1, (K.unpinned (pins := [])).weak (by rw [← hw8, wipe_length]) (fun j v e => ?_), T.keep _ _ _ st7 fun b hb o e => (pin1 b hb o e).1, fun b hb => ?_, w1⟩
        · rw [← hw8] at e; exact (wipe_some e).1
        · obtain ⟨o, e, _⟩ := T.obj _ _ st7 b hb
          exact (pin1 b hb o e).2
      cases b with
      | true =>
        simp only [if_true] at q9 ⊢
        refine thn (pe.run _ t9 σ8 H9 _ I9 q9) fun z t10 ⟨yv, H10, I10, r10, acc, hD10, hz10, nx⟩ => ?_
        exact app_ok (X := CxB X t3 H3 scope ce fp xe) I10 hD10 hz10 r10 fun t11 I11 => turned I11 nx
      | false =>
        simp only [Bool.false_eq_true, if_false] at q9 ⊢
        exact turned I9 q9
  exact codeAny_compStart_list loop (T.self X.A 0 _ _ _ st4 loop)
end
end DL

set_option Elab.async false
set_option backward.match.sparseCases false
set_option linter.all false
set_option maxRecDepth 100000
set_option maxHeartbeats 4000000
/-! DX5: comprehensions over the data layer: an exception may leave, the target may be a tuple. -/
namespace DL
open PySem PySem.Spec PyProof.Rows L2
section
variable {X : Cx} {W : WX} {elt tg iter : Expr} {ifs : List Expr} {scope : Scope} {own : List (Str × Nat)} {pos spos : Pos} {wi : TI} {g : TG} {tt : TT} {te : TE}
/-- the wish within the block -/
abbrev WBl (W : WX) (σ : L2.St) : WX := fun c d _ H => W c d σ H
theorem pe_lcX {wi : TI} {g : L2.St → TG} {tt : L2.St → TT} {te : L2.St → TE} (hsk : X.stack = X.env :: X.outer) (hf : X.env.frame = some X.env.locals) (tk : Takes X W) (hc : X.calm = true) (hN : X.N.Nodup) (hi : PI X tg iter wi) (ok : BlkOk X.N X.env.scope scope own)
    (hg : ∀ (σ : L2.St) (s : Shared) (H : Hp) (C : Addr) (cl : List (Str × Addr)) (fp : List Addr) (xe : Value → Shared → Prop), Takes (CxB X s H scope (compEnvC scope cl C X.env) fp xe) (WBl W σ) → PG (CxB X s H scope (compEnvC scope cl C X.env) fp xe) tg (g σ))
    (ht : ∀ (σ : L2.St) (s : Shared) (H : Hp) (C : Addr) (cl : List (Str × Addr)) (fp : List Addr) (xe : Value → Shared → Prop), Takes (CxB X s H scope (compEnvC scope cl C X.env) fp xe) (WBl W σ) → PTs (CxB X s H scope (compEnvC scope cl C X.env) fp xe) ifs (tt σ))
    (he : ∀ (σ : L2.St) (s : Shared) (H : Hp) (C : Addr) (cl : List (Str × Addr)) (fp : List Addr) (xe : Value → Shared → Prop), Takes (CxB X s H scope (compEnvC scope cl C X.env) fp xe) (WBl W σ) → PE (CxB X s H scope (compEnvC scope cl C X.env) fp xe) elt (te σ))
    (hs : ∀ x, foldedSetIterable iter X.env x = pure x := by intro _; rfl) : PE X (.ListComp elt [⟨tg, iter, ifs, 0⟩] scope pos) (fun σ H Q => tLc wi (g σ) (tt σ) (te σ) (own.map (·.2)) σ H Q) := by
  refine ⟨fun pins s σ H Q I h => ?_⟩
  rw [eval_ListComp]
  refine comp_core hsk hf tk (fun _ _ _ _ z => z) hc hN I hi ok (hg σ) (ht σ) (he σ) hs h fun D C t m H1 I1 q hn f => ⟨m, hn, fun h2 sb => ?_⟩
  obtain ⟨f0, f1, f2, f3, f4, f5⟩ := f
  exact ⟨.ref D, H1, I1.turned (t' := t.toks) (fun b o hb e => (sb.2 b hb).trans e) f0 f1 f3 f4 f5, rfl, q⟩
theorem ps_lcX {i : Nat} {y : Str} {py : Pos} {wi : TI} {g : L2.St → TG} {tt : L2.St → TT} {te : L2.St → TE} (hsk : X.stack = X.env :: X.outer) (hf : X.env.frame = some X.env.locals) (tk : Takes X W) (hc : X.calm = true) (hN : X.N.Nodup) (hy : X.N[i]? = some y) (hyl : X.env.scope.names.lookup y = some .local)
    (hsw : swapsWith (.ListComp elt [⟨tg, iter, ifs, 0⟩] scope pos) (some (.Name y py)) spos.line X.env = pure true) (hi : PI X tg iter wi) (ok : BlkOk X.N X.env.scope scope own)
    (hg : ∀ (σ : L2.St) (s : Shared) (H : Hp) (C : Addr) (cl : List (Str × Addr)) (fp : List Addr) (xe : Value → Shared → Prop), Takes (CxB X s H scope (compEnvC scope cl C X.env) fp xe) (WBl W σ) → PG (CxB X s H scope (compEnvC scope cl C X.env) fp xe) tg (g σ))
    (ht : ∀ (σ : L2.St) (s : Shared) (H : Hp) (C : Addr) (cl : List (Str × Addr)) (fp : List Addr) (xe : Value → Shared → Prop), Takes (CxB X s H scope (compEnvC scope cl C X.env) fp xe) (WBl W σ) → PTs (CxB X s H scope (compEnvC scope cl C X.env) fp xe) ifs (tt σ))
    (he : ∀ (σ : L2.St) (s : Shared) (H : Hp) (C : Addr) (cl : List (Str × Addr)) (fp : List Addr) (xe : Value → Shared → Prop), Takes (CxB X s H scope (compEnvC scope cl C X.env) fp xe) (WBl W σ) → PE (CxB X s H scope (compEnvC scope cl C X.env) fp xe) elt (te σ))
    (hs : ∀ x, foldedSetIterable iter X.env x = pure x := by intro _; rfl) : PS X (.Assign [.Name y py] (.ListComp elt [⟨tg, iter, ifs, 0⟩] scope pos) spos) (tAsg (fun σ H Q => tLc wi (g σ) (tt σ) (te σ) (own.map (·.2)) σ H Q) (gName i)) := by
  refine ⟨fun pins s σ H D I h => ?_⟩
  rw [exec_Assign_Name_used _ _ _ _ hsw]
  refine wpAny_bind (wpAny_standAt (wpAny_bind ?_))
  show wpAny _ X.A (do let _ ← comprehension (.ListComp elt [⟨tg, iter, ifs, 0⟩] scope pos) scope X.env (firstIterPos [⟨tg, iter, ifs, 0⟩] pos) (newList []) false (eval iter X.env) (some (assign (.Name y py) X.env))) _ _ s
  have h : tLc wi (g σ) (tt σ) (te σ) (own.map (·.2)) σ H (fun x H1 => gName i x σ H1 D.nx) := h
  refine wpAny_bind (thn (comp_core (Qf := fun _ t => SP X pins D .next t) hsk hf tk (fun _ _ _ _ z => z) hc hN I hi ok (hg σ) (ht σ) (he σ) hs h fun L C t m H1 I1 q hn f => ?_) fun _ t hq => wpAny_pure (wpAny_pure hq))
  show wpAny _ _ (assign (.Name y py) X.env (.ref L)) _ _ _
  refine wpAny_assign_Name (store_ok2 (v := V.ref L) I1 hN hy (.inl hyl) rfl (fun t2 I2 ⟨a, sb, ha⟩ => ?_) (.inr hyl))
  obtain ⟨f0, f1, f2, f3, f4, f5⟩ := f
  have haC : C ≠ a := by
    rcases ha with z | z
    · rw [z]; exact f1
    · exact fun e => f4 y a z e.symm
  exact ⟨m, hn.sameBut sb haC, fun h3 sb3 => ⟨_, H1, I2.turned (t' := t2.toks) (fun b o hb e => (sb3.2 b hb).trans e) f0 f1 f3 f4 f5, q⟩⟩
end
/-! ### the data layer -/
abbrev BD := D → GE → (GE → Prop) → Prop
/-- the target is the name in slot j; a tuple of names -/
def bN (j : Nat) : BD := fun x Γ k => k (st Γ j x)
def stN : GE → List Nat → List D → GE
  | Γ, j :: js, x :: xs => stN (st Γ j x) js xs
  | Γ, _, _ => Γ
def bT (js : List Nat) : BD := fun x Γ k => match asT x with
  | some ds => ds.length = js.length ∧ k (stN Γ js ds)
  | none => False
def TgOk (K : PySem.W.Frag) (t : TG) (vs : List Nat) (b : BD) : Prop := ∀ (F : Hp) (Γ : GE) (σ : L2.St) (H : Hp) (M : Mem) (x : V) (d : D) (k : GE → Prop) (Q : L2.St → Hp → Prop), Rep K F d x → SOk K F H M → REnv K F Γ σ → b d Γ k →
  (∀ Γ1 σ1, k Γ1 → REnv K F Γ1 σ1 → wipe σ1 vs = wipe σ vs → Q σ1 H) → t x (wipe σ vs) H Q
theorem tg_name {K : PySem.W.Frag} (j : Nat) : TgOk K (gName j) [j] (bN j) := fun F Γ σ H M x d k Q r s e h q => by
  show Q ((wipe σ [j]).set j (some x)) H
  have ew : (wipe σ [j]).set j (some x) = σ.set j (some x) := by show (σ.set j none).set j (some x) = _; rw [List.set_set]
  rw [ew]
  exact q _ _ h (e.set j r) (by show (σ.set j (some x)).set j none = σ.set j none; rw [List.set_set])
def setN : L2.St → List Nat → List V → L2.St
  | σ, j :: js, x :: xs => setN (σ.set j (some x)) js xs
  | σ, _, _ => σ
theorem wipe_set_ne {σ : L2.St} {v : Nat} {o : Option V} : ∀ {vs : List Nat}, v ∉ vs → (wipe σ vs).set v o = wipe (σ.set v o) vs
  | [], _ => rfl
  | u :: us, h => by
    have hu : u ≠ v := fun z => h (by simp [z])
    show ((wipe σ us).set u none).set v o = (wipe (σ.set v o) us).set u none
    rw [List.set_comm _ _ hu, wipe_set_ne fun z => h (List.mem_cons_of_mem _ z)]
theorem setN_wipe : ∀ {vs : List Nat} {xs : List V} {σ : L2.St}, vs.Nodup → vs.length = xs.length → setN (wipe σ vs) vs xs = setN σ vs xs
  | [], [], σ, _, _ => rfl
  | v :: vs, x :: xs, σ, hd, hl => by
    obtain ⟨h1, h2⟩ := List.nodup_cons.mp hd
    show setN (((wipe σ vs).set v none).set v (some x)) vs xs = setN (σ.set v (some x)) vs xs
    rw [List.set_set, wipe_set_ne h1]
    exact setN_wipe h2 (by simpa using hl)
theorem wipe_set_in {σ : L2.St} {v : Nat} {o : Option V} : ∀ {vs : List Nat}, v ∈ vs → wipe (σ.set v o) vs = wipe σ vs
  | u :: us, h => by
    by_cases e : v ∈ us
    · show (wipe (σ.set v o) us).set u none = (wipe σ us).set u none
      rw [wipe_set_in e]
    · have z : v = u := by
        rcases List.mem_cons.mp h with z | z
        · exact z
        · exact absurd z e
      subst z
      show (wipe (σ.set v o) us).set v none = (wipe σ us).set v none
      rw [← wipe_set_ne e, List.set_set]
theorem wipe_setN : ∀ {js : List Nat} {xs : List V} {σ : L2.St} {vs : List Nat}, (∀ j ∈ js, j ∈ vs) → wipe (setN σ js xs) vs = wipe σ vs
  | [], _, _, _, _ => rfl
  | _ :: _, [], _, _, _ => rfl
  | j :: js, x :: xs, σ, vs, h => by
    show wipe (setN (σ.set j (some x)) js xs) vs = _
    rw [wipe_setN fun i hi => h i (List.mem_cons_of_mem _ hi), wipe_set_in (h j List.mem_cons_self)]
theorem tNms_set {H : Hp} {Q : L2.St → Hp → Prop} : ∀ {js : List Nat} {xs : List V} {σ : L2.St}, js.length = xs.length → Q (setN σ js xs) H → tNms js xs σ H Q
  | [], [], _, _, q => ⟨rfl, q⟩
  | j :: js, x :: xs, σ, hl, q => ⟨x, xs, rfl, tNms_set (js := js) (by simpa using hl) q⟩
theorem REnv.setN {K : PySem.W.Frag} {F : Hp} : ∀ {js : List Nat} {ds : List D} {vs : List V} {Γ : GE} {σ : L2.St}, REnv K F Γ σ → Reps K F ds vs → REnv K F (stN Γ js ds) (DL.setN σ js vs)
  | [], ds, vs, Γ, σ, e, r => by cases ds <;> exact e
  | j :: js, [], vs, Γ, σ, e, r => by cases r; exact e
  | j :: js, d :: ds, vs, Γ, σ, e, r => by
    obtain ⟨v, vr, ev, r1, r2⟩ := r
    subst ev
    exact REnv.setN (js := js) (e.set j r1) r2
theorem tg_tup {K : PySem.W.Frag} {n : Nat} (js : List Nat) (hn : js.length = n) (hd : js.Nodup) : TgOk K (gTup K n (tNms js)) js (bT js) := fun F Γ σ H M x d k Q r s e h q => by
  unfold bT at h
  cases g : asT d with
  | none => rw [g] at h; exact h.elim
  | some ds =>
    rw [g] at h
    obtain ⟨a, vs, ea, ha, za, ga⟩ := rep_T s r g
    have hl : js.length = vs.length := by rw [ga.len, h.1]
    refine ⟨a, vs, ea, ha, by rw [← hl, hn], tNms_set hl ?_⟩
    rw [setN_wipe hd hl]
    exact q _ _ h.2 (e.setN ga) (wipe_setN fun _ z => z)
def lcTurnsX (Γ : GE) (b : BD) (tt : WT) (we : WE) (xs : List D) (C : Mem → Prop) (p : Addr) (M1 : Mem) (RX : DX) (Z : List D → Mem → Prop) : Prop :=
  ∃ I : List D → List D → Mem → Prop, I [] [] (mup M1 p (.lst [])) ∧ (∀ pre x post out M, xs = pre ++ x :: post → I pre out M → C M ∧
    b x Γ fun Γ1 => tt Γ1 M (fun k M2 => if k = true then we Γ1 M2 (fun y M3 => M3 p = some (.lst out) ∧ I (pre ++ [x]) (out ++ [y]) (mup M3 p (.lst (out ++ [y])))) (fun c d M3 => RX c d (mdel M3 p)) else I (pre ++ [x]) out M2) (fun c d M3 => RX c d (mdel M3 p))) ∧
    ∀ out M, I xs out M → C M ∧ M p = some (.lst out) ∧ Z out M
def wLcX (b : BD) (wi : WI) (tt : WT) (we : WE) : WE := fun Γ M R RX => wi Γ M (fun xs C M1 => ∀ p, M1 p = none → lcTurnsX Γ b tt we xs C p M1 RX fun out M => R (.lst out) (mdel M p)) RX
def wLcXM (b : BD) (wi : WI) (tt : WT) (we : WE) : WE := fun Γ M R RX => wi Γ M (fun xs C M1 => ∀ p, M1 p = none → lcTurnsX Γ b tt we xs C p M1 RX fun _ M => R (.ref p) M) RX
theorem LeM.mdel {M : Mem} {p : Addr} : LeM (DL.mdel M p) M := fun b o h => by
  unfold DL.mdel at h
  split at h
  · cases h
  · exact h
section
variable {X : Cx} {W : WX} {elt tg iter : Expr} {ifs : List Expr} {scope : Scope} {own : List (Str × Nat)} {pos spos : Pos} {we : WE}
theorem lcX_walk {g : TG} {vs : List Nat} {b : BD} {wi : WI} {tt : WT} {we : WE} {σ : L2.St} {H : Hp} {Q : VK} {Z : List D → Mem → Addr → DK → Prop} {F : Hp} {Γ : GE} {M : Mem} {R : DK} {RX : DX} (tgo : TgOk X.K g vs b) (s : SOk X.K F H M) (e : REnv X.K F Γ σ)
    (w : wi Γ M (fun xs C M1 => ∀ p, M1 p = none → lcTurnsX Γ b tt we xs C p M1 RX fun out M => Z out M p R) RX) (hx : RXok X.K W F σ RX)
    (fin : ∀ out M' p F' H', Z out M' p R → M' p = some (.lst out) → Same F F' → SOk X.K F' H' M' → Q (.ref p) H') : tLc (lI X.K W True wi) g (lT X.K (WBl W σ) tt) (lE X.K (WBl W σ) we) vs σ H Q := by
  refine ⟨F, Γ, M, _, RX, s, e, w, fun xs C M1 F1 H1 J h1 hz s1 k1 c1 wk D0 hD => ?_, hx⟩
  have hz := hz True.intro
  have out : ∀ F2 σ2, Same F1 F2 → RXok X.K (WBl W σ) F2 σ2 (fun c d M3 => RX c d (DL.mdel M3 D0)) := fun F2 σ2 s2 c d M' F' H' v dx h s3 k r hd => hx c d _ F' H' v dx h ((s1.trans s2).trans s3) (k.le LeM.mdel) r hd
  obtain ⟨n1, k2⟩ := rep_new (ds := []) (vs := []) k1 hD (Nat.zero_le _) rfl
  obtain ⟨I, h0, step, fin'⟩ := h1 D0 n1
  refine ⟨fun i m H2 => ∃ F2 M2 out, Same F1 F2 ∧ SOk X.K F2 H2 M2 ∧ i + m = xs.length ∧ out.length ≤ i ∧ I (xs.take i) out M2, ⟨xs.length, F1, _, [], Same.refl F1, k2, by simp, Nat.le_refl _, by simpa using h0⟩, ?_⟩
  rintro i m H2 ⟨F2, M2, acc0, s2, k2, him, hol, h2⟩
  by_cases hlt : i < xs.length
  · have spl : xs = xs.take i ++ xs[i] :: xs.drop (i + 1) := by rw [List.getElem_cons_drop, List.take_append_drop]
    obtain ⟨c2, h3⟩ := step _ _ _ acc0 M2 spl h2
    refine .inr ⟨wk.go F2 H2 M2 i s2 k2 c2 hlt, fun H' => ∃ F3 M3 out, Same F1 F3 ∧ SOk X.K F3 H' M3 ∧ out.length ≤ i + 1 ∧ I (xs.take (i + 1)) out M3, fun H' ⟨F3, M3, out, a, b, c, d⟩ => ⟨m - 1, by omega, F3, M3, out, a, b, by omega, c, d⟩, fun x H' y => ?_⟩
    obtain ⟨eH, d, hd, rd⟩ := wk.yld F2 H2 M2 i x H' s2 k2 c2 hlt y
    subst eH
    have ed : d = xs[i] := by rw [List.getElem?_eq_getElem hlt] at hd; exact (Option.some.inj hd).symm
    subst ed
    have tk : xs.take (i + 1) = xs.take i ++ [xs[i]] := List.take_succ_eq_append_getElem hlt
    refine tgo F2 Γ σ H' M2 x _ _ _ rd k2 (e.mono (s1.trans s2)) h3 fun Γ1 σ1 h4 e1 ew => ?_
    refine ⟨ew, F2, Γ1, M2, _, _, k2, e1, h4, fun k M3 F3 H3 h4 s3 k3 => ?_, out F2 _ s2⟩
    cases k with
    | true =>
      refine iteT ⟨F3, Γ1, M3, _, _, k3, e1.mono s3, by simpa using h4, fun y M4 F4 H4 vy h5 s4 k4 r4 => ?_, out F3 _ (s2.trans s3)⟩
      obtain ⟨hp, h5⟩ := h5
      obtain ⟨_, acc, ha, za, ga⟩ := k4.mem D0 _ hp
      have hl : acc.length < sizeLine := by rw [ga.len]; omega
      refine ⟨acc, ha, hl, F4, _, acc0 ++ [y], (s2.trans s3).trans s4, put_lst k4 hp (by rw [List.length_append]; exact hl) (ga.append (Reps.one r4)), by rw [List.length_append]; simp; exact hol, by rw [tk] at *; exact h5⟩
    | false => exact iteF ⟨F3, M3, acc0, s2.trans s3, k3, by omega, by rw [tk]; simpa using h4⟩
  · have ei : i = xs.length := by omega
    subst ei
    rw [List.take_length] at h2
    obtain ⟨c2, hp, hZ⟩ := fin' acc0 M2 h2
    exact .inl ⟨wk.stop F2 H2 M2 s2 k2 c2, fin acc0 M2 D0 F2 H2 hZ hp (s1.trans s2) k2⟩
/-- what stands within the block: a rule for any Cx of it -/
abbrev AllB (X : Cx) (W : WX) (scope : Scope) (P : Cx → WX → Prop) : Prop := ∀ (σ : L2.St) (s : Shared) (H : Hp) (C : Addr) (cl : List (Str × Addr)) (fp : List Addr) (xe : Value → Shared → Prop), Takes (CxB X s H scope (compEnvC scope cl C X.env) fp xe) (WBl W σ) → P (CxB X s H scope (compEnvC scope cl C X.env) fp xe) (WBl W σ)
variable {g : TG} {b : BD} {wi : WI} {tt : WT} {i : Nat} {z : Str} {py : Pos}
theorem qlcX (tgo : TgOk X.K g (own.map (·.2)) b) (tk : Takes X W) (hN : X.N.Nodup) (ok : blkC X.N X.env.scope scope own = true) (hi : QI X W True tg iter wi) (hg : AllB X W scope fun Y _ => PG Y tg g) (ht : AllB X W scope fun Y V => QTs Y V ifs tt) (he : AllB X W scope fun Y V => QE Y V elt we)
    (hc : X.calm = true := by rfl) (hsk : X.stack = X.env :: X.outer := by rfl) (hf : X.env.frame = some X.env.locals := by rfl) (hs : ∀ x, foldedSetIterable iter X.env x = pure x := by intro _; rfl) : QE X W (.ListComp elt [⟨tg, iter, ifs, 0⟩] scope pos) (wLcX b wi tt we) :=
  pe_imp (pe_lcX (g := fun _ => g) (tt := fun σ => lT X.K (WBl W σ) tt) (te := fun σ => lE X.K (WBl W σ) we) hsk hf tk hc hN hi (blkOk_by ok) hg ht he hs) fun σ H Q ⟨F, Γ, M, R, RX, s, e, w, hq, hx⟩ =>
    lcX_walk (Z := fun out M p R => R (.lst out) (mdel M p)) tgo s e w hx fun out M' p F' H' h hp sF k => by
      obtain ⟨F2, s2, k2, r2⟩ := k.freeze hp
      exact hq _ _ _ _ _ h (sF.trans s2) k2 r2
theorem qlcXM (tgo : TgOk X.K g (own.map (·.2)) b) (tk : Takes X W) (hN : X.N.Nodup) (ok : blkC X.N X.env.scope scope own = true) (hi : QI X W True tg iter wi) (hg : AllB X W scope fun Y _ => PG Y tg g) (ht : AllB X W scope fun Y V => QTs Y V ifs tt) (he : AllB X W scope fun Y V => QE Y V elt we)
    (hc : X.calm = true := by rfl) (hsk : X.stack = X.env :: X.outer := by rfl) (hf : X.env.frame = some X.env.locals := by rfl) (hs : ∀ x, foldedSetIterable iter X.env x = pure x := by intro _; rfl) : QE X W (.ListComp elt [⟨tg, iter, ifs, 0⟩] scope pos) (wLcXM b wi tt we) :=
  pe_imp (pe_lcX (g := fun _ => g) (tt := fun σ => lT X.K (WBl W σ) tt) (te := fun σ => lE X.K (WBl W σ) we) hsk hf tk hc hN hi (blkOk_by ok) hg ht he hs) fun σ H Q ⟨F, Γ, M, R, RX, s, e, w, hq, hx⟩ =>
    lcX_walk (Z := fun _ M p R => R (.ref p) M) tgo s e w hx fun out M' p F' H' h hp sF k => hq _ _ _ _ _ h sF k rfl
theorem ssetX (i : Nat) (tgo : TgOk X.K g (own.map (·.2)) b) (tk : Takes X W) (hN : X.N.Nodup) (ok : blkC X.N X.env.scope scope own = true) (hi : QI X W True tg iter wi) (hg : AllB X W scope fun Y _ => PG Y tg g) (ht : AllB X W scope fun Y V => QTs Y V ifs tt) (he : AllB X W scope fun Y V => QE Y V elt we)
    (hc : X.calm = true := by rfl) (hsk : X.stack = X.env :: X.outer := by rfl) (hf : X.env.frame = some X.env.locals := by rfl) (hz : X.N[i]? = some z := by rfl) (hzl : X.env.scope.names.lookup z = some .local := by rfl) (hk : X.env.scope.kind = .function := by rfl) (hl : (py.line == pos.line) = true := by rfl)
    (hq : (scope.names.any fun (n, k) => n == z && (k == .local || k == .cell)) = false := by decide +kernel) (hs : ∀ x, foldedSetIterable iter X.env x = pure x := by intro _; rfl) : QS X W (.Assign [.Name z py] (.ListComp elt [⟨tg, iter, ifs, 0⟩] scope pos) spos) (wSet i (wLcX b wi tt we)) :=
  sset i (ps_lcX (g := fun _ => g) (tt := fun σ => lT X.K (WBl W σ) tt) (te := fun σ => lE X.K (WBl W σ) we) hsk hf tk hc hN hz hzl (sw_true hk hzl hl hq) hi (blkOk_by ok) hg ht he hs) fun σ H Q ⟨F, Γ, M, R, RX, s, e, w, hq, hx⟩ =>
    lcX_walk (Z := fun out M p R => R (.lst out) (mdel M p)) tgo s e w hx fun out M' p F' H' h hp sF k => by
      obtain ⟨F2, s2, k2, r2⟩ := k.freeze hp
      exact hq _ _ _ _ _ h (sF.trans s2) k2 r2
end
end DL

set_option Elab.async false
set_option backward.match.sparseCases false
set_option linter.all false
set_option maxRecDepth 100000
set_option maxHeartbeats 4000000
/-! DL14: tuples and dicts of the module, `in` over lists and tuples of data, written dicts. -/
namespace DL
open PySem PySem.Spec PyProof.Rows L2
/-! ### texts -/
theorem ofString_inj {a b : String} (h : Str.ofString a = Str.ofString b) : a = b := by
  rw [Str.ofString_eq_toList, Str.ofString_eq_toList] at h
  have h := congrArg (fun s : Str => s.cps.toList) h
  have key : ∀ (l r : List Char), l.map Char.toNat = r.map Char.toNat → l = r := by
    intro l
    induction l with
    | nil => intro r e; cases r with
      | nil => rfl
      | cons c r => simp at e
    | cons c l ih => intro r e; cases r with
      | nil => simp at e
      | cons d r =>
        simp only [List.map_cons, List.cons.injEq] at e
        rw [ih r e.2, Char.toNat_inj.mp e.1]
  exact String.toList_inj.mp (key _ _ (by simpa using h))
theorem e_ofStr {a b : String} : (Str.ofString a = Str.ofString b) = (a = b) := propext ⟨ofString_inj, fun h => by rw [h]⟩
/-! ### a tuple of the module -/
def GTup (K : PySem.W.Frag) (mg : Str → Option Value) (x : Str) (ds : List D) : Prop := ∃ a, mg x = some (.ref a) ∧ Rep K (fun _ => none) (.tup ds) (.ref a)
def flatU : Value → Option D
  | .none => some .non
  | .bool b => some (.bl b)
  | .int i _ => some (.int i)
  | .str x _ => some (.str x)
  | _ => none
def flatUs : List Value → Option (List D)
  | [] => some []
  | u :: us => match flatU u, flatUs us with
    | some d, some ds => some (d :: ds)
    | _, _ => none
theorem flatU_rep {K : PySem.W.Frag} {u : Value} {d : D} (h : flatU u = some d) : ∃ v, RelV v u ∧ Rep K (fun _ => none) d v := by
  cases u <;> first | (cases h; done) | skip
  · cases h; exact ⟨.non, rfl, rfl⟩
  · cases h; exact ⟨.bl _, rfl, rfl⟩
  · cases h; exact ⟨.int _, ⟨_, rfl⟩, rfl⟩
  · cases h; exact ⟨.str _, ⟨_, rfl⟩, rfl⟩
theorem flatUs_rep {K : PySem.W.Frag} : ∀ {us : List Value} {ds : List D}, flatUs us = some ds → ∃ vs, Vals vs us ∧ Reps K (fun _ => none) ds vs
  | [], ds, h => by cases h; exact ⟨[], .nil, rfl⟩
  | u :: us, ds, h => by
    unfold flatUs at h
    cases e1 : flatU u with
    | none => rw [e1] at h; cases h
    | some d =>
      cases e2 : flatUs us with
      | none => rw [e1, e2] at h; cases h
      | some r =>
        rw [e1, e2] at h; cases h
        obtain ⟨v, a, b⟩ := flatU_rep (K := K) e1
        obtain ⟨vs, c, e⟩ := flatUs_rep (K := K) e2
        exact ⟨v :: vs, .cons a c, v, vs, rfl, b, e⟩
theorem tup_rep {K : PySem.W.Frag} {a : Addr} {dd : Option Addr} {its : Array Value} {n : Nat} {sl : Array (Option Value)} {ds : List D} (l : K.lookup a = some ⟨.type "tuple", dd, .seq its n, sl⟩) (hz : its.size ≤ sizeLine) (hv : flatUs its.toList = some ds) : Rep K (fun _ => none) (.tup ds) (.ref a) := by
  obtain ⟨vs, rv, rd⟩ := flatUs_rep (K := K) hv
  refine ⟨a, vs, rfl, .inr ⟨_, its, n, l, rfl, rfl, hz, rv⟩, ?_, rd⟩
  have := rv.length
  rw [this]; simpa using hz
theorem gtupF {K : PySem.W.Frag} {mg : Str → Option Value} {h : Heap} {x : Str} {a : Addr} {dd : Option Addr} {its : Array Value} {n : Nat} {sl : Array (Option Value)} {ds : List D} (X : K.In h) (G : h.Ns mainGlobals mg) (e : PySem.W.nsIn K mainGlobals x = some (some (.ref a)))
    (l : K.lookup a = some ⟨.type "tuple", dd, .seq its n, sl⟩) (hz : its.size ≤ sizeLine) (hv : flatUs its.toList = some ds) : GTup K mg x ds := ⟨a, PySem.W.mg_of X G e, tup_rep l hz hv⟩
theorem same0 {F : Hp} : Same (fun _ => none) F := fun _ _ e => by cases e
section
variable {X : Cx} {W : WX} {e o a b : Expr} {we wo wa wb : WE} {pos pos' : Pos} {x : Str} {ds : List D}
theorem qgtup (hg : Gl X x) (h : GTup X.K X.mg x ds) (hd : (x == ("__debug__" : Str)) = false := by decide) : QE X W (.Name x pos) (wC (.tup ds)) := by
  obtain ⟨r, h, q⟩ := h
  exact qc (pe_glob hg h (v := .ref r) rfl hd) fun F => Rep.mono same0 _ _ q
/-! ### x in xs -/
def deq (x y : D) : Bool := PyData.eqv (pyD x) (pyD y)
def rInD (K : PySem.W.Frag) (neg : Bool) : R2 := fun x y H Q => ∃ p vs d ds, y = .ref p ∧ (SqL K H p vs ∨ SqT K H p vs) ∧ Dp K H x d ∧ DpAll K H vs ds ∧ (SeqAt.shaped d = true ∧ d.depth ≤ 60) ∧ (∀ e ∈ ds, SeqAt.shaped e = true) ∧ Q (.bl (if neg then !ds.any fun e => PyData.eqv e d else ds.any fun e => PyData.eqv e d)) H
theorem in_reads {X : Cx} {pins : List (Addr × Obj)} {σ : L2.St} {H : Hp} {s : Shared} (I : Inv X pins σ H s) (hu : X.A.units + 64 < cLine) {d : PyData} {v : Value} {as : List Addr} (r : Reads s.heap v d as) (sd : SeqAt.shaped d = true ∧ d.depth ≤ 60) : ∃ f : Value → Bool, ∀ (vs : List V) (ds : List PyData) (us : List Value),
    DpAll X.K H vs ds → Vals vs us → (∀ e ∈ ds, SeqAt.shaped e = true) → (∀ u ∈ us, SeqAt.EqAt X.A.in1 s u v (f u)) ∧ us.any f = ds.any fun e => PyData.eqv e d := by
  classical
  refine ⟨fun u => decide (∃ e bs, Reads s.heap u e bs ∧ SeqAt.shaped e = true ∧ PyData.eqv e d = true), ?_⟩
  intro vs
  induction vs with
  | nil => intro ds us hd hv _; cases hd; cases hv; exact ⟨fun u h => (by cases h), rfl⟩
  | cons x vs ih =>
    intro ds us hd hv hs
    cases hd with
    | cons h1 h2 =>
      rename_i e es
      cases hv with
      | cons r1 r2 =>
        rename_i u us
        obtain ⟨bs, re⟩ := Dp.reads I e x u h1 r1
        have se := hs e List.mem_cons_self
        obtain ⟨i1, i2⟩ := ih _ _ h2 r2 fun e' he' => hs e' (List.mem_cons_of_mem _ he')
        have val : decide (∃ e bs, Reads s.heap u e bs ∧ SeqAt.shaped e = true ∧ PyData.eqv e d = true) = PyData.eqv e d := by
          cases q : PyData.eqv e d with
          | true => exact decide_eq_true ⟨e, bs, re, se, q⟩
          | false =>
            refine decide_eq_false fun ⟨e', bs', re', se', q'⟩ => ?_
            have := SeqAt.Reads.unique e e' u bs bs' (SeqAt.canLay_of_shaped se) re re'
            subst this
            rw [q] at q'; cases q'
        refine ⟨fun w hw => ?_, ?_⟩
        · rcases List.mem_cons.mp hw with z | z
          · subst z
            show SeqAt.EqAt X.A.in1 s w v (decide _)
            rw [val]
            have hin : X.A.in1.units + min e.depth d.depth < cLine := by
              have h1 : min e.depth d.depth ≤ d.depth := Nat.min_le_right _ _
              have h2 := sd.2
              have h3 : X.A.in1.units = X.A.units + 1 := rfl
              omega
            exact SeqAt.eqAt_reads e d X.A.in1 s w v bs as re r (SeqAt.canLay_of_shaped se) (SeqAt.canLay_of_shaped sd.1) hin
          · exact i1 w z
        · rw [List.any_cons, List.any_cons, ← i2]
          show (decide _ || _) = _
          rw [val]
theorem op_inD (hu : X.A.units + 64 < cLine) : OpR X (compareOp .In) (rInD X.K false) := by
  intro pins s σ H x y v u Q I rx ry h
  obtain ⟨p, vs, d, ds, rfl, hq, hd, hds, sd, ss, q⟩ := h
  cases ry
  obtain ⟨as, r⟩ := Dp.reads I d x v hd rx
  obtain ⟨f, hf⟩ := in_reads I hu r sd
  rcases hq with hq | hq
  · obtain ⟨its, rv, pl, hz⟩ := I.list hq
    obtain ⟨g1, g2⟩ := hf _ _ _ hds rv ss
    refine SeqAt.in_listAt f pl.isList (fun w hw => g1 w (by simpa using hw)) ⟨.bl _, H, I, rfl, ?_⟩
    rw [show its.toArray.any f = its.any f by simp, g2]
    exact q
  · obtain ⟨its, rv, pl, hz⟩ := I.tuple hq
    obtain ⟨g1, g2⟩ := hf _ _ _ hds rv ss
    refine SeqAt.in_tupleAt f pl (fun w hw => g1 w (by simpa using hw)) ⟨.bl _, H, I, rfl, ?_⟩
    rw [show its.toArray.any f = its.any f by simp, g2]
    exact q
theorem op_notInD (hu : X.A.units + 64 < cLine) : OpR X (compareOp .NotIn) (rInD X.K true) := by
  intro pins s σ H x y v u Q I rx ry h
  obtain ⟨p, vs, d, ds, rfl, hq, hd, hds, sd, ss, q⟩ := h
  cases ry
  obtain ⟨as, r⟩ := Dp.reads I d x v hd rx
  obtain ⟨f, hf⟩ := in_reads I hu r sd
  rcases hq with hq | hq
  · obtain ⟨its, rv, pl, hz⟩ := I.list hq
    obtain ⟨g1, g2⟩ := hf _ _ _ hds rv ss
    refine SeqAt.notIn_listAt f pl.isList (fun w hw => g1 w (by simpa using hw)) ⟨.bl _, H, I, rfl, ?_⟩
    rw [show its.toArray.any f = its.any f by simp, g2]
    exact q
  · obtain ⟨its, rv, pl, hz⟩ := I.tuple hq
    obtain ⟨g1, g2⟩ := hf _ _ _ hds rv ss
    refine SeqAt.notIn_tupleAt f pl (fun w hw => g1 w (by simpa using hw)) ⟨.bl _, H, I, rfl, ?_⟩
    rw [show its.toArray.any f = its.any f by simp, g2]
    exact q
def strsOf : List D → Option (List Str)
  | [] => some []
  | .str s :: r => (strsOf r).map (s :: ·)
  | _ => none
/-- x in y; x a text and y texts alone: without more ado -/
def fInD (neg : Bool) : OD := fun x y M R => match asQ y M with
  | some ds => (match x, strsOf ds with
    | .str s, some ss => R (.bl (if neg then !ss.any fun t => decide (t = s) else ss.any fun t => decide (t = s))) M
    | x, _ => (cmpOk x ∧ (pyD x).depth ≤ 60) ∧ (∀ d ∈ ds, cmpOk d) ∧ R (.bl (if neg then !ds.any fun d => deq d x else ds.any fun d => deq d x)) M)
  | none => False
theorem strsOf_map : ∀ {ds : List D} {ss : List Str}, strsOf ds = some ss → ds = ss.map D.str
  | [], ss, h => by cases h; rfl
  | d :: r, ss, h => by
    cases d <;> first | (cases h; done) | skip
    rename_i s
    unfold strsOf at h
    cases e : strsOf r with
    | none => rw [e] at h; cases h
    | some q => rw [e] at h; cases h; rw [strsOf_map e]; rfl
theorem inV_strs {s : Str} : ∀ ss : List Str, inV (.str s) (ss.map V.str) = ss.any fun t => decide (t = s)
  | [] => rfl
  | t :: r => by
    have ih := inV_strs (s := s) r
    unfold inV at ih ⊢
    rw [List.map_cons, List.any_cons, List.any_cons, ih]
    have e1 : eqV (.str t) (.str s) = decide (t = s) := by
      show (t == s) = decide (t = s)
      by_cases e : t = s <;> simp [e]
    rw [e1]
theorem flat_strs : ∀ ss : List Str, (ss.map V.str).all flatV = true
  | [] => rfl
  | _ :: r => by rw [List.map_cons, List.all_cons, flat_strs r]; rfl
theorem pyDs_map : ∀ ds : List D, pyDs ds = ds.map pyD
  | [] => rfl
  | d :: ds => by unfold pyDs; rw [pyDs_map ds]; rfl
theorem trees_all : ∀ {ds : List D}, (∀ d ∈ ds, tree d = true) → trees ds = true
  | [], _ => rfl
  | d :: ds, h => by
    unfold trees
    rw [h d List.mem_cons_self, trees_all fun e he => h e (List.mem_cons_of_mem _ he)]; rfl
theorem lInD {K : PySem.W.Frag} (neg : Bool) : LOp K (fun x y H Q => rIn K neg x y H Q ∨ rInD K neg x y H Q) (fInD neg) := by
  intro x y vx vy F H M R Q s rx ry h q
  unfold fInD at h
  cases g : asQ y M with
  | none => rw [g] at h; exact h.elim
  | some ds =>
    rw [g] at h
    obtain ⟨a, vs, ea, hq, _, r⟩ := rep_Q s ry g
    have deep : (cmpOk x ∧ (pyD x).depth ≤ 60) ∧ (∀ d ∈ ds, cmpOk d) ∧ R (.bl (if neg then !ds.any fun d => deq d x else ds.any fun d => deq d x)) M → rIn K neg vx vy H Q ∨ rInD K neg vx vy H Q := by
      rintro ⟨⟨⟨t1, s1⟩, s2⟩, hs, h⟩
      refine .inr ⟨a, vs, pyD x, pyDs ds, ea, hq, Dp.mono s.sub _ _ (dpOf _ _ rx t1), DpAll.mono s.sub _ _ (dpsOf _ _ r (trees_all fun d hd => (hs d hd).1)), ⟨s1, s2⟩, fun e he => ?_, ?_⟩
      · rw [pyDs_map] at he
        obtain ⟨d, hd, e1⟩ := List.mem_map.mp he
        rw [← e1]; exact (hs d hd).2
      · have e : (pyDs ds).any (fun e => PyData.eqv e (pyD x)) = ds.any fun d => deq d x := by
          rw [pyDs_map, List.any_map]; rfl
        rw [e]
        exact q _ _ _ _ _ h (Same.refl F) s rfl
    simp only at h
    split at h
    · rename_i z ss gs
      cases rx
      have eds := strsOf_map gs
      subst eds
      have ev := Reps.strs r
      subst ev
      refine .inl ⟨a, _, ea, hq, rfl, flat_strs _, ?_⟩
      rw [inV_strs]
      exact q _ _ _ _ _ h (Same.refl F) s rfl
    · exact deep h
variable {k : Nat}
theorem qinD (hr : Room k X.A) (ha : QE X W a wa) (hb : QE X W b wb) (hm : behindInMarks .In b = false := by rfl) : QE X W (.Compare a [.In] [b] pos) (wOp (fInD false) wa wb) := qcmp (op_in_seq.or (op_inD hr.units)) (lInD false) ha hb hm
theorem qninD (hr : Room k X.A) (ha : QE X W a wa) (hb : QE X W b wb) (hm : behindInMarks .NotIn b = false := by rfl) : QE X W (.Compare a [.NotIn] [b] pos) (wOp (fInD true) wa wb) := qcmp (op_notIn_seq.or (op_notInD hr.units)) (lInD true) ha hb hm
theorem tinD (hr : Room k X.A) (ha : QE X W a wa) (hb : QE X W b wb) (hm : behindInMarks .In b = false := by rfl) : QT X W (.Compare a [.In] [b] pos) (wB (wOp (fInD false) wa wb)) := tcmp (op_in_seq.or (op_inD hr.units)) (lInD false) ha hb hm
theorem tninD (hr : Room k X.A) (ha : QE X W a wa) (hb : QE X W b wb) (hm : behindInMarks .NotIn b = false := by rfl) : QT X W (.Compare a [.NotIn] [b] pos) (wB (wOp (fInD true) wa wb)) := tcmp (op_notIn_seq.or (op_notInD hr.units)) (lInD true) ha hb hm
/-! ### a dict of the module: texts to data -/
def tget : List (Str × D) → Str → Option D
  | [], _ => none
  | (k, v) :: r, x => if x = k then some v else tget r x
structure GTab (w : World) (K : PySem.W.Frag) (mg : Str → Option Value) (x : Str) (tab : List (Str × D)) : Prop where
  ex : ∃ (a : Addr) (es : Array DictEntry) (n : Nat), mg x = some (.ref a) ∧ KDict K w a es n ∧ ∀ z, match tget tab z with
    | some d => ∃ u v, PySem.W.nsIn K a z = some (some u) ∧ RelV v u ∧ Rep K (fun _ => none) d v
    | none => PySem.W.nsIn K a z = some none
/-- k in TAB, k not in TAB -/
def wKIn (tab : List (Str × D)) (neg : Bool) (wa : WE) : WE := fun Γ M R RX => wa Γ M (fun d M1 => match d with
  | .str z => R (.bl (if neg then !(tget tab z).isSome else (tget tab z).isSome)) M1
  | _ => False) RX
def wKIx (tab : List (Str × D)) (wa : WE) : WE := fun Γ M R RX => wa Γ M (fun d M1 => match d with
  | .str z => (match tget tab z with
    | some v => R v M1
    | none => False)
  | _ => False) RX
theorem kin_some {K : PySem.W.Frag} {a : Addr} {tab : List (Str × D)} {z : Str} (h : match tget tab z with
    | some d => ∃ u v, PySem.W.nsIn K a z = some (some u) ∧ RelV v u ∧ Rep K (fun _ => none) d v
    | none => PySem.W.nsIn K a z = some none) : ∃ r : Option Value, PySem.W.nsIn K a z = some r ∧ r.isSome = (tget tab z).isSome := by
  cases e : tget tab z with
  | none => rw [e] at h; exact ⟨none, h, rfl⟩
  | some d =>
    rw [e] at h
    obtain ⟨u, v, h1, _⟩ := h
    exact ⟨_, h1, rfl⟩
variable {tab : List (Str × D)}
theorem qkin (hg : Gl X x) (T : GTab X.w X.K X.mg x tab) (ha : QE X W a wa) (hd : (x == ("__debug__" : Str)) = false := by decide) : QE X W (.Compare a [.In] [.Name x pos'] pos) (wKIn tab false wa) := by
  obtain ⟨p, es, n, hm, D, hz⟩ := T.ex
  refine pe_imp (pe_cmpR (op_in_kd D) ha (pe_glob hg hm (v := .ref p) rfl hd) (by rfl)) fun σ H Q ⟨F, Γ, M, R, RX, s, e, w, hq, hx⟩ => ⟨F, Γ, M, _, RX, s, e, w, fun d M1 F1 H1 v h1 s1 k1 r1 => ?_, hx⟩
  cases d with
  | str z =>
    cases r1
    obtain ⟨r, e1, e2⟩ := kin_some (hz z)
    exact ⟨z, r, rfl, rfl, e1, by rw [e2]; exact hq _ _ _ _ _ h1 s1 k1 rfl⟩
  | _ => exact h1.elim
theorem qknin (hg : Gl X x) (T : GTab X.w X.K X.mg x tab) (ha : QE X W a wa) (hd : (x == ("__debug__" : Str)) = false := by decide) : QE X W (.Compare a [.NotIn] [.Name x pos'] pos) (wKIn tab true wa) := by
  obtain ⟨p, es, n, hm, D, hz⟩ := T.ex
  refine pe_imp (pe_cmpR (op_notIn_kd D) ha (pe_glob hg hm (v := .ref p) rfl hd) (by rfl)) fun σ H Q ⟨F, Γ, M, R, RX, s, e, w, hq, hx⟩ => ⟨F, Γ, M, _, RX, s, e, w, fun d M1 F1 H1 v h1 s1 k1 r1 => ?_, hx⟩
  cases d with
  | str z =>
    cases r1
    obtain ⟨r, e1, e2⟩ := kin_some (hz z)
    exact ⟨z, r, rfl, rfl, e1, by rw [e2]; exact hq _ _ _ _ _ h1 s1 k1 rfl⟩
  | _ => exact h1.elim
theorem tkin (hg : Gl X x) (T : GTab X.w X.K X.mg x tab) (ha : QE X W a wa) (hd : (x == ("__debug__" : Str)) = false := by decide) : QT X W (.Compare a [.In] [.Name x pos'] pos) (wB (wKIn tab false wa)) := by
  obtain ⟨p, es, n, hm, D, hz⟩ := T.ex
  refine pt_imp (pt_cmpR (op_in_kd D) ha (pe_glob hg hm (v := .ref p) rfl hd) (by rfl)) fun σ H Q ⟨F, Γ, M, R, RX, s, e, w, hq, hx⟩ => ⟨F, Γ, M, _, RX, s, e, w, fun d M1 F1 H1 v h1 s1 k1 r1 => ?_, hx⟩
  cases d with
  | str z =>
    cases r1
    obtain ⟨r, e1, e2⟩ := kin_some (hz z)
    exact ⟨z, r, rfl, rfl, e1, _, rfl, by rw [e2]; exact hq _ _ _ _ h1 s1 k1⟩
  | _ => exact h1.elim
theorem qkix (hg : Gl X x) (T : GTab X.w X.K X.mg x tab) (hb : QE X W b wb) (hd : (x == ("__debug__" : Str)) = false := by decide) (hs : PlainIx b := by first | exact fun _ _ => rfl | (intros; rfl)) : QE X W (.Subscript (.Name x pos') b pos) (wKIx tab wb) := by
  obtain ⟨p, es, n, hm, D, hz⟩ := T.ex
  refine pe_imp (pe_ix ix_kdict (pe_glob hg hm (v := .ref p) rfl hd) hb hs) fun σ H Q ⟨F, Γ, M, R, RX, s, e, w, hq, hx⟩ => ⟨F, Γ, M, _, RX, s, e, w, fun d M1 F1 H1 v h1 s1 k1 r1 => ?_, hx⟩
  cases d with
  | str z =>
    cases r1
    have hz := hz z
    cases g : tget tab z with
    | none => simp only [g] at h1
    | some d =>
      simp only [g] at h1
      rw [g] at hz
      obtain ⟨u, v, e1, ru, rv⟩ := hz
      exact ⟨p, z, v, rfl, rfl, ⟨es, n, u, D.at_, D.lit, e1, ru⟩, hq _ _ _ _ _ h1 s1 k1 (Rep.mono same0 _ _ rv)⟩
  | _ => exact h1.elim
end
end DL

set_option Elab.async false
set_option backward.match.sparseCases false
set_option linter.all false
set_option maxRecDepth 100000
set_option maxHeartbeats 4000000
/-! DL15: names from a list, written dicts, equations for dicts. -/
namespace DL
open PySem PySem.Spec PyProof.Rows L2
section
variable {prog : Program} {w : World} {A : Around} {E : Value → Shared → Prop} {s : Shared}
theorem draw_lst {it l : Addr} {items : Array Value} (hne : l ≠ it) : ∀ (n i : Nat) (s : Shared) (Q : List Value → Shared → Prop), s.heap.IsListIter it l i → s.heap.IsList l items → i + n ≤ items.size →
    (∀ h', h'.IsListIter it l (i + n) → Heap.SameBut it s.heap h' → Q ((items.toList.drop i).take n) { s with heap := h' }) → wpAny (model prog w) A (draw (.ref it) n) Q E s
  | 0, i, s, Q, hit, _, _, hQ => wpAny_pure (by simpa using hQ s.heap hit (Heap.SameBut.refl ..))
  | n + 1, i, s, Q, hit, hl, hle, hQ => by
    have lt : i < items.size := by omega
    show wpAny _ _ (PySem.pyNext (.ref it) >>= _) Q E s
    refine wpAny_bind (wpAny_pyNext_list_item hit hl (x := items[i]) (by simp [lt]) fun g1 it1 sb1 => ?_)
    refine wpAny_bind (wpAny_holding (draw_lst hne n (i + 1) _ _ it1 (hl.extBut sb1.extBut hne) (by omega) fun g2 it2 sb2 => wpAny_pure ?_))
    have e1 : items.toList.drop i = items[i] :: items.toList.drop (i + 1) := by simp [List.drop_eq_getElem_cons, lt]
    have q := hQ g2 (by rw [show i + (n + 1) = i + 1 + n by omega]; exact it2) (sb1.trans sb2)
    rwa [e1, List.take_succ_cons] at q
theorem unpack_lst {l : Addr} {items : Array Value} {Q : List Value → Shared → Prop} (hh : A.handled = none) (hl : s.heap.IsList l items) (hQ : ∀ h', Heap.ExtBut s.heap.objs.size s.heap h' → Q items.toList { s with heap := h' }) : wpAny (model prog w) A (unpackItems (.ref l) items.size none) Q E s := by
  have ne : l ≠ s.heap.objs.size := by obtain ⟨o, ho, _⟩ := hl; exact Nat.ne_of_lt (Heap.lt_size ho)
  unfold unpackItems
  refine wpAny_bind ?_
  unfold notIterableAtAll
  refine wpAny_bind (wpAny_specialOf hl.typeIs slot_list_iter.lookup (wpAny_pure ?_))
  simp only [Bool.false_eq_true, if_false]
  refine wpAny_bind (wpAny_holding (wpAny_pyIter_list hl (wpAny_bind (wpAny_holding (draw_lst ne items.size 0 _ _ ⟨_, Heap.get?_push_size _ rfl, rfl, rfl⟩ (hl.push _) (by omega) fun g1 it1 sb1 => ?_)))))
  have e1 : List.take items.size (List.drop 0 items.toList) = items.toList := by rw [List.drop_zero]; exact List.take_of_length_le (by simp)
  rw [e1, if_neg (by simp)]
  refine wpAny_bind (wpAny_holding (wpAny_pyNext_list_end hh it1 ((hl.push _).extBut sb1.extBut ne) (by simp) fun g2 ex2 => ?_))
  simp only [Option.isSome_none, Bool.false_eq_true, if_false]
  exact wpAny_pure (hQ g2 fun b o hb e => ex2 b o hb (sb1.extBut b o hb (Heap.get?_push_of_some _ e)))
end
/-- (a, b, ..) = a list of that length -/
def gLs (K : PySem.W.Frag) (n : Nat) (t : TGs) : TG := fun v σ H Q => ∃ a xs, v = .ref a ∧ SqL K H a xs ∧ xs.length = n ∧ t xs σ H Q
theorem pg_lsts {X : Cx} {es : List Expr} {k n : Nat} {t : TGs} {pos : Pos} (hc : X.calm = true) (h : PGs X es t) (hn : (assignEach es X.env).length = n := by rfl) (hst : (assignEach es X.env).findIdx? (·.1) = none := by rfl) : PG X (.Tuple es k pos) (gLs X.K n t) := by
  refine ⟨fun pins s σ H v u Q I r hw => ?_⟩
  obtain ⟨a, xs, ea, hq, hl, hw⟩ := hw
  subst ea
  cases r
  obtain ⟨its, rv, pl, hz⟩ := I.list hq
  rw [arm_assign_Tuple]
  refine wpAny_bind (wpAny_standAt ?_)
  have e2 : (assignEach es X.env).length = its.toArray.size := by rw [hn, ← hl, rv.length]; simp
  unfold unpack
  rw [e2, hst]
  refine wpAny_bind (wpAny_holding (unpack_lst (I.ok.hd hc) pl.isList fun h1 hx => ?_))
  exact h.run pins _ σ H xs _ Q (I.kept (t' := s.toks) fun b o e => hx b o (Nat.ne_of_lt (Heap.lt_size e)) e) (by simpa using rv) hw
def gTpL (is : List Nat) : WG := fun d Γ M R RX => match asL d M with
  | some ds => ds.length = is.length ∧ gNms is ds Γ M R RX
  | none => False
theorem gtupL {X : Cx} {W : WX} {es : List Expr} {kk n : Nat} {is : List Nat} {pos : Pos} (h : PG X (.Tuple es kk pos) (gLs X.K n (tNms is))) (hn : is.length = n := by rfl) : QG X W (.Tuple es kk pos) (gTpL is) :=
  pg_imp h fun v σ H Q ⟨F, Γ, M, d, R, RX, s, e, r, w, hq, _⟩ => by
    unfold gTpL at w
    cases g : asL d M with
    | none => rw [g] at w; exact w.elim
    | some ds =>
      rw [g] at w
      obtain ⟨a, vs, ea, ha, za, ga⟩ := rep_L s r g
      exact ⟨a, vs, ea, ha, by rw [ga.len, w.1, hn], nms_ok s e ga w.2 hq⟩
/-! ### {k: v, ..} -/
def wPrs : List (Key × WE) → GE → Mem → (List (Key × D) → Mem → Prop) → DX → Prop
  | [], _, M, R, _ => R [] M
  | (k, w) :: r, Γ, M, R, RX => w Γ M (fun d M1 => wPrs r Γ M1 (fun ps M2 => R ((k, d) :: ps) M2) RX) RX
def wDct (kvs : List (Key × WE)) : WE := fun Γ M R RX => ∀ p, M p = none → wPrs kvs Γ (mup M p (.dK [])) (fun ps M2 => M2 p = some (.dK []) ∧ R (.ref p) (mup M2 p (.dK ps))) (fun c d M2 => RX c d (mdel M2 p))
structure QPs (X : Cx) (W : WX) (pos : Pos) (keys : List (Option Expr)) (values : List Expr) (kvs : List (Key × WE)) : Prop where
  run : PPs X pos keys values (kvs.map fun kw => (tC (kV kw.1), lE X.K W kw.2))
section
variable {X : Cx} {W : WX} {pos p1 : Pos} {e : Expr} {we : WE} {x : Str} {n : Nat} {ks : List (Option Expr)} {vs : List Expr} {kvs : List (Key × WE)}
theorem prs_nil : QPs X W pos [] [] [] := ⟨pps_nil⟩
theorem prs_cons (hv : QE X W e we) (hr : QPs X W pos ks vs kvs) : QPs X W pos (some (.Constant (.str x) n p1) :: ks) (e :: vs) ((.inr x, we) :: kvs) := ⟨pps_cons pe_str hv hr.run⟩
theorem putK_new {κ : Type} [DecidableEq κ] {kvs : List (κ × V)} {k : κ} {v : V} (h : k ∉ kvs.map (·.1)) : putK kvs k v = kvs ++ [(k, v)] := by
  unfold putK
  rw [if_neg]
  simp only [List.any_eq_true, decide_eq_true_eq, not_exists, not_and]
  exact fun kv hm e => h (List.mem_map.mpr ⟨kv, hm, e⟩)
theorem mergeK_nodup : ∀ {more kvs : List (Key × V)}, ((kvs ++ more).map (·.1)).Nodup → mergeK kvs more = kvs ++ more
  | [], kvs, _ => by simp [mergeK]
  | (k, v) :: r, kvs, h => by
    have hk : k ∉ kvs.map (·.1) := by
      simp only [List.map_append, List.map_cons] at h
      have := (List.nodup_append.mp h).2.2
      intro hm
      exact this k hm k (by simp) rfl
    show mergeK (putK kvs k v) r = _
    rw [putK_new hk, mergeK_nodup (by simpa using h)]
    simp
/-- the pairs, one by one -/
theorem prs_run {K : PySem.W.Frag} : ∀ {kvs : List (Key × WE)} {σ : L2.St} {F H : Hp} {Γ : GE} {M : Mem} {R : List (Key × D) → Mem → Prop} {RX : DX} {Q : List (V × V) → Hp → Prop}, SOk K F H M → REnv K F Γ σ → wPrs kvs Γ M R RX → RXok K W F σ RX →
    (∀ ps vs F1 H1 M1, R ps M1 → ps.map (·.1) = kvs.map (·.1) → RepKV K F1 ps vs → Same F F1 → SOk K F1 H1 M1 → Q (vs.map fun kv => (kV kv.1, kv.2)) H1) → tPairs (kvs.map fun kw => (tC (kV kw.1), lE K W kw.2)) σ H Q
  | [], σ, F, H, Γ, M, R, RX, Q, s, e, w, hx, q => q [] [] F H M w rfl rfl (Same.refl F) s
  | (k, we) :: r, σ, F, H, Γ, M, R, RX, Q, s, e, w, hx, q =>
    show lE K W we σ H _ from ⟨F, Γ, M, _, RX, s, e, w, fun d M1 F1 H1 v h1 s1 k1 r1 =>
      prs_run k1 (e.mono s1) h1 (hx.mono s1) fun ps vs F2 H2 M2 h2 hk r2 s2 k2 => q ((k, d) :: ps) ((k, v) :: vs) F2 H2 M2 h2 (by simp [hk]) ⟨v, vs, rfl, Rep.mono s2 _ _ r1, r2⟩ (s1.trans s2) k2, hx⟩
theorem RepKV.keys {κ : Type} {K : PySem.W.Frag} {F : Hp} : ∀ {ds : List (κ × D)} {vs : List (κ × V)}, RepKV K F ds vs → vs.map (·.1) = ds.map (·.1)
  | [], _, h => by cases h; rfl
  | (k, d) :: ds, _, ⟨v, r, e, _, h2⟩ => by subst e; simp [RepKV.keys h2]
theorem qdct (h : QPs X W pos ks vs kvs) (hn : (kvs.map (·.1)).Nodup) (hz : kvs.length ≤ 15 := by decide) (hall : ks.all (·.isSome) = true := by rfl) (hl : ks.length = vs.length := by rfl) (h0 : ks ≠ [] := by exact fun z => by cases z) (h15 : ks.length ≤ 15 := by decide) : QE X W (.Dict ks vs pos) (wDct kvs) := by
  refine pe_imp (pe_disp h.run hall hl h0 h15) fun σ H Q ⟨F, Γ, M, R, RX, s, e, w, hq, hx⟩ => fun p hp => ?_
  have k0 : SOk X.K F (upd H p (.dK [])) (mup M p (.dK [])) := s.put (.inl hp) ⟨[], upd_same, rfl⟩
  refine prs_run k0 e (w p (s.free hp).2) (fun c d M' F' H' v dx h s3 k r hd => hx c d _ F' H' v dx h s3 (k.le LeM.mdel) r hd) fun ps vs F1 H1 M1 ⟨h1, h2⟩ hk r1 s1 k1 => ?_
  obtain ⟨_, vk, hvk, rvk⟩ := k1.mem p _ h1
  cases rvk
  have nd : (vs.map (·.1)).Nodup := by rw [r1.keys, hk]; exact hn
  refine ⟨hvk, vs, rfl, by rw [r1.len, ← List.length_map (f := (·.1)), hk, List.length_map]; exact hz, ?_⟩
  rw [mergeK_nodup (by simpa using nd)]
  exact hq _ _ F1 _ _ h2 s1 (k1.put (.inr ⟨_, h1⟩) ⟨vs, upd_same, r1⟩) rfl
end
/-! ### equations -/
def onDK (o : Option MO) (k : List (Key × D) → Prop) : Prop := match o with
  | some (.dK kvs) => k kvs
  | some (.fK od vk kvs) => k kvs
  | _ => False
theorem e_onFK {od : Obj} {vk : List (Key × V)} {kvs : List (Key × D)} {k : List (Key × D) → Prop} : onDK (some (.fK od vk kvs)) k = k kvs := (rfl)
theorem e_onDK {kvs : List (Key × D)} {k : List (Key × D) → Prop} : onDK (some (.dK kvs)) k = k kvs := (rfl)
section
variable {Γ : GE} {M : Mem} {R : DK} {RX : DX} {a : Addr} {x : D} {tab : List (Str × D)} {neg : Bool}
def kinP (tab : List (Str × D)) (neg : Bool) (R : DK) : DK := fun d M1 => match d with
  | .str z => R (.bl (if neg then !(tget tab z).isSome else (tget tab z).isSome)) M1
  | _ => False
def kixP (tab : List (Str × D)) (R : DK) : DK := fun d M1 => match d with
  | .str z => (match tget tab z with
    | some v => R v M1
    | none => False)
  | _ => False
theorem e_kin {wa : WE} : wKIn tab neg wa Γ M R RX = wa Γ M (kinP tab neg R) RX := (rfl)
theorem e_kix {wa : WE} : wKIx tab wa Γ M R RX = wa Γ M (kixP tab R) RX := (rfl)
theorem p_kinT {z : Str} : kinP tab true R (.str z) M = R (.bl (!(tget tab z).isSome)) M := (rfl)
theorem p_kinF {z : Str} : kinP tab false R (.str z) M = R (.bl (tget tab z).isSome) M := (rfl)
theorem p_kix {z : Str} : kixP tab R (.str z) M = onSome (tget tab z) (fun v => R v M) := by dsimp only [kixP, onSome]; cases tget tab z <;> rfl
def dinP (neg : Bool) (k : D) (R : DK) : DK := fun d M2 => match dGet d k M2 with
  | some o => R (.bl (if neg = true then !o.isSome else o.isSome)) M2
  | none => False
theorem e_din {wi wo : WE} : wDIn neg wi wo Γ M R RX = wi Γ M (fun k M1 => wo Γ M1 (dinP neg k R) RX) RX := (rfl)
theorem p_dinF {z : Str} : dinP false (.str z) R (.ref a) M = onDK (M a) (fun kvs => R (.bl (vget kvs (.inr z)).isSome) M) := by
  dsimp only [dinP, dGet, onDK]
  generalize M a = o
  rcases o with _ | o
  · rfl
  · cases o <;> rfl
theorem p_dinT {z : Str} : dinP true (.str z) R (.ref a) M = onDK (M a) (fun kvs => R (.bl (!(vget kvs (.inr z)).isSome)) M) := by
  dsimp only [dinP, dGet, onDK]
  generalize M a = o
  rcases o with _ | o
  · rfl
  · cases o <;> rfl
theorem e_ixGK {z : Str} : fIxG (.ref a) (.str z) M R = onDK (M a) (fun kvs => onSome (vget kvs (.inr z)) (fun d => R d M)) := by
  dsimp only [fIxG, dGet, onDK, onSome]
  generalize e : M a = o
  rcases o with _ | o
  · simp [fIx]
  · cases o <;> simp [dKey, fIx]
    · rename_i kvs; cases vget kvs (Sum.inr z) <;> rfl
    · rename_i od vk kvs; cases vget kvs (Sum.inr z) <;> rfl
theorem e_dct {kvs : List (Key × WE)} : wDct kvs Γ M R RX = ∀ p, M p = none → wPrs kvs Γ (mup M p (.dK [])) (fun ps M2 => M2 p = some (.dK []) ∧ R (.ref p) (mup M2 p (.dK ps))) (fun c d M2 => RX c d (mdel M2 p)) := (rfl)
theorem e_prs0 {Q : List (Key × D) → Mem → Prop} : wPrs [] Γ M Q RX = Q [] M := (rfl)
theorem e_prsC {k : Key} {w : WE} {r : List (Key × WE)} {Q : List (Key × D) → Mem → Prop} : wPrs ((k, w) :: r) Γ M Q RX = w Γ M (fun d M1 => wPrs r Γ M1 (fun ps M2 => Q ((k, d) :: ps) M2) RX) RX := (rfl)
theorem e_gTpL {is : List Nat} {Q : GE → Mem → Prop} {d : D} : gTpL is d Γ M Q RX = onSome (asL d M) (fun xs => xs.length = is.length ∧ gNms is xs Γ M Q RX) := by unfold gTpL onSome; cases asL d M <;> rfl
theorem e_lcX {b : BD} {wi : WI} {tt : WT} {we : WE} : wLcX b wi tt we Γ M R RX = wi Γ M (fun xs C M1 => ∀ p, M1 p = none → lcTurnsX Γ b tt we xs C p M1 RX fun out M => R (.lst out) (mdel M p)) RX := (rfl)
theorem e_lcXM {b : BD} {wi : WI} {tt : WT} {we : WE} : wLcXM b wi tt we Γ M R RX = wi Γ M (fun xs C M1 => ∀ p, M1 p = none → lcTurnsX Γ b tt we xs C p M1 RX fun _ M => R (.ref p) M) RX := (rfl)
theorem e_bN {j : Nat} {k : GE → Prop} : bN j x Γ k = k (st Γ j x) := (rfl)
theorem e_bT {js : List Nat} {ds : List D} {k : GE → Prop} : bT js (.tup ds) Γ k = (ds.length = js.length ∧ k (stN Γ js ds)) := (rfl)
end
theorem mapM_snoc {ε α β : Type} {g : α → Except ε β} : ∀ {xs : List α} {ys : List β} {x : α} {y : β}, xs.mapM g = .ok ys → g x = .ok y → (xs ++ [x]).mapM g = .ok (ys ++ [y]) := by
  intro xs ys x y h1 h2
  rw [List.mapM_append, h1]
  simp [h2, bind, Except.bind, pure, Except.pure]
/-- a comprehension without a test, of steps that may fail -/
theorem lcX_mapM {ε : Type} {Γ : GE} {b : BD} {we : WE} {xs : List D} {C : Mem → Prop} {M1 : Mem} {p : Addr} {RX : DX} {Z : List D → Mem → Prop} (g : D → Except ε D) (hC : ∀ out, C (mup M1 p (.lst out)))
    (step : ∀ pre x post out (R' : DK), xs = pre ++ x :: post → pre.mapM g = .ok out → (∀ y, g x = .ok y → R' y (mup M1 p (.lst out))) → b x Γ fun Γ1 => we Γ1 (mup M1 p (.lst out)) R' (fun c d M3 => RX c d (mdel M3 p)))
    (fin : ∀ out, xs.mapM g = .ok out → Z out (mup M1 p (.lst out))) : lcTurnsX Γ b wYes we xs C p M1 RX Z := by
  refine ⟨fun pre out M => pre.mapM g = .ok out ∧ M = mup M1 p (.lst out), ⟨rfl, rfl⟩, ?_, ?_⟩
  · rintro pre x post out M e ⟨h1, rfl⟩
    refine ⟨hC _, ?_⟩
    refine step pre x post out _ e h1 fun y hy => ?_
    exact ⟨mup_same, mapM_snoc h1 hy, by rw [mup_mup]⟩
  · rintro out M ⟨h, rfl⟩
    exact ⟨hC _, mup_same, fin out h⟩
end DL
namespace DL
open PySem PySem.Spec PyProof.Rows L2
theorem gownX {X : Cx} {s : Shared} {H : Hp} {scope : Scope} {C : Addr} {cl : List (Str × Addr)} {fp : List Addr} {xe : Value → Shared → Prop} {pos : Pos} (j : Nat) {y : Str} (hN : X.N.Nodup) (hi : X.N[j]? = some y := by rfl)
    (hx : Loc (CxB X s H scope (compEnvC scope cl C X.env) fp xe).env.scope y := by first | exact Or.inl rfl | exact Or.inr rfl) (hf : (CxB X s H scope (compEnvC scope cl C X.env) fp xe).fn y = true ∨ (CxB X s H scope (compEnvC scope cl C X.env) fp xe).env.scope.names.lookup y = some .local := by first | exact .inl rfl | exact .inr rfl) :
    PG (CxB X s H scope (compEnvC scope cl C X.env) fp xe) (.Name y pos) (gName j) := pg_name (X := CxB X s H scope (compEnvC scope cl C X.env) fp xe) hN hi hx hf
end DL
namespace DL
open PySem PySem.Spec PyProof.Rows L2
theorem mapM_take {ε α β : Type} {g : α → Except ε β} {l : List α} {k : Nat} {a : α} {y : β} {out : List β} (ha : l[k]? = some a) (h1 : (l.take k).mapM g = .ok out) (h2 : g a = .ok y) : (l.take (k + 1)).mapM g = .ok (out ++ [y]) := by
  rw [List.take_add_one, ha]
  exact mapM_snoc h1 h2
/-- the same over the pictures of a list -/
theorem lcX_mapA {ε α : Type} {Γ : GE} {b : BD} {we : WE} {f : α → D} {l : List α} {C : Mem → Prop} {M1 : Mem} {p : Addr} {RX : DX} {Z : List D → Mem → Prop} (g : α → Except ε D) (hC : ∀ out, C (mup M1 p (.lst out)))
    (step : ∀ k a out (R' : DK), l[k]? = some a → (l.take k).mapM g = .ok out → (∀ y, g a = .ok y → R' y (mup M1 p (.lst out))) → b (f a) Γ fun Γ1 => we Γ1 (mup M1 p (.lst out)) R' (fun c d M3 => RX c d (mdel M3 p)))
    (fin : ∀ out, l.mapM g = .ok out → Z out (mup M1 p (.lst out))) : lcTurnsX Γ b wYes we (l.map f) C p M1 RX Z := by
  refine ⟨fun pre out M => (l.take pre.length).mapM g = .ok out ∧ M = mup M1 p (.lst out), ⟨by simp [pure, Except.pure], rfl⟩, ?_, ?_⟩
  · rintro pre x post out M e ⟨h1, rfl⟩
    refine ⟨hC _, ?_⟩
    have hx : (l.map f)[pre.length]? = some x := by rw [e]; simp
    rw [List.getElem?_map] at hx
    cases ha : l[pre.length]? with
    | none => rw [ha] at hx; cases hx
    | some a =>
      rw [ha] at hx
      have ex : f a = x := Option.some.inj hx
      subst ex
      refine step pre.length a out _ ha h1 fun y hy => ?_
      exact ⟨mup_same, by simpa using mapM_take ha h1 hy, by rw [mup_mup]⟩
  · rintro out M ⟨h, rfl⟩
    refine ⟨hC _, mup_same, fin out ?_⟩
    simpa using h
/-- a comprehension whose steps do not fail, over the pictures of a list -/
theorem lc_mapA {α : Type} {Γ : GE} {j : Nat} {we : WE} {f : α → D} {l : List α} {C : Mem → Prop} {M1 : Mem} {p : Addr} {Z : List D → Mem → Prop} (g : α → D) (hC : ∀ out, C (mup M1 p (.lst out)))
    (hw : ∀ (k : Nat) (a : α) (R' : DK) (out : List D), l[k]? = some a → R' (g a) (mup M1 p (.lst out)) → we (st Γ j (f a)) (mup M1 p (.lst out)) R' FX) (hR : Z (l.map g) (mup M1 p (.lst (l.map g)))) : lcTurns Γ j wYes we (l.map f) C p M1 Z := by
  refine ⟨fun pre out M => out = (l.take pre.length).map g ∧ M = mup M1 p (.lst out), ⟨by simp, rfl⟩, ?_, ?_⟩
  · rintro pre x post out M e ⟨h1, rfl⟩
    refine ⟨hC _, ?_⟩
    have hx : (l.map f)[pre.length]? = some x := by rw [e]; simp
    rw [List.getElem?_map] at hx
    cases ha : l[pre.length]? with
    | none => rw [ha] at hx; cases hx
    | some a =>
      rw [ha] at hx
      have ex : f a = x := Option.some.inj hx
      subst ex
      rw [e_yes, if_pos rfl]
      refine hw pre.length a _ _ ha ⟨mup_same, ?_, ?_⟩
      · subst h1
        simp [List.take_add_one, ha]
      · rw [mup_mup]
  · rintro out M ⟨h, rfl⟩
    have e : out = l.map g := by simpa using h
    subst e
    exact ⟨hC _, mup_same, hR⟩
end DL
namespace DL
theorem e_stN0 {Γ : GE} {xs : List D} : stN Γ [] xs = Γ := by cases xs <;> rfl
theorem e_stN1 {Γ : GE} {j : Nat} {js : List Nat} {x : D} {xs : List D} : stN Γ (j :: js) (x :: xs) = stN (st Γ j x) js xs := (rfl)
theorem mapM_pure {ε α β : Type} {f : α → β} : ∀ {l : List α} {out : List β}, (l.mapM fun x => (.ok (f x) : Except ε β)) = .ok out → out = l.map f
  | [], out, h => by cases h; rfl
  | a :: l, out, h => by
    rw [List.mapM_cons] at h
    cases e : (l.mapM fun x => (.ok (f x) : Except ε β)) with
    | error x =>
      have h' : (do let r ← l.mapM fun x => (.ok (f x) : Except ε β); pure (f a :: r) : Except ε (List β)) = .ok out := h
      rw [e] at h'; cases h'
    | ok r =>
      have h' : (do let r ← l.mapM fun x => (.ok (f x) : Except ε β); pure (f a :: r) : Except ε (List β)) = .ok out := h
      rw [e] at h'
      cases h'
      rw [mapM_pure e]; rfl
end DL
namespace DL
open PySem PySem.Spec PyProof.Rows L2
theorem FnOk.none0 {P : Program} {w : World} {K : PySem.W.Frag} {mg : Str → Option Value} {base : Heap} {k n : Nat} {f : Addr} {fd : FuncData} {ps : List Str} {fs : FS} (hn : n = ps.length) (h : ∀ ds M R RX, fs ds M R RX → False) : FnOk P w K mg base (L2.CX P w) k f fd ps (spD K n fs) :=
  (FnOk.none hn).imp fun vs H Q E ⟨h0, F, ds, M, R, RX, k0, r0, h1, _⟩ => (h _ _ _ _ h1).elim
end DL
namespace DL
open PySem PySem.Spec PyProof.Rows L2
/-- the entries of a written dict and what they mean -/
inductive TabIs (K : PySem.W.Frag) : List DictEntry → List (Str × D) → Prop
  | nil : TabIs K [] []
  | cons {e : DictEntry} {x : Str} {t : Tok} {d : D} {es : List DictEntry} {tab : List (Str × D)} : e.key = .str x t → (∃ v, RelV v e.val ∧ Rep K (fun _ => none) d v) → TabIs K es tab → TabIs K (e :: es) ((x, d) :: tab)
theorem tab0 {K : PySem.W.Frag} : TabIs K [] [] := .nil
theorem tab_find {K : PySem.W.Frag} {es : List DictEntry} {tab : List (Str × D)} (h : TabIs K es tab) (z : Str) : es.any (·.refKey) = false ∧ (match tget tab z with
    | some d => ∃ e v, es.find? (·.key.isStr z) = some e ∧ RelV v e.val ∧ Rep K (fun _ => none) d v
    | none => es.find? (·.key.isStr z) = none) := by
  induction h with
  | nil => exact ⟨rfl, rfl⟩
  | @cons e x t d es tab hk hv _ ih =>
    obtain ⟨i1, i2⟩ := ih
    refine ⟨?_, ?_⟩
    · rw [List.any_cons, i1, Bool.or_false]
      unfold DictEntry.refKey
      rw [hk]
    · show match (if z = x then some d else tget tab z) with
        | some d => ∃ e' v, (e :: es).find? (·.key.isStr z) = some e' ∧ RelV v e'.val ∧ Rep K (fun _ => none) d v
        | none => (e :: es).find? (·.key.isStr z) = none
      have hs : e.key.isStr z = decide (z = x) := by
        rw [hk]
        show (x == z) = _
        by_cases q : z = x
        · subst q; simp
        · simp [q]; exact fun h => q h.symm
      by_cases q : z = x
      · rw [if_pos q]
        obtain ⟨v, r1, r2⟩ := hv
        exact ⟨e, v, by rw [List.find?_cons, hs, decide_eq_true q], r1, r2⟩
      · rw [if_neg q, List.find?_cons, hs, decide_eq_false q]
        exact i2
theorem tabT {K : PySem.W.Frag} {hash : Int} {x : Str} {tk : Tok} {a : Addr} {dd : Option Addr} {its : Array Value} {n : Nat} {sl : Array (Option Value)} {ds : List D} {es : List DictEntry} {tab : List (Str × D)} (l : K.lookup a = some ⟨.type "tuple", dd, .seq its n, sl⟩) (hz : its.size ≤ sizeLine)
    (hv : flatUs its.toList = some ds) (r : TabIs K es tab) : TabIs K (⟨hash, .str x tk, .ref a⟩ :: es) ((x, .tup ds) :: tab) := .cons rfl ⟨.ref a, rfl, tup_rep l hz hv⟩ r
theorem gtabF {w : World} {K : PySem.W.Frag} {mg : Str → Option Value} {h : Heap} {x : Str} {a : Addr} {es : Array DictEntry} {n : Nat} {tab : List (Str × D)} (X : K.In h) (G : h.Ns mainGlobals mg) (e : PySem.W.nsIn K mainGlobals x = some (some (.ref a)))
    (l : K.lookup a = some ⟨.type "dict", none, .dict es n, #[]⟩) (hk : PySem.W.KeysLit w.params es.toList) (hs : (a == sysModules) = false) (hv : TabIs K es.toList tab) : GTab w K mg x tab := by
  refine ⟨a, es, n, PySem.W.mg_of X G e, ⟨l, hk, hs⟩, fun z => ?_⟩
  obtain ⟨h1, h2⟩ := tab_find hv z
  unfold PySem.W.nsIn
  rw [l]
  dsimp only
  cases g : tget tab z with
  | none =>
    rw [g] at h2
    rw [h2]
    dsimp only
    rw [h1]; rfl
  | some d =>
    rw [g] at h2
    obtain ⟨e, v, f1, f2, f3⟩ := h2
    rw [f1]
    exact ⟨e.val, v, rfl, f2, f3⟩
end DL

set_option Elab.async false
set_option backward.match.sparseCases false
set_option linter.all false
set_option maxRecDepth 100000
set_option maxHeartbeats 4000000
/-! DL16: walks over a dict's keys (the dict stands still meanwhile), dict comprehensions. -/
namespace DL
open PySem PySem.Spec PyProof.Rows L2
def onFK (o : Option MO) (k : Obj → List (Key × V) → List (Key × D) → Prop) : Prop := match o with
  | some (.fK od vk kvs) => k od vk kvs
  | _ => False
def onDKo (o : Option MO) (k : List (Key × D) → Prop) : Prop := match o with
  | some (.dK kvs) => k kvs
  | _ => False
section
variable {X : Cx} {W : WX} {pos spos : Pos} {we : WE} {tg iter : Expr} {z : Prop} {i j : Nat}
theorem fk_at {K : PySem.W.Frag} {F H : Hp} {M : Mem} {a : Addr} {od : Obj} {vk : List (Key × V)} {kvs : List (Key × D)} (s : SOk K F H M) (e : M a = some (.fK od vk kvs)) : H a = some (.frz od (.dK vk)) ∧ RepKV K F kvs vk := (s.mem a _ e).2
/-- the dict a is not written while w runs -/
def lockM (M : Mem) (a : Addr) (od : Obj) (vk : List (Key × V)) (kvs : List (Key × D)) : Mem := mup M a (.fK od vk kvs)
theorem lock_in {K : PySem.W.Frag} {F H : Hp} {M : Mem} {a : Addr} {kvs : List (Key × D)} (s : SOk K F H M) (e : M a = some (.dK kvs)) : ∃ vk, H a = some (.dK vk) ∧ RepKV K F kvs vk ∧ ∀ od, SOk K F (upd H a (.frz od (.dK vk))) (mup M a (.fK od vk kvs)) := by
  obtain ⟨_, vk, h1, h2⟩ := s.mem a _ e
  exact ⟨vk, h1, h2, fun od => s.put (.inr ⟨_, e⟩) ⟨upd_same, h2⟩⟩
theorem lock_out {K : PySem.W.Frag} {F H : Hp} {M : Mem} {a : Addr} {od : Obj} {vk : List (Key × V)} {kvs : List (Key × D)} (s : SOk K F H M) (e : M a = some (.fK od vk kvs)) : SOk K F (upd H a (.dK vk)) (mup M a (.dK kvs)) := s.put (.inr ⟨_, e⟩) ⟨vk, upd_same, (fk_at s e).2⟩
/-- the store behind the walk -/
def unl (a : Addr) (od : Obj) (vk : List (Key × V)) (kvs : List (Key × D)) (R : Mem → Prop) (M : Mem) : Prop := M a = some (.fK od vk kvs) ∧ R (mup M a (.dK kvs))
/-- an expression under the lock of the dict in slot i -/
def wLkE (i : Nat) (we : WE) : WE := fun Γ M R _ => match gt Γ i with
  | some (.ref a) => onDKo (M a) fun kvs => ∀ od vk, we Γ (mup M a (.fK od vk kvs)) (fun d => unl a od vk kvs (R d)) FX
  | _ => False
def wLkS (i : Nat) (w : WS) : WS := fun R Γ M => match gt Γ i with
  | some (.ref a) => onDKo (M a) fun kvs => ∀ od vk, w { nx := fun Γ1 => unl a od vk kvs (R.nx Γ1), rt := fun d => unl a od vk kvs (R.rt d), bk := fun Γ1 => unl a od vk kvs (R.bk Γ1), ct := fun Γ1 => unl a od vk kvs (R.ct Γ1), ex := fun _ _ _ _ => False } Γ (mup M a (.fK od vk kvs))
  | _ => False
theorem qlk {e : Expr} (i : Nat) (h : QE X W e we) : QE X W e (wLkE i we) := pe_imp (pe_lock h) fun σ H Q ⟨F, Γ, M, R, RX, s, e, w, hq, hx⟩ => by
  unfold wLkE at w
  split at w
  · rename_i a g
    unfold onDKo at w
    split at w
    · rename_i kvs hm
      obtain ⟨vk, h1, h2, h3⟩ := lock_in s hm
      refine ⟨a, .dK vk, h1, trivial, fun od => ⟨F, Γ, _, _, FX, h3 od, e, w od vk, fun d M1 F1 H1 v ⟨u1, u2⟩ s1 k1 r1 => ?_, fun _ _ _ _ _ _ _ h => h.elim⟩⟩
      exact ⟨(fk_at k1 u1).1, hq _ _ _ _ _ u2 s1 (lock_out k1 u1) r1⟩
    · exact w.elim
  · exact w.elim
theorem slk {st : Stmt} {w : WS} (i : Nat) (h : QS X W st w) : QS X W st (wLkS i w) := ps_imp (ps_lock h) fun D σ H ⟨F, Γ, M, R, s, e, w, o⟩ => by
  unfold wLkS at w
  split at w
  · rename_i a g
    unfold onDKo at w
    split at w
    · rename_i kvs hm
      obtain ⟨vk, h1, h2, h3⟩ := lock_in s hm
      refine ⟨a, .dK vk, h1, trivial, fun od => ⟨F, Γ, _, _, h3 od, e, w od vk, ?_⟩⟩
      refine ⟨fun Γ1 M1 F1 σ1 H1 ⟨u1, u2⟩ s1 k1 e1 => ⟨(fk_at k1 u1).1, o.nx _ _ _ _ _ u2 s1 (lock_out k1 u1) e1⟩, fun d M1 F1 H1 v ⟨u1, u2⟩ s1 k1 r1 => ⟨(fk_at k1 u1).1, o.rt _ _ _ _ _ u2 s1 (lock_out k1 u1) r1⟩,
        fun Γ1 M1 F1 σ1 H1 ⟨u1, u2⟩ s1 k1 e1 => ⟨(fk_at k1 u1).1, o.bk _ _ _ _ _ u2 s1 (lock_out k1 u1) e1⟩, fun Γ1 M1 F1 σ1 H1 ⟨u1, u2⟩ s1 k1 e1 => ⟨(fk_at k1 u1).1, o.ct _ _ _ _ _ u2 s1 (lock_out k1 u1) e1⟩, fun _ _ _ _ _ _ _ _ _ h => h.elim⟩
    · exact w.elim
  · exact w.elim
/-- over the keys of a dict that stands still -/
def wiKeys (we : WE) : WI := fun Γ M P RX => we Γ M (fun d M1 => match d with
  | .ref a => onFK (M1 a) fun od vk kvs => kvs.length ≤ 16777216 ∧ P (kvs.map fun kv => kD kv.1) (fun M => M a = some (.fK od vk kvs)) M1
  | _ => False) RX
theorem rep_kD {K : PySem.W.Frag} {F : Hp} (k : Key) : Rep K F (kD k) (kV k) := by cases k <;> exact rfl
theorem RepKV.ix {κ : Type} {K : PySem.W.Frag} {F : Hp} {k : κ} {v : V} : ∀ {ds : List (κ × D)} {vs : List (κ × V)} {i : Nat}, RepKV K F ds vs → vs[i]? = some (k, v) → ∃ d, ds[i]? = some (k, d) ∧ Rep K F d v
  | [], _, i, h, e => by cases h; simp at e
  | (k', d) :: ds, _, 0, ⟨v', r, ev, h1, h2⟩, e => by
    subst ev
    simp only [List.getElem?_cons_zero, Option.some.injEq, Prod.mk.injEq] at e
    obtain ⟨rfl, rfl⟩ := e
    exact ⟨d, rfl, h1⟩
  | (k', d) :: ds, _, i + 1, ⟨v', r, ev, h1, h2⟩, e => by
    subst ev
    obtain ⟨d2, a, b⟩ := RepKV.ix (i := i) h2 (by simpa using e)
    exact ⟨d2, by simpa using a, b⟩
theorem walks_keys {K : PySem.W.Frag} {F0 : Hp} {a : Addr} {od : Obj} {vk : List (Key × V)} {kvs : List (Key × D)} : Walks K (Itk a od vk) F0 (fun M => M a = some (.fK od vk kvs)) (kvs.map fun kv => kD kv.1) where
  go := fun F H M i _ k c hi => by
    obtain ⟨h1, h2⟩ := fk_at k c
    exact ⟨h1, by rw [h2.len]; simpa using hi⟩
  yld := fun F H M i x H' _ k c hi y => by
    obtain ⟨h1, h2⟩ := fk_at k c
    obtain ⟨e, key, v, hv, ex⟩ := y
    obtain ⟨d, hd, _⟩ := h2.ix hv
    refine ⟨e, kD key, by rw [List.getElem?_map, hd]; rfl, ?_⟩
    rw [ex]; exact rep_kD key
  stop := fun F H M _ k c => by
    obtain ⟨h1, h2⟩ := fk_at k c
    exact ⟨h1, by rw [h2.len]; simp⟩
theorem ikeys (h : QE X W iter we) : QI X W z tg iter (wiKeys we) := pi_imp (pi_keys h) fun σ H R ⟨F, Γ, M, P, RX, s, e, w, hq, hx⟩ => ⟨F, Γ, M, _, RX, s, e, w, fun d M1 F1 H1 v h1 s1 k1 r1 => by
  cases d with
  | ref a =>
    cases r1
    simp only at h1
    unfold onFK at h1
    split at h1
    · rename_i od vk kvs hm
      obtain ⟨hl, h1⟩ := h1
      obtain ⟨g1, g2⟩ := fk_at k1 hm
      exact ⟨a, od, rfl, .inl ⟨vk, g1, hq _ _ M1 F1 H1 _ h1 (fun _ => by rw [List.length_map, sizeLine_eq]; exact hl) s1 k1 hm walks_keys⟩⟩
    · exact h1.elim
  | _ => exact h1.elim, hx⟩
/-! ### {k: v for x in xs} -/
def dcTurns (Γ : GE) (j : Nat) (tt : WT) (wk wv : WE) (xs : List D) (C : Mem → Prop) (p : Addr) (M1 : Mem) (Z : List (Key × D) → Mem → Prop) : Prop :=
  ∃ I : List D → List (Key × D) → Mem → Prop, I [] [] (mup M1 p (.dK [])) ∧ (∀ pre x post out M, xs = pre ++ x :: post → I pre out M → C M ∧
    tt (st Γ j x) M (fun b M2 => if b = true then wk (st Γ j x) M2 (fun y M3 => wv (st Γ j x) M3 (fun z M4 => ∃ k, y = kD k ∧ M4 p = some (.dK out) ∧ I (pre ++ [x]) (vput out k z) (mup M4 p (.dK (vput out k z)))) FX) FX else I (pre ++ [x]) out M2) FX) ∧
    ∀ out M, I xs out M → C M ∧ Z out M
def wDc (j : Nat) (wi : WI) (tt : WT) (wk wv : WE) : WE := fun Γ M R RX => wi Γ M (fun xs C M1 => ∀ p, M1 p = none → dcTurns Γ j tt wk wv xs C p M1 fun _ M => R (.ref p) M) RX
theorem dc_walk {wi : WI} {tt : WT} {wk wv : WE} {σ : L2.St} {H : Hp} {Q : VK} {F : Hp} {Γ : GE} {M : Mem} {R : DK} {RX : DX} (s : SOk X.K F H M) (e : REnv X.K F Γ σ)
    (w : wi Γ M (fun xs C M1 => ∀ p, M1 p = none → dcTurns Γ j tt wk wv xs C p M1 fun _ M => R (.ref p) M) RX) (hx : RXok X.K W F σ RX) (hq : ∀ d M' F' H' v, R d M' → Same F F' → SOk X.K F' H' M' → Rep X.K F' d v → Q v H') :
    tDc (lI X.K W True wi) (gName j) (lT X.K W0 tt) (lE X.K W0 wk) (lE X.K W0 wv) [j] σ H Q := by
  refine ⟨F, Γ, M, _, RX, s, e, w, fun xs C M1 F1 H1 J h1 hz s1 k1 c1 wk' D0 hD => ?_, hx⟩
  have hz := hz True.intro
  have nX : ∀ F2 σ2, RXok X.K W0 F2 σ2 FX := fun _ _ _ _ _ _ _ _ _ h => h.elim
  have n1 := (k1.free hD).2
  have k2 : SOk X.K F1 (upd H1 D0 (.dK [])) (mup M1 D0 (.dK [])) := k1.put (.inl hD) ⟨[], upd_same, rfl⟩
  obtain ⟨I, h0, step, fin'⟩ := h1 D0 n1
  refine ⟨fun i m H2 => ∃ F2 M2 out, Same F1 F2 ∧ SOk X.K F2 H2 M2 ∧ i + m = xs.length ∧ out.length ≤ i ∧ I (xs.take i) out M2, ⟨xs.length, F1, _, [], Same.refl F1, k2, by simp, Nat.le_refl _, by simpa using h0⟩, ?_⟩
  rintro i m H2 ⟨F2, M2, acc, s2, k2, him, hol, h2⟩
  by_cases hlt : i < xs.length
  · have spl : xs = xs.take i ++ xs[i] :: xs.drop (i + 1) := by rw [List.getElem_cons_drop, List.take_append_drop]
    obtain ⟨c2, h3⟩ := step _ _ _ acc M2 spl h2
    refine .inr ⟨wk'.go F2 H2 M2 i s2 k2 c2 hlt, fun H' => ∃ F3 M3 out, Same F1 F3 ∧ SOk X.K F3 H' M3 ∧ out.length ≤ i + 1 ∧ I (xs.take (i + 1)) out M3, fun H' ⟨F3, M3, out, a, b, c, d⟩ => ⟨m - 1, by omega, F3, M3, out, a, b, by omega, c, d⟩, fun x H' y => ?_⟩
    obtain ⟨eH, d, hd, rd⟩ := wk'.yld F2 H2 M2 i x H' s2 k2 c2 hlt y
    subst eH
    have ed : d = xs[i] := by rw [List.getElem?_eq_getElem hlt] at hd; exact (Option.some.inj hd).symm
    subst ed
    have tk : xs.take (i + 1) = xs.take i ++ [xs[i]] := List.take_succ_eq_append_getElem hlt
    refine tg_name j F2 Γ σ H' M2 x _ (fun Γ1 => Γ1 = st Γ j xs[i]) _ rd k2 (e.mono (s1.trans s2)) rfl fun Γ1 σ1 h4 e1 ew => ?_
    subst h4
    refine ⟨ew, F2, _, M2, _, _, k2, e1, h3, fun k M3 F3 H3 h4 s3 k3 => ?_, nX _ _⟩
    cases k with
    | false => exact iteF ⟨F3, M3, acc, s2.trans s3, k3, by omega, by rw [tk]; simpa using h4⟩
    | true =>
      refine iteT ⟨F3, _, M3, _, _, k3, e1.mono s3, by simpa using h4, fun y M4 F4 H4 vy h5 s4 k4 r4 => ?_, nX _ _⟩
      refine ⟨F4, _, M4, _, _, k4, e1.mono (s3.trans s4), h5, fun z M5 F5 H5 vz h6 s5 k5 r5 => ?_, nX _ _⟩
      obtain ⟨key, ey, hp, h6⟩ := h6
      subst ey
      obtain ⟨hF, vk, hv, rk⟩ := k5.mem D0 _ hp
      have evy : vy = kV key := by cases key <;> exact r4
      have hl : vk.length < sizeLine := by rw [rk.len]; omega
      exact ⟨vk, key, evy, hv, hl, F5, _, vput acc key z, ((s2.trans s3).trans s4).trans s5, k5.put (mo := .dK (vput acc key z)) (.inr ⟨_, hp⟩) ⟨_, upd_same, rk.put key r5⟩, Nat.le_trans (vput_len _ _ _) (by omega), h6⟩
  · have ei : i = xs.length := by omega
    subst ei
    rw [List.take_length] at h2
    obtain ⟨c2, hZ⟩ := fin' acc M2 h2
    exact .inl ⟨wk'.stop F2 H2 M2 s2 k2 c2, hq _ _ _ _ _ hZ (s1.trans s2) k2 rfl⟩
theorem sw_trueD {kx vx : Expr} {gs : List Comprehension} {scope : Scope} {pos py : Pos} {y : Str} {l : Nat} {env : Env} (hk : env.scope.kind = .function) (hy : env.scope.names.lookup y = some .local) (hl : (py.line == pos.line) = true)
    (ha : (scope.names.any fun (n, k) => n == y && (k == .local || k == .cell)) = false) : swapsWith (.DictComp kx vx gs scope pos) (some (.Name y py)) l env = pure true := by
  have ky : env.kindOf y = some .local := hy
  have hb : env.blockKind = .function := by unfold Env.blockKind; rw [hk]; rfl
  unfold swapsWith
  simp only [hb, ky, ha, Expr.pos, hl]
  rfl
theorem ps_setDc {i : Nat} {y : Str} {py : Pos} {kx vx tg iter : Expr} {ifs : List Expr} {scope : Scope} {own : List (Str × Nat)} {pos spos : Pos} {wi : TI} {g : TG} {tt : TT} {tk tv : TE} (hc : X.calm = true) (hN : X.N.Nodup) (hy : X.N[i]? = some y) (hyl : X.env.scope.names.lookup y = some .local)
    (hsw : swapsWith (.DictComp kx vx [⟨tg, iter, ifs, 0⟩] scope pos) (some (.Name y py)) spos.line X.env = pure true) (hi : PI X tg iter wi) (ok : BlkOk X.N X.env.scope scope own)
    (hg : ∀ (s : Shared) (H : Hp) (C : Addr) (cl : List (Str × Addr)) (fp : List Addr), PG (X.blk s H scope (compEnvC scope cl C X.env) fp) tg g) (ht : ∀ (s : Shared) (H : Hp) (C : Addr) (cl : List (Str × Addr)) (fp : List Addr), PTs (X.blk s H scope (compEnvC scope cl C X.env) fp) ifs tt)
    (hk : ∀ (s : Shared) (H : Hp) (C : Addr) (cl : List (Str × Addr)) (fp : List Addr), PE (X.blk s H scope (compEnvC scope cl C X.env) fp) kx tk)
    (he : ∀ (s : Shared) (H : Hp) (C : Addr) (cl : List (Str × Addr)) (fp : List Addr), PE (X.blk s H scope (compEnvC scope cl C X.env) fp) vx tv) (hs : ∀ x, foldedSetIterable iter X.env x = pure x := by intro _; rfl) :
    PS X (.Assign [.Name y py] (.DictComp kx vx [⟨tg, iter, ifs, 0⟩] scope pos) spos) (tAsg (tDc wi g tt tk tv (own.map (·.2))) (gName i)) := by
  refine ⟨fun pins s σ H D I h => ?_⟩
  rw [exec_Assign_Name_used _ _ _ _ hsw]
  refine wpAny_bind (wpAny_standAt (wpAny_bind ?_))
  show wpAny _ X.A (do let _ ← comprehension (.DictComp kx vx [⟨tg, iter, ifs, 0⟩] scope pos) scope X.env (firstIterPos [⟨tg, iter, ifs, 0⟩] pos) newDict false (eval iter X.env) (some (assign (.Name y py) X.env))) _ _ s
  have h : tDc wi g tt tk tv (own.map (·.2)) σ H (fun x H1 => gName i x σ H1 D.nx) := h
  refine wpAny_bind (thn (dc_core (Qf := fun _ s' => SP X pins D .next s') hc hN I hi ok hg ht hk he hs h fun L C s' m H' I' q hn f => ?_) fun _ s' hq => wpAny_pure (wpAny_pure hq))
  show wpAny _ _ (assign (.Name y py) X.env (.ref L)) _ _ _
  refine wpAny_assign_Name (store_ok2 (v := V.ref L) I' hN hy (.inl hyl) rfl (fun s2 I2 ⟨a, sb, ha⟩ => ?_) (.inr hyl))
  obtain ⟨f0, f1, f2, f3, f4, f5⟩ := f
  have haC : C ≠ a := by
    rcases ha with z | z
    · rw [z]; exact f1
    · exact fun e => f4 y a z e.symm
  refine ⟨m, hn.sameBut sb haC, fun h3 sb3 => ?_⟩
  exact ⟨_, H', I2.turned (t' := s2.toks) (fun b o hb e => (sb3.2 b hb).trans e) f0 f1 f3 f4 f5, q⟩
abbrev BlkR (X : Cx) (scope : Scope) (P : Cx → Prop) : Prop := ∀ (s : Shared) (H : Hp) (C : Addr) (cl : List (Str × Addr)) (fp : List Addr), P (X.blk s H scope (compEnvC scope cl C X.env) fp)
theorem qdc {kx vx tg iter : Expr} {ifs : List Expr} {scope : Scope} {j : Nat} {y : Str} {wi : WI} {tt : WT} {wk wv : WE} (hN : X.N.Nodup) (ok : blkC X.N X.env.scope scope [(y, j)] = true) (hi : QI X W True tg iter wi)
    (hg : BlkR X scope fun Y => PG Y tg (gName j)) (ht : BlkR X scope fun Y => QTs Y W0 ifs tt) (hk : BlkR X scope fun Y => QE Y W0 kx wk) (hv : BlkR X scope fun Y => QE Y W0 vx wv) (hc : X.calm = true := by rfl) (hs : ∀ x, foldedSetIterable iter X.env x = pure x := by intro _; rfl) :
    QE X W (.DictComp kx vx [⟨tg, iter, ifs, 0⟩] scope pos) (wDc j wi tt wk wv) := pe_imp (pe_dc hc hN hi (blkOk_by ok) hg ht hk hv hs) fun σ H Q ⟨F, Γ, M, R, RX, s, e, w, hq, hx⟩ => dc_walk s e w hx hq
theorem ssetDc {kx vx tg iter : Expr} {ifs : List Expr} {scope : Scope} {i j : Nat} {y z : Str} {py : Pos} {wi : WI} {tt : WT} {wk wv : WE} (hN : X.N.Nodup) (ok : blkC X.N X.env.scope scope [(y, j)] = true) (hi : QI X W True tg iter wi)
    (hg : BlkR X scope fun Y => PG Y tg (gName j)) (ht : BlkR X scope fun Y => QTs Y W0 ifs tt) (hk : BlkR X scope fun Y => QE Y W0 kx wk) (hv : BlkR X scope fun Y => QE Y W0 vx wv) (hc : X.calm = true := by rfl) (hz : X.N[i]? = some z := by rfl) (hzl : X.env.scope.names.lookup z = some .local := by rfl)
    (hkf : X.env.scope.kind = .function := by rfl) (hl : (py.line == pos.line) = true := by rfl) (hq : (scope.names.any fun (n, k) => n == z && (k == .local || k == .cell)) = false := by decide +kernel) (hs : ∀ x, foldedSetIterable iter X.env x = pure x := by intro _; rfl) :
    QS X W (.Assign [.Name z py] (.DictComp kx vx [⟨tg, iter, ifs, 0⟩] scope pos) spos) (wSet i (wDc j wi tt wk wv)) :=
  sset i (ps_setDc hc hN hz hzl (sw_trueD hkf hzl hl hq) hi (blkOk_by ok) hg ht hk hv hs) fun σ H Q ⟨F, Γ, M, R, RX, s, e, w, hq, hx⟩ => dc_walk s e w hx hq
end
end DL

set_option Elab.async false
set_option backward.match.sparseCases false
set_option linter.all false
set_option maxRecDepth 100000
set_option maxHeartbeats 4000000
/-! DL17: max of a tuple, tuple * int, dict(pairs), sorted texts, the keys of a dict, bit lengths. -/
namespace DL
open PySem PySem.Spec PyProof.Rows L2
/-! ### max of a tuple -/
section
variable {prog : Program} {w : World} {A : Around} {E : Value → Shared → Prop} {s : Shared} {l : Addr} {its : List Value} {ns : List Int} {Q : Value → Shared → Prop}
theorem max_rawT (hh : A.handled = none) (hl : s.heap.IsTuple l its.toArray) (hi : IntsAre its ns) (hne : 0 < ns.length)
    (h : ∀ h' tk M t', (∀ b o, s.heap.get? b = some o → h'.get? b = some o) → M ∈ ns → (∀ a, a ∈ ns → a ≤ M) → Q (.int M t') { s with heap := h', toks := tk }) : wpAny (model prog w) A (call (.builtin "max") [.ref l]) Q E s := by
  obtain ⟨xs, e⟩ := hi.allInts.items
  have hn : numsOf (intItems xs).toList = ns := by rw [← e]; exact hi.numsOf
  rw [nums_intItems] at hn
  subst hn
  rw [e] at hl
  have hsz : 0 < xs.size := by simpa using hne
  refine call_max_walkH (PySem.W.iter_tupleW (A := A.in1) hh hl fun s₂ e W st hfp hw hk => ?_)
  refine ⟨_, _, _, _, _, _, _, s.heap, _, rfl, W, st, hfp, by simpa [intItems] using hsz, hw, hk, fun i j vi vj s' Q' E' _ hi hj hq => CmpOf.ints_gt (numAt xs) (fun _ _ => intItems_at) i j vi vj s' Q' E' hi hj hq, fun v s' hP m => ?_⟩
  obtain ⟨h', tk, rfl, hk'⟩ := PySem.W.moved_old e rfl m
  have hP : (intItems xs)[argBest (fun i j => decide (numAt xs i > numAt xs j)) (xs.size - 1)]? = some v := by simpa [intItems] using hP
  obtain ⟨t, rfl⟩ := intItems_at hP
  obtain ⟨h1, h2⟩ := argBest_gt (numAt xs) (xs.size - 1)
  refine h h' tk _ t hk' ?_ fun a ha => ?_
  · rw [numAt_eq]; exact PySem.getD_mem (by rw [List.length_map, Array.length_toList]; omega)
  · obtain ⟨j, hj, rfl⟩ := mem_getD ha
    rw [List.length_map, Array.length_toList] at hj
    rw [← numAt_eq]; exact h2 j (by omega)
end
def rMaxT (K : PySem.W.Frag) : List V → Hp → VK → Prop := fun vs H Q => ∃ (a : Addr) (ns : List Int), vs = [V.ref a] ∧ SqT K H a (ns.map V.int) ∧ 0 < ns.length ∧ ∀ m, m ∈ ns → (∀ y, y ∈ ns → y ≤ m) → Q (.int m) H
section
variable {X : Cx}
theorem isTuple_of {h : Heap} {a : Addr} {items : Array Value} (t : IsTup h a items) : h.IsTuple a items := by
  obtain ⟨o, e, c, n, d⟩ := t
  exact ⟨o, e, c, n, d⟩
theorem cr_maxT (hc : X.calm = true) : CallR X (.builtin "max") (rMaxT X.K) := by
  intro pins s σ H vs us Q I r h
  obtain ⟨a, ns, rfl, hs, hne, q⟩ := h
  obtain ⟨its, rv, hl, _⟩ := I.tuple hs
  rw [Vals.ref1 r]
  exact max_rawT (I.ok.hd hc) (isTuple_of hl) rv.ints hne fun h' tk m t' hk h1 h2 => ⟨.int _, H, I.kept hk, ⟨_, rfl⟩, q m h1 h2⟩
end
def maxL : List Int → Int
  | [] => 0
  | [x] => x
  | x :: xs => max x (maxL xs)
theorem maxL_mem : ∀ {ns : List Int}, ns ≠ [] → maxL ns ∈ ns
  | [x], _ => List.mem_singleton.mpr rfl
  | x :: y :: r, _ => by
    have := maxL_mem (ns := y :: r) (by simp)
    show max x (maxL (y :: r)) ∈ x :: y :: r
    rcases Int.le_total x (maxL (y :: r)) with h | h
    · rw [Int.max_eq_right h]; exact List.mem_cons_of_mem _ this
    · rw [Int.max_eq_left h]; exact List.mem_cons_self
theorem le_maxL : ∀ {ns : List Int} {y : Int}, y ∈ ns → y ≤ maxL ns
  | [x], y, h => by rw [List.mem_singleton.mp h]; exact Int.le_refl _
  | x :: z :: r, y, h => by
    show y ≤ max x (maxL (z :: r))
    rcases List.mem_cons.mp h with rfl | h
    · exact Int.le_max_left _ _
    · exact Int.le_trans (le_maxL h) (Int.le_max_right _ _)
/-- max of two ints, of a list or a tuple of ints -/
def cMaxQ : OC := fun ds M R => match ds with
  | [.int i, .int j] => R (.int (max i j)) M
  | [d] => ∃ ns, (asL d M = some (ns.map D.int) ∨ asT d = some (ns.map D.int)) ∧ ns ≠ [] ∧ R (.int (maxL ns)) M
  | _ => False
theorem lMaxQ {K : PySem.W.Frag} : LCall K (fun xs H Q => ((∃ i j, xs = [.int i, .int j] ∧ Q (.int (if j > i then j else i)) H) ∨ rMax K xs H Q) ∨ rMaxT K xs H Q) cMaxQ := by
  intro ds vs F H M R Q s r h q
  unfold cMaxQ at h
  split at h
  · rename_i i j
    obtain ⟨v, v', rfl, rv, rv'⟩ := reps2 r
    cases rv; cases rv'
    refine .inl (.inl ⟨_, _, rfl, ?_⟩)
    have e : (if j > i then j else i) = max i j := by split <;> omega
    rw [e]
    exact q _ _ _ _ _ h (Same.refl F) s rfl
  · rename_i d
    obtain ⟨v, rfl, rv⟩ := reps1 r
    obtain ⟨ns, e1, hne, h⟩ := h
    have le : 0 < ns.length := by cases ns with | nil => exact absurd rfl hne | cons _ _ => simp
    have mx : ∀ m, m ∈ ns → (∀ y, y ∈ ns → y ≤ m) → m = maxL ns := fun m h1 h2 => Int.le_antisymm (le_maxL h1) (h2 _ (maxL_mem hne))
    rcases e1 with e1 | e1
    · obtain ⟨a, vs, ea, ha, za, ga⟩ := rep_L s rv e1
      subst ea
      have e := ga.ints
      subst e
      exact .inl (.inr ⟨a, ns, rfl, ha, le, fun m h1 h2 => by rw [mx m h1 h2]; exact q _ _ _ _ _ h (Same.refl F) s rfl⟩)
    · obtain ⟨a, vs, ea, ha, za, ga⟩ := rep_T s rv e1
      subst ea
      have e := ga.ints
      subst e
      exact .inr ⟨a, ns, rfl, ha, le, fun m h1 h2 => by rw [mx m h1 h2]; exact q _ _ _ _ _ h (Same.refl F) s rfl⟩
  · exact h.elim
/-! ### tuple * int -/
theorem tuple_mulSame (l : Addr) (items : Array Value) (n : Nat) (dd : Option Addr) (sl : Array (Option Value)) (u : Tok) :
    Meets (Builtin.«tuple.__mul__» ⟨[.ref l, .int 1 u], []⟩) (fun _ R s => s.heap.get? l = some { cls := .type "tuple", dict := dd, data := .seq items n, slots := sl } ∧ R (.ok (.ret (Value.ref l))) s) :=
  .of_wp fun prog w A R s h => by
    obtain ⟨hp, g, d, tk, os⟩ := s
    obtain ⟨hl, h⟩ := h
    have f1 := AutoSeq1.idx_int
    have c1 : (items.isEmpty || (1 : Int) == 1) = true := by rw [show ((1 : Int) == 1) = true from rfl, Bool.or_true]
    wp_walk using wpAny_loadPart' hl
    repeat (first
      | (refine wpAny_ite_true (decide_eq_true c1) ?_; wp_walk using wpAny_loadPart' hl)
      | (refine wpAny_ite_true c1 ?_; wp_walk using wpAny_loadPart' hl))
    exact ⟨_, rfl, h⟩
def rRepT1 (K : PySem.W.Frag) : R2 := fun x y H Q => ∃ l xs, x = .ref l ∧ y = .int 1 ∧ SqT K H l xs ∧ Q (.ref l) H
section
variable {X : Cx}
theorem op_repT1 : OpR X (binaryOp .Mult) (rRepT1 X.K) := by
  intro pins s σ H x y v u Q I rx ry h
  obtain ⟨l, xs, rfl, rfl, hT, q⟩ := h
  cases rx
  obtain ⟨t, rfl⟩ := ry
  obtain ⟨its, r, ⟨⟨cls, dd, data, sl⟩, ho, hc, n, hd⟩, hs⟩ := I.tuple hT
  simp only at hc hd
  subst hc hd
  refine wpAny_binaryOp_repeat_ref (T := "tuple") (U := "int") (by decide) ⟨_, ho, rfl⟩ (fun s' => typeIs_int s' 1 t) noFill_tuple_mul F.fills_int_mul F.slot_int_rmul repeat_tuple F.slot_int_index.lookup
    (call_meets F.slot_int_rmul (typeIs_int s 1 t) F.entry_int_rmul (F.args_int_rmul_2 _ _) (int_rmul_tuple 1 t l its.toArray n dd sl)
      ⟨ho, rfl, ⟨_, ho, rfl⟩, call_meets F.slot_tuple_mul ⟨_, ho, rfl⟩ F.entry_tuple_mul (F.args_tuple_mul_2 _ _) (tuple_mulSame l its.toArray n dd sl t) ⟨ho, ?_⟩⟩)
  exact ⟨.ref l, H, I, rfl, q⟩
end
/-- tuple * int, one to a thousand times -/
def fMulT : OD := fun x y M R => match y with
  | .int k => (match asT x with
    | some xs => (xs ≠ [] ∧ 1 ≤ k ∧ k ≤ 1000 ∧ xs.length ≤ 1000) ∧ R (.tup (List.replicate k.toNat xs).flatten) M
    | none => False)
  | _ => False
section
variable {X : Cx} {W : WX} {a b : Expr} {wa wb : WE} {pos : Pos}
theorem qmulT (ha : QE X W a wa) (hb : QE X W b wb) : QE X W (.BinOp a .Mult b pos) (wOp fMulT wa wb) := qop (op_repT.or op_repT1) (by
  intro x y vx vy F H M R Q s rx ry h q
  unfold fMulT at h
  split at h
  · rename_i k
    cases e1 : asT x with
    | none => rw [e1] at h; exact h.elim
    | some xs =>
      rw [e1] at h
      obtain ⟨a, vs, ea, ha, za, ga⟩ := rep_T s rx e1
      cases ry
      obtain ⟨⟨h0, h1, h2, h3⟩, h4⟩ := h
      by_cases e : k = 1
      · subst e
        obtain ⟨a', vs', ea', ha', za', ga'⟩ := rep_TF rx e1
        have e3 : (List.replicate (1 : Int).toNat xs).flatten = xs := by simp
        rw [e3] at h4
        exact .inr ⟨a', vs', ea', rfl, sameT s.sub ha', q _ _ _ _ _ h4 (Same.refl F) s (by subst ea'; exact ⟨a', vs', rfl, ha', za', ga'⟩)⟩
      · refine .inl ⟨a, k, vs, ea, rfl, ha, fun z => h0 (by rw [z] at ga; have := ga.len; cases xs with | nil => rfl | cons _ _ => cases this), by omega, h2, by rw [ga.len]; exact h3, fun p hp => ?_⟩
        have zz : (List.replicate k.toNat vs).flatten.length ≤ sizeLine := by
          rw [flat_len, ga.len, sizeLine_eq]
          have a1 : xs.length * k.toNat ≤ 1000 * 1000 := Nat.mul_le_mul h3 (by omega)
          omega
        obtain ⟨F2, s2, k2, r2⟩ := rep_tup s hp zz (Reps.flat k.toNat ga)
        exact q _ _ _ _ _ h4 s2 k2 r2
  · exact h.elim) ha hb
end
/-! ### dict(pairs), list(dict), sorted -/
def prD (kv : Key × D) : D := .tup [kD kv.1, kv.2]
def mergeD (kvs : List (Key × D)) : List (Key × D) := kvs.foldl (fun acc kv => vput acc kv.1 kv.2) []
def cDictP : OC := fun ds M R => match ds with
  | [d] => ∃ kvs : List (Key × D), asL d M = some (kvs.map prD) ∧ ∀ p, M p = none → R (.ref p) (mup M p (.dK (mergeD kvs)))
  | _ => False
theorem merge_rep {K : PySem.W.Frag} {F : Hp} : ∀ {kvs : List (Key × D)} {vk : List (Key × V)} {a1 : List (Key × D)} {a2 : List (Key × V)}, RepKV K F kvs vk → RepKV K F a1 a2 →
    RepKV K F (kvs.foldl (fun acc kv => vput acc kv.1 kv.2) a1) (vk.foldl (fun acc kv => putK acc kv.1 kv.2) a2)
  | [], vk, a1, a2, h, g => by cases h; exact g
  | (k, d) :: r, vk, a1, a2, ⟨v, r', e, h1, h2⟩, g => by
    subst e
    show RepKV K F (r.foldl (fun acc kv => vput acc kv.1 kv.2) (vput a1 k d)) (r'.foldl (fun acc kv => putK acc kv.1 kv.2) (putK a2 k v))
    exact merge_rep (kvs := r) (vk := r') h2 (g.put k h1)
theorem pairs_rep {K : PySem.W.Frag} {F H : Hp} {M : Mem} (s : SOk K F H M) : ∀ {kvs : List (Key × D)} {vs : List V}, Reps K F (kvs.map prD) vs → ∃ ps vk, vs = ps.map V.ref ∧ RepKV K F kvs vk ∧ Paired (fun p kv => SqT K H p [kV kv.1, kv.2]) ps vk
  | [], vs, h => by cases h; exact ⟨[], [], rfl, rfl, .nil⟩
  | (k, d) :: r, vs, ⟨v, r', e, h1, h2⟩ => by
    subst e
    obtain ⟨ps, vk, e1, e2, e3⟩ := pairs_rep s h2
    obtain ⟨a, us, ea, ha, za, ga⟩ := rep_T s h1 (ds := [kD k, d]) rfl
    obtain ⟨u1, u2, eu, g1, g2⟩ := reps2 ga
    subst eu ea e1
    have ek : u1 = kV k := by cases k <;> exact g1
    subst ek
    exact ⟨a :: ps, (k, u2) :: vk, rfl, ⟨u2, vk, rfl, g2, e2⟩, .cons ha e3⟩
theorem lDictP {K : PySem.W.Frag} : LCall K (fun xs H Q => ∃ (a : Addr) (ps : List Addr) (kvs : List (Key × V)), xs = [.ref a] ∧ SqL K H a (ps.map V.ref) ∧ Paired (fun p kv => SqT K H p [kV kv.1, kv.2]) ps kvs ∧
    ∀ p, H p = none → Q (.ref p) (upd H p (.dK (mergeK [] kvs)))) cDictP := by
  intro ds vs F H M R Q s r h q
  unfold cDictP at h
  split at h
  · rename_i d
    obtain ⟨v, rfl, rv⟩ := reps1 r
    obtain ⟨kvs, e1, h⟩ := h
    obtain ⟨a, vs, ea, ha, za, ga⟩ := rep_L s rv e1
    subst ea
    obtain ⟨ps, vk, e2, e3, e4⟩ := pairs_rep s ga
    subst e2
    exact ⟨a, ps, vk, rfl, ha, e4, fun p hp => q _ _ _ _ _ (h p (s.free hp).2) (Same.refl F) (s.put (mo := .dK (mergeD kvs)) (.inl hp) ⟨_, upd_same, merge_rep e3 rfl⟩) rfl⟩
  · exact h.elim
/-- the keys of a dict -/
def cListD : OC := fun ds M R => match ds with
  | [.ref a] => onDKo (M a) fun kvs => kvs.length ≤ 16777216 ∧ R (.lst (kvs.map fun kv => kD kv.1)) M
  | _ => False
theorem keys_rep {K : PySem.W.Frag} {F : Hp} : ∀ {kvs : List (Key × D)} {vk : List (Key × V)}, RepKV K F kvs vk → Reps K F (kvs.map fun kv => kD kv.1) (vk.map fun kv => kV kv.1)
  | [], vk, h => by cases h; rfl
  | (k, d) :: r, vk, ⟨v, r', e, h1, h2⟩ => by
    subst e
    exact ⟨kV k, _, rfl, rep_kD k, keys_rep h2⟩
theorem lListD {K : PySem.W.Frag} : LCall K (fun xs H Q => ∃ (a : Addr) (kvs : List (Key × V)), xs = [.ref a] ∧ Rd H a (.dK kvs) ∧ ∀ p, H p = none → Q (.ref p) (upd H p (.lst (kvs.map fun kv => kV kv.1)))) cListD := by
  intro ds vs F H M R Q s r h q
  unfold cListD at h
  split at h
  · rename_i a
    obtain ⟨v, rfl, rv⟩ := reps1 r
    cases rv
    unfold onDKo at h
    split at h
    · rename_i kvs hm
      obtain ⟨hF, vk, h1, h2⟩ := s.mem a _ hm
      refine ⟨a, vk, rfl, .of h1, fun p hp => ?_⟩
      obtain ⟨F2, s2, k2, r2⟩ := rep_lst s hp (by rw [List.length_map, h2.len, sizeLine_eq]; exact h.1) (keys_rep h2)
      exact q _ _ _ _ _ h.2 s2 k2 r2
    · exact h.elim
  · exact h.elim
def cSortS : OC := fun ds M R => match ds with
  | [d] => ∃ xs : List Str, asL d M = some (xs.map D.str) ∧ xs.length < 64 ∧ ∀ ys : List Str, ys.Perm xs → R (.lst (ys.map D.str)) M
  | _ => False
theorem strs_rep {K : PySem.W.Frag} {F : Hp} : ∀ ys : List Str, Reps K F (ys.map D.str) (ys.map V.str)
  | [] => rfl
  | y :: ys => ⟨_, _, rfl, rfl, strs_rep ys⟩
theorem lSortS {K : PySem.W.Frag} : LCall K (rSortedS K) cSortS := by
  intro ds vs F H M R Q s r h q
  unfold cSortS at h
  split at h
  · rename_i d
    obtain ⟨v, rfl, rv⟩ := reps1 r
    obtain ⟨xs, e1, hl, h⟩ := h
    obtain ⟨a, vs, ea, ha, za, ga⟩ := rep_L s rv e1
    subst ea
    have e := ga.strs
    subst e
    refine ⟨a, xs, rfl, ha, hl, fun ys p hp hs hn => ?_⟩
    obtain ⟨F2, s2, k2, r2⟩ := rep_lst s hn (by rw [List.length_map, hp.length_eq]; exact small64 hl) (strs_rep ys)
    exact q _ _ _ _ _ (h ys hp) s2 k2 r2
  · exact h.elim
/-! ### bit lengths -/
def wBits (we : WE) : WE := fun Γ M R RX => we Γ M (fun d M1 => match d with
  | .int i => R (.int (Builtin.Int.intBits i : Nat)) M1
  | _ => False) RX
theorem qbits {X : Cx} {W : WX} {o : Expr} {we : WE} {pos apos : Pos} (h : QE X W o we) (hbase : attributeBase o "bit_length" X.env (eval o X.env) = eval o X.env := by rfl) (hline : (apos.endLine == pos.line) = true := by rfl) : QE X W (.Call (.Attribute o "bit_length" apos) [] [] pos) (wBits we) :=
  pe_imp (pe_bits h hbase hline) fun σ H Q ⟨F, Γ, M, R, RX, s, e, w, hq, hx⟩ => ⟨F, Γ, M, _, RX, s, e, w, fun d M1 F1 H1 v h1 s1 k1 r1 => by
    cases d with
    | int i => cases r1; exact ⟨i, rfl, hq _ _ _ _ _ h1 s1 k1 rfl⟩
    | _ => exact h1.elim, hx⟩
/-! ### in equations -/
section
variable {Γ : GE} {M : Mem} {R : DK} {RX : DX} {i j : Int} {ns : List Int} {xs : List D} {a : Addr} {kvs : List (Key × D)} {we : WE}
theorem e_maxQ2 : cMaxQ [.int i, .int j] M R = R (.int (max i j)) M := (rfl)
theorem e_mulT : fMulT (.tup xs) (.int j) M R = ((xs ≠ [] ∧ 1 ≤ j ∧ j ≤ 1000 ∧ xs.length ≤ 1000) ∧ R (.tup (List.replicate j.toNat xs).flatten) M) := (rfl)
theorem e_bits : wBits we Γ M R RX = we Γ M (fun d M1 => match d with
  | .int i => R (.int (Builtin.Int.intBits i : Nat)) M1
  | _ => False) RX := (rfl)
theorem maxQ_t (h : ns ≠ []) (q : R (.int (maxL ns)) M) : cMaxQ [.tup (ns.map D.int)] M R := ⟨ns, .inr rfl, h, q⟩
theorem maxQ_l (h : ns ≠ []) (q : R (.int (maxL ns)) M) : cMaxQ [.lst (ns.map D.int)] M R := ⟨ns, .inl rfl, h, q⟩
end
end DL

set_option Elab.async false
set_option linter.all false
set_option maxRecDepth 100000
set_option maxHeartbeats 4000000
/-! DL18: comprehensions that carry a state; comprehensions with a test. -/
namespace DL
open PySem PySem.Spec PyProof.Rows L2
/-- a comprehension (without a test) whose steps change the store as a state goes on -/
theorem lcX_st {β : Type} {Γ : GE} {b : BD} {we : WE} {xs : List D} {C : Mem → Prop} {M1 : Mem} {p : Addr} {RX : DX} {Z : List D → Mem → Prop} (m : β → Mem) (P : Nat → β → List D → Prop) (s0 : β) (hM : M1 = m s0) (h0 : P 0 s0 [])
    (hC : ∀ s out, C (mup (m s) p (.lst out)))
    (step : ∀ k x s out (R' : DK), xs[k]? = some x → P k s out → (∀ y s', P (k + 1) s' (out ++ [y]) → R' y (mup (m s') p (.lst out))) → b x Γ fun Γ1 => we Γ1 (mup (m s) p (.lst out)) R' (fun c d M3 => RX c d (mdel M3 p)))
    (fin : ∀ s out, P xs.length s out → Z out (mup (m s) p (.lst out))) : lcTurnsX Γ b wYes we xs C p M1 RX Z := by
  subst hM
  refine ⟨fun pre out M => ∃ s, P pre.length s out ∧ M = mup (m s) p (.lst out), ⟨s0, h0, rfl⟩, ?_, ?_⟩
  · rintro pre x post out M e ⟨s, h1, rfl⟩
    refine ⟨hC _ _, ?_⟩
    refine step pre.length x s out _ (by rw [e]; simp) h1 fun y s' hy => ?_
    exact ⟨mup_same, s', by simpa using hy, by rw [mup_mup]⟩
  · rintro out M ⟨s, h, rfl⟩
    exact ⟨hC _ _, mup_same, fin s out h⟩
/-- a comprehension with a test, over the pictures of a list -/
theorem lc_filt {α : Type} {Γ : GE} {j : Nat} {we : WE} {tt : WT} {f : α → D} {l : List α} {C : Mem → Prop} {M1 : Mem} {p : Addr} {Z : List D → Mem → Prop} (c : α → Bool) (g : α → D) (hC : ∀ out, C (mup M1 p (.lst out)))
    (ht : ∀ (a : α) (R' : Bool → Mem → Prop) (out : List D), a ∈ l → R' (c a) (mup M1 p (.lst out)) → tt (st Γ j (f a)) (mup M1 p (.lst out)) R' FX)
    (hw : ∀ (a : α) (R' : DK) (out : List D), a ∈ l → R' (g a) (mup M1 p (.lst out)) → we (st Γ j (f a)) (mup M1 p (.lst out)) R' FX)
    (hR : Z ((l.filter c).map g) (mup M1 p (.lst ((l.filter c).map g)))) : lcTurns Γ j tt we (l.map f) C p M1 Z := by
  refine ⟨fun pre out M => out = ((l.take pre.length).filter c).map g ∧ M = mup M1 p (.lst out), ⟨by simp, rfl⟩, ?_, ?_⟩
  · rintro pre x post out M e ⟨h1, rfl⟩
    refine ⟨hC _, ?_⟩
    have hx : (l.map f)[pre.length]? = some x := by rw [e]; simp
    rw [List.getElem?_map] at hx
    cases ha : l[pre.length]? with
    | none => rw [ha] at hx; cases hx
    | some a =>
      rw [ha] at hx
      have ex : f a = x := Option.some.inj hx
      subst ex
      have hm := List.mem_of_getElem? ha
      refine ht a _ _ hm ?_
      by_cases q : c a = true
      · rw [if_pos q]
        refine hw a _ _ hm ⟨mup_same, ?_, by rw [mup_mup]⟩
        subst h1
        simp [List.take_add_one, ha, q]
      · rw [if_neg q]
        refine ⟨?_, rfl⟩
        subst h1
        simp [List.take_add_one, ha, q]
  · rintro out M ⟨h, rfl⟩
    have e : out = (l.filter c).map g := by simpa using h
    subst e
    exact ⟨hC _, mup_same, hR⟩
end DL

set_option Elab.async false
set_option linter.all false
set_option maxRecDepth 100000
set_option maxHeartbeats 4000000
/-! DX6: a pair turned round. -/
namespace DL
open PySem PySem.Spec PyProof.Rows L2 HT
section
variable {prog : Program} {w : World} {A : Around} {E : Value → Shared → Prop} {s : Shared}
/-- where a slice backwards over two things goes -/
theorem apply2 {sl : Addr} {a b c : Value} {G : Int × Int × Nat → Shared → Prop} (hs : s.heap.IsSliceOf sl a b c) (pa : IsPart a none) (pb : IsPart b none) (pc : IsPart c (some (-1))) (h : G (1, -1, 2) s) : wpAny (model prog w) A (Builtin.Slice.sliceApplied (.ref sl) (pure ((2 : Nat) : Int))) G E s := by
  obtain ⟨ob, hb, _, hf⟩ := id hs
  unfold Builtin.Slice.sliceApplied Builtin.Slice.sliceFields
  refine wpAny_bind (wpAny_bind (wpAny_field hb hf (x := a) rfl (wpAny_bind (wpAny_field hb hf (x := b) rfl (wpAny_bind (wpAny_field hb hf (x := c) rfl (wpAny_pure ?_)))))))
  refine wpAny_bind (slicePart_ pc ?_)
  show wpAny _ _ (if ((-1 : Int) == 0) = true then _ else _) _ _ s
  rw [if_neg (by decide)]
  exact wpAny_bind (slicePart_ pa (wpAny_bind (slicePart_ pb (wpAny_bind (wpAny_pure (wpAny_pure h))))))
theorem turn2 {t sl : Addr} {x y a b c : Value} {G : Value → Shared → Prop} (ht : IsTup s.heap t #[x, y]) (hs : s.heap.IsSliceOf sl a b c) (pa : IsPart a none) (pb : IsPart b none) (pc : IsPart c (some (-1)))
    (h : G (.ref s.heap.objs.size) { s with heap := s.heap.push { cls := .type "tuple", data := .seq #[y, x] } }) : wpAny (model prog w) A (getItem (.ref t) (.ref sl)) G E s := by
  have ty : s.TypeIs (.ref sl) "slice" := by obtain ⟨ob, hb, hk, _⟩ := id hs; exact ⟨ob, hb, hk⟩
  have fits : sizeOk (.seq #[y, x]) := by show 2 ≤ sizeLine; decide
  unfold getItem
  refine wpAny_holding (wpAny_bind (wpAny_sequenceKey ht.typeIs (by decide) (wpAny_bind (wpAny_callSpecial?_slot (name := Str.ofString "__getitem__") ht.typeIs PyProof.Rows.slot_tuple_getitem (wpAny_call_entry PyProof.Rows.slot_tuple_getitem ht.typeIs entry_tuple_getitem ?_ (args_tuple_getitem _ _))))))
  show wpAny _ _ (Builtin.Tuple.tupleItemsOf (.ref t) >>= fun _ => _) _ _ s
  refine wpAny_bind (tupleItemsOf_ ht (wpAny_bind (wpAny_typeOf ty ?_)))
  rw [if_pos (by decide)]
  refine wpAny_bind (apply2 hs pa pb pc ?_)
  show wpAny _ _ (if ((1 : Int) == 0 && (-1 : Int) == 1 && 2 == 2) = true then _ else _) _ _ s
  rw [if_neg (by decide)]
  have e : ((List.range 2).filterMap fun (k : Nat) => (#[x, y] : Array Value)[((1 : Int) + (k : Int) * (-1)).toNat]?).toArray = #[y, x] := rfl
  show wpAny _ _ (Builtin.Tuple.tupleExact ((List.range 2).filterMap fun (k : Nat) => (#[x, y] : Array Value)[((1 : Int) + (k : Int) * (-1)).toNat]?).toArray >>= fun _ => _) _ _ s
  rw [e]
  first
    | exact wpAny_bind (m := Builtin.Tuple.tupleExact _) (wpAny_newObj_type (wpAny_pure ⟨_, rfl, wpAny_pure h⟩) fits)
    | exact wpAny_bind (wpAny_newObj_type (wpAny_bind (wpAny_pure (wpAny_pure ⟨_, rfl, wpAny_pure h⟩))) fits)
end
section
variable {X : Cx} {W : WX} {we : WE} {pos : Pos}
def tRev2 (K : PySem.W.Frag) (te : TE) : TE := fun σ H Q => te σ H fun v H1 => ∃ a x y, v = .ref a ∧ SqT K H1 a [x, y] ∧ ∀ q, H1 q = none → Q (.ref q) (upd H1 q (.tup [y, x]))
theorem pe_rev2 {z : Expr} {te : TE} {k : Nat} {p1 p2 p3 : Pos} (hz : PE X z te) : PE X (.Subscript z (.Slice none none (some (.UnaryOp .USub (.Constant (.int 1) k p1) p2)) p3) pos) (tRev2 X.K te) := by
  refine ⟨fun pn s σ H Q I h => Subscript_ (thn (hz.run pn s σ H _ I h) fun v s1 ⟨x, H1, I1, r1, a, y, y2, ex, hx, q⟩ => ?_)⟩
  subst ex
  cases r1
  have back : PO X (some (.UnaryOp .USub (.Constant (.int 1) k p1) p2)) (tPart (tUn (rU fun i => .int (-i)) (tC (.int 1)))) := po_some (pe_un un_neg pe_int)
  refine wpAny_Slice (thn (po_none.run pn s1 σ H1 (fun o G => o = none ∧ G = H1) I1 ⟨rfl, rfl⟩) fun va s2 ⟨l, H2, I2, pa, el, e2⟩ => ?_)
  subst el e2
  refine thn (po_none.run pn s2 σ H2 (fun o G => o = none ∧ G = H2) I2 ⟨rfl, rfl⟩) fun vb s3 ⟨u, H3, I3, pb, eu, e3⟩ => ?_
  subst eu e3
  refine thn (back.run pn s3 σ H3 (fun o G => o = some (-1) ∧ G = H3) I3 ⟨1, rfl, -1, rfl, rfl, rfl⟩) fun vc s4 ⟨o, H4, I4, pc, eo, e4⟩ => ?_
  subst eo e4
  have I5 : Inv X pn σ H4 { s4 with heap := s4.heap.push { cls := .type "slice", data := .fields #[va, vb, vc] } } := I4.kept (t' := s4.toks) fun b ob q => Heap.get?_push_of_some _ q
  obtain ⟨its, r, ht, hz⟩ := I5.tuple hx
  obtain ⟨u1, r', rfl, g1, g2⟩ : ∃ u1 r', its = u1 :: r' ∧ RelV y u1 ∧ Vals [y2] r' := by cases r with | cons a b => exact ⟨_, _, rfl, a, b⟩
  obtain ⟨u2, rfl, g3⟩ : ∃ u2, r' = [u2] ∧ RelV y2 u2 := by cases g2 with | cons a b => cases b; exact ⟨_, rfl, a⟩
  show wpAny (model X.prog X.w) X.A (subscriptTail z (.Slice none none (some (.UnaryOp .USub (.Constant (.int 1) k p1) p2)) p3) (.ref a) (.ref s4.heap.objs.size)) (EP X pn σ Q) X.xe { s4 with heap := s4.heap.push { cls := .type "slice", data := .fields #[va, vb, vc] } }
  refine tail_any (ops := [.ref a, .ref s4.heap.objs.size]) ht.typeIs PyProof.Rows.slot_tuple_getitem.lookup ?_ (by with_unfolding_all rfl)
  refine turn2 ht (Heap.IsSliceOf.new _ va vb vc) pa pb pc ?_
  refine ⟨.ref _, _, I5.laid (t' := s4.toks) (o := .tup [y2, y]) (fun b ob q => Heap.get?_push_of_some _ q) (Nat.le_refl _) ?_, rfl, q _ (I5.hok.fresh (Nat.le_refl _))⟩
  exact ⟨by show 2 ≤ sizeLine; decide, _, .cons g3 (.cons g1 .nil), IsTup.new _ _⟩
/-- pair[::-1] -/
def wRev2 (we : WE) : WE := fun Γ M R RX => we Γ M (fun d M1 => match d with
  | .tup [x, y] => R (.tup [y, x]) M1
  | _ => False) RX
theorem qrev2 {z : Expr} {k : Nat} {p1 p2 p3 : Pos} (hz : QE X W z we) : QE X W (.Subscript z (.Slice none none (some (.UnaryOp .USub (.Constant (.int 1) k p1) p2)) p3) pos) (wRev2 we) :=
  pe_imp (pe_rev2 hz) fun σ H Q ⟨F, Γ, M, R, RX, s, e, w, hq, hx⟩ => ⟨F, Γ, M, _, RX, s, e, w, fun d M1 F1 H1 v h1 s1 k1 r1 => by
    split at h1
    · rename_i x y
      obtain ⟨a, vs, ea, ha, za, ga⟩ := rep_T k1 r1 (ds := [x, y]) rfl
      obtain ⟨v1, v2, rfl, g1, g2⟩ := reps2 ga
      subst ea
      refine ⟨a, v1, v2, rfl, ha, fun p hp => ?_⟩
      obtain ⟨F2, s2, k2, r2⟩ := rep_tup (ds := [y, x]) (vs := [v2, v1]) k1 hp (by show 2 ≤ sizeLine; decide) ⟨_, _, rfl, g2, _, _, rfl, g1, rfl⟩
      exact hq _ _ _ _ _ h1 (s1.trans s2) k2 r2
    · exact h1.elim, hx⟩
end
section
variable {Γ : GE} {M : Mem} {R : DK} {RX : DX} {x y : D} {we : WE}
def rev2P (R : DK) : DK := fun d M1 => match d with
  | .tup [x, y] => R (.tup [y, x]) M1
  | _ => False
theorem e_rev2 : wRev2 we Γ M R RX = we Γ M (rev2P R) RX := (rfl)
theorem p_rev2 : rev2P R (.tup [x, y]) M = R (.tup [y, x]) M := (rfl)
end
end DL

set_option Elab.async false
set_option linter.all false
set_option maxRecDepth 100000
set_option maxHeartbeats 1000000
/-! M04: kinds and trees, plain. -/
namespace K04
open PySem PySem.Spec PyProof.Rows L2 DL
inductive Kd where
  | int | frac | rest (m : Int) | poly (n : Int) | row (n : Int) | table (r c : Int) | answer (r c : Int)
  deriving DecidableEq
def Kd.w : Kd → Str
  | .int => "int" | .frac => "frac" | .rest _ => "rest" | .poly _ => "poly" | .row _ => "row" | .table _ _ => "table" | .answer _ _ => "answer"
def Kd.i1 : Kd → Option Int
  | .int => none | .frac => none | .rest m => some m | .poly n => some n | .row n => some n | .table r _ => some r | .answer r _ => some r
def Kd.i2 : Kd → Option Int
  | .table _ c => some c | .answer _ c => some c | _ => none
def Kd.d : Kd → D
  | .int => .tup [.str "int"] | .frac => .tup [.str "frac"] | .rest m => .tup [.str "rest", .int m] | .poly n => .tup [.str "poly", .int n] | .row n => .tup [.str "row", .int n]
  | .table r c => .tup [.str "table", .int r, .int c] | .answer r c => .tup [.str "answer", .int r, .int c]
def od : Option Kd → D
  | some k => k.d
  | none => .non
theorem od_some {k : Kd} : od (some k) = k.d := rfl
theorem od_none : od none = .non := rfl
theorem od_ite {c : Prop} [Decidable c] {a b : Option Kd} : od (if c then a else b) = if c then od a else od b := by split <;> rfl
theorem deq_str {a b : Str} : deq (.str a) (.str b) = decide (a = b) := by
  unfold deq pyD
  simp only [PyData.eqv]
  by_cases h : a = b <;> simp [h]
theorem deq_kd (a b : Kd) : deq a.d b.d = decide (a = b) := by
  cases a <;> cases b <;> simp [Kd.d, deq, pyD, pyDs, PyData.eqv, PyData.eqvAll, e_ofStr]
  all_goals (rw [Bool.eq_iff_iff]; simp)
theorem cmpOk_kd (a : Kd) : cmpOk a.d := by
  cases a <;> refine ⟨by simp [Kd.d, tree, trees], ?_⟩ <;> simp [Kd.d, pyD, pyDs, SeqAt.shaped, PyData.canLay0, PyData.canLayAll0, PyData.depth, PyData.depthAll] <;> decide +kernel
theorem depth_kd (a : Kd) : (pyD a.d).depth ≤ 60 := by
  cases a <;> simp [Kd.d, pyD, pyDs, PyData.depth, PyData.depthAll]
section
variable {M : Mem} {R : DK} {a b : Kd} {x y z u v : Str}
theorem e_at0 {d : D} {r : List D} : atI (d :: r) 0 = some d := atI_lt (k := 0) rfl
theorem e_at1 {c d : D} {r : List D} : atI (c :: d :: r) 1 = some d := atI_lt (k := 1) rfl
theorem e_at2 {b c d : D} {r : List D} : atI (b :: c :: d :: r) 2 = some d := atI_lt (k := 2) rfl
theorem k_int : (.tup [.str "int"] : D) = Kd.int.d := (rfl)
theorem k_frac : (.tup [.str "frac"] : D) = Kd.frac.d := (rfl)
theorem k_row {n : Int} : (.tup [.str "row", .int n] : D) = (Kd.row n).d := (rfl)
theorem e_eqK : fEq a.d b.d M R = R (.bl (decide (a = b))) M := by
  have h : fEq a.d b.d M R = (cmpOk a.d ∧ cmpOk b.d ∧ R (.bl (deq a.d b.d)) M) := by cases a <;> cases b <;> rfl
  rw [h, deq_kd]
  exact propext ⟨fun h => h.2.2, fun h => ⟨cmpOk_kd a, cmpOk_kd b, h⟩⟩
theorem e_k0 : fIx a.d (.int 0) M R = R (.str a.w) M := by cases a <;> rfl
theorem e_k1 : fIx a.d (.int 1) M R = onSome a.i1 (fun n => R (.int n) M) := by cases a <;> rfl
theorem e_k2 : fIx a.d (.int 2) M R = onSome a.i2 (fun n => R (.int n) M) := by cases a <;> rfl
theorem e_inS2 : fInD false (.str x) (.tup [.str y, .str z]) M R = R (.bl (decide (y = x) || decide (z = x))) M := by simp [fInD, asQ, strsOf, Bool.or_assoc]
theorem e_inS3 : fInD false (.str x) (.tup [.str y, .str z, .str u]) M R = R (.bl (decide (y = x) || decide (z = x) || decide (u = x))) M := by simp [fInD, asQ, strsOf, Bool.or_assoc]
theorem e_inS4 : fInD false (.str x) (.tup [.str y, .str z, .str u, .str v]) M R = R (.bl (decide (y = x) || decide (z = x) || decide (u = x) || decide (v = x))) M := by simp [fInD, asQ, strsOf, Bool.or_assoc]
theorem e_inK2 {c : Kd} : fInD false a.d (.tup [b.d, c.d]) M R = R (.bl (decide (b = a) || decide (c = a))) M := by
  have h0 : fInD false a.d (.tup [b.d, c.d]) M R = ((cmpOk a.d ∧ (pyD a.d).depth ≤ 60) ∧ (∀ d ∈ [b.d, c.d], cmpOk d) ∧ R (.bl ([b.d, c.d].any fun d => deq d a.d)) M) := by cases a <;> rfl
  rw [h0]
  have e : ([b.d, c.d].any fun d => deq d a.d) = (decide (b = a) || decide (c = a)) := by simp [deq_kd]
  rw [e]
  exact propext ⟨fun h => h.2.2, fun h => ⟨⟨cmpOk_kd a, depth_kd a⟩, by simp [cmpOk_kd], h⟩⟩
end
/-! ### trees -/
inductive Op where
  | add | sub | mul | div | quo | mod
  deriving DecidableEq
def Op.w : Op → Str
  | .add => "add" | .sub => "sub" | .mul => "mul" | .div => "div" | .quo => "quo" | .mod => "mod"
theorem op_ne {o : Op} {x : String} (h : x = "int" ∨ x = "name" ∨ x = "neg" ∨ x = "pow" ∨ x = "call") : (o.w = Str.ofString x) = False := by
  rcases h with rfl | rfl | rfl | rfl | rfl <;> cases o <;> simp [Op.w, e_ofStr]
inductive Tr where
  | int (n : Int) | name (x : Str) | neg (t : Tr) | pow (t : Tr) (e : Int) | call (w : Str) (ts : List Tr) | two (o : Op) (a b : Tr)
mutual
def Tr.d : Tr → D
  | .int n => .tup [.str "int", .int n]
  | .name x => .tup [.str "name", .str x]
  | .neg t => .tup [.str "neg", t.d]
  | .pow t e => .tup [.str "pow", t.d, .int e]
  | .call w ts => .tup [.str "call", .str w, .tup (Tr.ds ts)]
  | .two o a b => .tup [.str o.w, a.d, b.d]
def Tr.ds : List Tr → List D
  | [] => []
  | t :: ts => t.d :: Tr.ds ts
end
def Tr.w : Tr → Str
  | .int _ => "int" | .name _ => "name" | .neg _ => "neg" | .pow _ _ => "pow" | .call _ _ => "call" | .two o _ _ => o.w
mutual
def Tr.ht : Tr → Nat
  | .int _ => 1 | .name _ => 1 | .neg t => t.ht + 1 | .pow t _ => t.ht + 1 | .call _ ts => Tr.hts ts + 1 | .two _ a b => max a.ht b.ht + 1
def Tr.hts : List Tr → Nat
  | [] => 0
  | t :: ts => max t.ht (Tr.hts ts)
end
abbrev Ex := Except Str
def needK (b : Bool) (k : Ex Kd) : Ex Kd := if b then k else .error "kind"
def longK (m : Int) (k : Ex Kd) : Ex Kd := if 1 ≤ m ∧ m ≤ 40 then k else .error "long"
def writtenT (t : Tr) (lo hi : Int) : Ex Int := match t with
  | .int n => if lo ≤ n ∧ n ≤ hi then .ok n else .error "written"
  | _ => .error "written"
def joined (a b : Kd) : Option Kd :=
  if a = b then (if a.w = "answer" then none else some a)
  else if a = .int ∨ b = .int then (let r := if a = .int then b else a; if r.w = "frac" ∨ r.w = "rest" ∨ r.w = "poly" then some r else none)
  else match a, b with
    | .poly n, .poly m => some (.poly (max n m))
    | _, _ => none
/-- what is multiplied: the kind, none, or too long -/
def multiplied (a b : Kd) : Ex (Option Kd) := match a, b with
  | .poly n, .poly m => if 1 ≤ n + m - 1 ∧ n + m - 1 ≤ 40 then .ok (some (.poly (n + m - 1))) else .error "long"
  | .table r c, .table r2 c2 => if c = r2 then .ok (some (.table r c2)) else .ok none
  | .table r c, .row n => .ok (if n = c then some (.row r) else none)
  | .table _ _, _ => .ok none
  | .int, .row n => .ok (some (.row n))
  | .int, .table r c => .ok (some (.table r c))
  | .row _, _ => .ok none
  | a, b => .ok (joined a b)
def divided (a b : Kd) : Option Kd :=
  if (a = .int ∨ a = .frac) ∧ (b = .int ∨ b = .frac) then some .frac else if a.w = "rest" ∨ b.w = "rest" then joined a b else none
def needO : Option Kd → Ex Kd
  | some k => .ok k
  | none => .error "kind"
def twoK (o : Op) (a b : Kd) : Ex Kd := match o with
  | .add | .sub => needO (joined a b)
  | .mul => (match multiplied a b with
    | .ok r => needO r
    | .error e => .error e)
  | .div => needO (divided a b)
  | _ => if a = .int ∧ b = .int then .ok .int else .error "kind"
def shortK (r c most : Int) (k : Kd) : Ex Kd := if r > most ∨ c > most then .error "long" else .ok k
/-- a form's kind: its kinds are those of the table -/
def formK (w : Str) (ts : List Tr) (ks : List Kd) : Ex Kd := match ks, ts with
  | [.poly n, .poly m], _ => .ok (.poly (if w = "polyquo" then n else max n m))
  | [.row n, .row m], _ => needK (decide (n = m)) (.ok .int)
  | [.row n, .int], [_, t] => (match writtenT t 0 (n - 1) with
    | .ok _ => .ok .int
    | .error e => .error e)
  | [.int, .int], [_, t] => if w = "root" then (match writtenT t 1 40 with
    | .ok _ => .ok .int
    | .error e => .error e) else .ok .int
  | [.table r c], _ => if w = "reduced" then needK (decide (r ≤ c)) (if r > 12 ∨ c > 24 then .error "long" else .ok (.table r c)) else if w = "turned" then .ok (.table c r) else shortK r c 10 (.table r c)
  | [.table r c, .row n], _ => needK (decide (r = n)) (shortK r c (if w = "solved" then 12 else 10) (.answer r c))
  | _, _ => .ok .int
def formsT : List (Str × List Str) := [("gcd", ["int", "int"]), ("root", ["int", "int"]), ("power", ["int", "int", "int"]), ("dot", ["row", "row"]), ("item", ["row", "int"]), ("at", ["poly", "int"]), ("polyquo", ["poly", "poly"]), ("polymod", ["poly", "poly"]), ("polygcd", ["poly", "poly"]),
  ("reduced", ["table"]), ("solved", ["table", "row"]), ("top", ["frac"]), ("bottom", ["frac"]), ("lift", ["rest"]), ("turned", ["table"]), ("hermite", ["table"]), ("whole", ["table", "row"])]
def forms : List (Str × List Str) → Str → Option (List Str)
  | [], _ => none
  | (k, v) :: r, x => if x = k then some v else forms r x
def callK (w : Str) (ts : List Tr) (ks : List Kd) : Ex Kd :=
  if w = "row" then needK (ks.all fun k => decide (k = .int)) (longK ks.length (.ok (.row ks.length)))
  else if w = "poly" then needK (ks.all fun k => decide (k = .int)) (longK ks.length (.ok (.poly ks.length)))
  else if w = "table" then (match ks with
    | .row n :: r => needK (r.all fun k => decide (k = .row n)) (longK (r.length + 1 : Nat) (.ok (.table (r.length + 1 : Nat) n)))
    | _ => .error "kind")
  else if w = "rest" then (match ks, ts with
    | [.int, _], [_, t] => (match writtenT t 2 1000000000 with
      | .ok n => .ok (.rest n)
      | .error e => .error e)
    | _, _ => .error "kind")
  else match forms formsT w with
    | none => .error "call"
    | some fs => if ks.map Kd.w = fs then formK w ts ks else .error "kind"
mutual
def kindOf (nm : Str → Option Kd) : Tr → Ex Kd
  | .int _ => .ok .int
  | .name x => (match nm x with
    | some k => .ok k
    | none => .error "name")
  | .neg t => (match kindOf nm t with
    | .ok k => needK (decide (k.w ≠ "answer")) (.ok k)
    | .error e => .error e)
  | .pow t e => (match kindOf nm t with
    | .ok k => (match k with
      | .poly n => longK ((n - 1) * e + 1) (.ok (.poly ((n - 1) * e + 1)))
      | .table r c => needK (decide (r = c)) (.ok (.table r c))
      | .row _ => .error "kind"
      | .answer _ _ => .error "kind"
      | k => .ok k)
    | .error e => .error e)
  | .call w ts => (match kindsOf nm ts with
    | .ok ks => callK w ts ks
    | .error e => .error e)
  | .two o a b => (match kindOf nm a with
    | .ok ka => (match kindOf nm b with
      | .ok kb => twoK o ka kb
      | .error e => .error e)
    | .error e => .error e)
def kindsOf (nm : Str → Option Kd) : List Tr → Ex (List Kd)
  | [] => .ok []
  | t :: ts => (match kindOf nm t with
    | .ok k => (match kindsOf nm ts with
      | .ok ks => .ok (k :: ks)
      | .error e => .error e)
    | .error e => .error e)
end
theorem o1 {o : Op} : (o.w = Str.ofString "int") = False := op_ne (by simp)
theorem o2 {o : Op} : (o.w = Str.ofString "name") = False := op_ne (by simp)
theorem o3 {o : Op} : (o.w = Str.ofString "neg") = False := op_ne (by simp)
theorem o4 {o : Op} : (o.w = Str.ofString "pow") = False := op_ne (by simp)
theorem o5 {o : Op} : (o.w = Str.ofString "call") = False := op_ne (by simp)
mutual
/-- trees that are read without a fault -/
def Tr.ok (nm : Str → Option Kd) : Tr → Prop
  | .int _ => True
  | .name _ => True
  | .neg t => t.ok nm
  | .pow t e => t.ok nm ∧ (∀ n, kindOf nm t = .ok (.poly n) → -1000000 ≤ n ∧ n ≤ 1000000) ∧ -1000000 ≤ e ∧ e ≤ 1000000
  | .call w ts => Tr.oks nm ts ∧ ts.length ≤ 1000 ∧ (w = "table" → ts ≠ [])
  | .two _ a b => a.ok nm ∧ b.ok nm
def Tr.oks (nm : Str → Option Kd) : List Tr → Prop
  | [] => True
  | t :: ts => t.ok nm ∧ Tr.oks nm ts
end
theorem ok_mem {nm : Str → Option Kd} {t : Tr} : ∀ {ts : List Tr}, Tr.oks nm ts → t ∈ ts → t.ok nm
  | u :: us, h, m => by
    unfold Tr.oks at h
    cases m with
    | head => exact h.1
    | tail _ m => exact ok_mem h.2 m
theorem ht_mem {t : Tr} : ∀ {ts : List Tr}, t ∈ ts → t.ht ≤ Tr.hts ts
  | u :: us, h => by
    unfold Tr.hts
    cases h with
    | head => exact Nat.le_max_left _ _
    | tail _ h => exact Nat.le_trans (ht_mem h) (Nat.le_max_right _ _)
theorem ds_map : ∀ ts : List Tr, Tr.ds ts = ts.map Tr.d
  | [] => by unfold Tr.ds; rfl
  | t :: ts => by unfold Tr.ds; rw [ds_map ts]; rfl
theorem mulOk_of {i j : Int} {m n : Nat} (hi : i.natAbs < 2 ^ m) (hj : j.natAbs < 2 ^ n) (h : m + n ≤ 134217728) : mulOk i j := by
  have a := PySem.intBits_le_iff.mpr hi
  have b := PySem.intBits_le_iff.mpr hj
  exact ⟨by omega⟩
/-- a kind as a datum, or its fault -/
def kindD (nm : Str → Option Kd) (t : Tr) : Ex D := match kindOf nm t with
  | .ok k => .ok k.d
  | .error e => .error e
theorem kinds_ok {nm : Str → Option Kd} : ∀ {ts : List Tr} {out : List D}, ts.mapM (kindD nm) = .ok out → ∃ ks, kindsOf nm ts = .ok ks ∧ out = ks.map Kd.d ∧ ks.length = ts.length
  | [], out, h => by cases h; exact ⟨[], by unfold kindsOf; rfl, rfl, rfl⟩
  | t :: ts, out, h => by
    rw [List.mapM_cons] at h
    unfold kindD at h
    cases e : kindOf nm t with
    | error x => rw [e] at h; cases h
    | ok k =>
      rw [e] at h
      cases e2 : ts.mapM (kindD nm) with
      | error x =>
        have h' : (do let r ← ts.mapM (kindD nm); pure (k.d :: r) : Ex (List D)) = .ok out := h
        rw [e2] at h'; cases h'
      | ok r =>
        have h' : (do let r ← ts.mapM (kindD nm); pure (k.d :: r) : Ex (List D)) = .ok out := h
        rw [e2] at h'
        cases h'
        obtain ⟨ks, a, b, c⟩ := kinds_ok e2
        refine ⟨k :: ks, ?_, by rw [b]; rfl, by simp [c]⟩
        unfold kindsOf
        rw [e, a]
theorem kinds_err {nm : Str → Option Kd} {x : Str} {t : Tr} : ∀ {ts : List Tr} {k : Nat} {out : List D}, (ts.take k).mapM (kindD nm) = .ok out → ts[k]? = some t → kindOf nm t = .error x → kindsOf nm ts = .error x
  | [], k, out, _, h, _ => by simp at h
  | u :: us, 0, out, _, h, e => by
    have : u = t := by simpa using h
    subst this
    unfold kindsOf
    rw [e]
  | u :: us, k + 1, out, h1, h, e => by
    rw [List.take_succ_cons, List.mapM_cons] at h1
    unfold kindD at h1
    unfold kindsOf
    cases e1 : kindOf nm u with
    | error y => rw [e1] at h1; cases h1
    | ok ku =>
      rw [e1] at h1
      cases e2 : (us.take k).mapM (kindD nm) with
      | error y =>
        have h' : (do let r ← (us.take k).mapM (kindD nm); pure (ku.d :: r) : Ex (List D)) = .ok out := h1
        rw [e2] at h'; cases h'
      | ok r =>
        rw [kinds_err e2 (by simpa using h) e]
end K04

set_option Elab.async false
set_option linter.all false
set_option maxRecDepth 100000
set_option maxHeartbeats 1000000
/-! M06: bounds of trees, plain. -/
namespace K04
open PySem PySem.Spec PyProof.Rows L2 DL
/-- a bound, or the word of what is too much; none: what is not asked -/
abbrev BX := Except (Option Str)
def bad {α : Type} : BX α := .error none
def lim {α : Type} (e : Str) : BX α := .error (some e)
def bnd {α β : Type} (x : BX α) (f : α → BX β) : BX β := match x with
  | .ok a => f a
  | .error e => .error e
theorem bnd_bnd {α β γ : Type} {x : BX α} {f : α → BX β} {g : β → BX γ} : bnd (bnd x f) g = bnd x fun a => bnd (f a) g := by cases x <;> rfl
def chk {α : Type} (c : Bool) (x : BX α) : BX α := if c = true then x else bad
def sm (i : Int) : Bool := decide (-1000000000 ≤ i) && decide (i ≤ 1000000000)
def sizeI (n : Int) : Int := ((Str.ofString (toString n)).length : Int)
def sizeE (n : Int) : BX Int := if n.natAbs.log2 < 1920 then .ok (sizeI n) else bad
def letE (b : List Int) : BX (List Int) := if b = [] then bad else if 3000 < maxL b then lim "figures" else .ok b
def workE (c : Bool) : BX Unit := if c = true then .ok () else lim "work"
def packE (many figures : Int) : BX Unit := chk (sm many && sm figures) (workE (decide (many * (figures + 5) ≤ 12000)))
def two : List Int → List Int
  | [a] => [a, 1]
  | b => b
def fracB (o : Op) (a b : List Int) : BX (List Int) := match a, b with
  | [x, p], [y, q] => (match o with
    | .add | .sub => .ok [max (x + q) (y + p) + 1, p + q]
    | .mul => .ok [x + y, p + q]
    | _ => .ok [x + q, p + y])
  | _, _ => bad
def plong : Kd → Int
  | .poly n => n
  | _ => 1
def isP : Kd → Bool
  | .poly _ => true
  | _ => false
def mulB (x y : Int) (k1 k2 : Kd) : BX (List Int) :=
  if isP k1 = true ∨ isP k2 = true then bnd (sizeE (min (plong k1) (plong k2))) fun z => bnd (packE (plong k1 + plong k2 - 1) (x + y + z)) fun _ => .ok [x + y + (if 1 < min (plong k1) (plong k2) then z else 0)]
  else match k1 with
  | .table r c => (match k2 with
    | .row _ => if 1 < c then bnd (sizeE c) fun z => .ok [x + y + z] else .ok [x + y + 0]
    | .table _ c2 => chk (sm r && (sm c && sm c2)) (bnd (workE (decide (r * c * c2 ≤ 4000))) fun _ => if 1 < c then bnd (sizeE c) fun z => .ok [x + y + z] else .ok [x + y + 0])
    | _ => bad)
  | _ => .ok [x + y + 0]
def oneB (o : Op) (x y : Int) (k1 k2 : Kd) : BX (List Int) := match o with
  | .add | .sub => .ok [max x y + 1]
  | .quo => .ok [x]
  | .mod => .ok [y]
  | _ => mulB x y k1 k2
def twoB (o : Op) (a b : List Int) (k1 k2 : Kd) : BX (List Int) := match k1, k2 with
  | .rest m, _ => bnd (sizeE (m - 1)) fun z => .ok [z]
  | _, .rest m => bnd (sizeE (m - 1)) fun z => .ok [z]
  | _, _ => if k1 = .frac ∨ k2 = .frac ∨ o = .div then fracB o (two a) (two b) else (match a, b with
    | [x], [y] => oneB o x y k1 k2
    | _, _ => bad)
def moreB (e : Int) (k : Kd) : BX Int := match k with
  | .poly n => if 1 < n then bnd (sizeE n) fun z => chk (sm e && sm z) (.ok ((e - 1) * z)) else .ok 0
  | .table r _ => if 1 < r then bnd (sizeE r) fun z => chk (sm e && sm z) (.ok ((e - 1) * z)) else .ok 0
  | _ => .ok 0
def midB (b : List Int) (e more : Int) (k : Kd) : BX Unit := match k with
  | .poly n => (match b with
    | x :: _ => chk (sm n && (sm e && sm x)) (packE ((n - 1) * e + 1) (x * e + more))
    | [] => bad)
  | .table r _ => chk (sm r && sm e) (workE (decide (r * r * r * 2 * (Builtin.Int.intBits e : Int) ≤ 2 * 4000)))
  | _ => .ok ()
def finB (b : List Int) (e more : Int) : BX (List Int) := chk (sm e && (b.all sm && decide (b.length ≤ 1000))) (.ok (b.map fun x => x * e + more))
def powN (b : List Int) (e : Int) (k : Kd) : BX (List Int) := if e = 0 then chk (decide (b ≠ []) && decide (b.length ≤ 1000)) (.ok (List.replicate b.length 1)) else
  bnd (moreB e k) fun more => bnd (midB b e more k) fun _ => finB b e more
def powB (b : List Int) (e : Int) (k : Kd) : BX (List Int) := match k with
  | .rest _ => .ok b
  | _ => powN b e k
def headsB : List (List Int) → BX (List Int)
  | [] => .ok []
  | (x :: _) :: r => bnd (headsB r) fun hs => .ok (x :: hs)
  | _ :: _ => bad
def litAt : List Tr → BX Int
  | [_, .int n] => .ok n
  | _ => bad
def i1B : List Kd → BX Int
  | k :: _ => (match k.i1 with
    | some n => .ok n
    | none => bad)
  | _ => bad
def i2B : List Kd → BX Int
  | k :: _ => (match k.i2 with
    | some n => .ok n
    | none => bad)
  | _ => bad
def hd1 : List (List Int) → BX Int
  | (x :: _) :: _ => .ok x
  | _ => bad
def hd2 : List (List Int) → BX (Int × Int)
  | [x :: _, y :: _] => .ok (x, y)
  | _ => bad
def polys2 : List Kd → BX (Int × Int)
  | [.poly n, .poly m] => .ok (n, m)
  | _ => bad
def cPow : List (List Int) → BX (List Int)
  | [_, y :: _, z :: zs] => chk (sm y && sm z) (bnd (workE (decide (y * z * z ≤ 1000000))) fun _ => .ok (z :: zs))
  | _ => bad
def hdB : List (List Int) → BX (List Int)
  | b :: _ => .ok b
  | _ => bad
def cBot : List (List Int) → BX (List Int)
  | (_ :: y :: _) :: _ => .ok [y]
  | _ => bad
def cGcd (n m x y : Int) : BX (List Int) := chk (sm n && (sm m && (sm x && sm y))) (bnd (sizeE (2 * max n m)) fun s2 => chk (sm s2) (bnd (workE (decide (max n m * (2 * max n m * (max x y + s2) + 1) + 2 * max n m * (max x y + s2) ≤ 12000))) fun _ =>
  bnd (sizeE (max n m)) fun s => .ok [max x y + max n m / 3 + 1 + s]))
def callB (w : Str) (ts : List Tr) (bs : List (List Int)) (ks : List Kd) : BX (List Int) :=
  if w = "rest" then bnd (litAt ts) fun n => bnd (sizeE (n - 1)) fun z => .ok [z]
  else if w = "row" ∨ w = "poly" ∨ w = "table" ∨ w = "gcd" then bnd (headsB bs) fun hs => chk (decide (hs ≠ [])) (.ok [maxL hs])
  else if w = "root" then bnd (litAt ts) fun n => bnd (hd1 bs) fun x => chk (sm x && (sm n && decide (0 < n))) (.ok [(x + n - 1) / n])
  else if w = "power" then cPow bs
  else if w = "dot" then bnd (hd2 bs) fun p => bnd (i1B ks) fun n => bnd (sizeE n) fun s => .ok [p.1 + p.2 + s]
  else if w = "item" ∨ w = "lift" ∨ w = "turned" then hdB bs
  else if w = "top" then bnd (hd1 bs) fun x => .ok [x]
  else if w = "bottom" then cBot bs
  else if w = "at" then bnd (hd2 bs) fun p => bnd (i1B ks) fun n => chk (sm n && sm p.2) (bnd (sizeE n) fun s => .ok [p.1 + (n - 1) * p.2 + s])
  else if w = "polyquo" ∨ w = "polymod" then bnd (hd2 bs) fun p => bnd (i1B ks) fun n => chk (sm n && sm p.2) (.ok [p.1 + n * (p.2 + 1)])
  else if w = "polygcd" then bnd (hd2 bs) fun p => bnd (polys2 ks) fun q => cGcd q.1 q.2 p.1 p.2
  else if w = "reduced" then bnd (hd1 bs) fun x => bnd (i1B ks) fun r => bnd (i2B ks) fun c => chk (sm r && sm c) (bnd (sizeE (r * c)) fun s => .ok [x + s])
  else bnd (i1B ks) fun r => bnd (i2B ks) fun c => bnd (headsB bs) fun hs => chk (decide (hs ≠ []) && (sm r && (sm c && sm (maxL hs)))) (bnd (sizeE (min r c)) fun s => chk (sm s)
    (if w = "solved" then .ok [min r c * (maxL hs + s)] else .ok [2 * (min r c * (maxL hs + s)) + s]))
abbrev BL := List (Str × Kd × List Int)
def bget : BL → Str → Option (Kd × List Int)
  | [], _ => none
  | (k, v) :: r, x => if x = k then some v else bget r x
def knm (l : BL) (x : Str) : Option Kd := (bget l x).map (·.1)
def kindB (l : BL) (t : Tr) : BX Kd := match kindOf (knm l) t with
  | .ok k => .ok k
  | .error _ => bad
mutual
def boundOf (l : BL) : Tr → BX (Kd × List Int)
  | .int n => bnd (sizeE n) fun z => bnd (letE [z]) fun b => .ok (.int, b)
  | .name x => (match bget l x with
    | some p => .ok p
    | none => bad)
  | .neg t => boundOf l t
  | .pow t e => bnd (boundOf l t) fun p => bnd (kindB l (.pow t e)) fun k => bnd (powB p.2 e p.1) fun b => bnd (letE b) fun b => .ok (k, b)
  | .call w ts => bnd (boundsOf l ts) fun ps => bnd (callB w ts (ps.map (·.2)) (ps.map (·.1))) fun b => bnd (kindB l (.call w ts)) fun k => bnd (letE b) fun b => .ok (k, b)
  | .two o t u => bnd (boundOf l t) fun p => bnd (boundOf l u) fun q => bnd (twoB o p.2 q.2 p.1 q.1) fun b => bnd (kindB l (.two o t u)) fun k => bnd (letE b) fun b => .ok (k, b)
def boundsOf (l : BL) : List Tr → BX (List (Kd × List Int))
  | [] => .ok []
  | t :: ts => bnd (boundOf l t) fun p => bnd (boundsOf l ts) fun ps => .ok (p :: ps)
end
def bD (b : List Int) : D := .tup (b.map D.int)
def pbD (p : Kd × List Int) : D := .tup [p.1.d, bD p.2]
def blD (l : BL) : List (Key × D) := l.map fun p => (.inr p.1, pbD p.2)
theorem blD_get : ∀ (l : BL) (x : Str), vget (blD l) (.inr x) = (bget l x).map pbD
  | [], x => rfl
  | (k, v) :: r, x => by
    have ih := blD_get r x
    show vget ((.inr k, pbD v) :: blD r) (.inr x) = (if x = k then some v else bget r x).map pbD
    rw [vget_cons, ih]
    by_cases e : x = k
    · subst e; simp
    · rw [if_neg e, if_neg (fun z => e (Sum.inr.inj z).symm)]
/-! ### small numbers -/
def Bt (n : Nat) (i : Int) : Prop := i.natAbs < 2 ^ n
theorem Bt.mul {m n : Nat} {i j : Int} (a : Bt m i) (b : Bt n j) : Bt (m + n) (i * j) := by
  unfold Bt at *
  rw [Int.natAbs_mul, Nat.pow_add]
  exact Nat.mul_lt_mul'' a b
theorem Bt.add {m : Nat} {i j : Int} (a : Bt m i) (b : Bt m j) : Bt (m + 1) (i + j) := by
  unfold Bt at *
  rw [Nat.pow_succ]
  omega
theorem Bt.mono {m n : Nat} {i : Int} (a : Bt m i) (h : m ≤ n) : Bt n i := Nat.lt_of_lt_of_le a (Nat.pow_le_pow_right (by decide) h)
theorem Bt.ok {m n : Nat} {i j : Int} (a : Bt m i) (b : Bt n j) (h : m + n ≤ 134217728 := by decide) : mulOk i j := mulOk_of a b h
theorem sm_iff {i : Int} : sm i = true ↔ -1000000000 ≤ i ∧ i ≤ 1000000000 := by unfold sm; simp
theorem sm_bt {i : Int} (h : sm i = true) : Bt 30 i := by
  have := sm_iff.mp h
  unfold Bt
  omega
theorem bt_of {i : Int} {n : Nat} (h : -1000000000 ≤ i ∧ i ≤ 1000000000) (hn : 30 ≤ n := by decide) : Bt n i := (sm_bt (sm_iff.mpr h)).mono hn
theorem size_len {n : Int} (h : n.natAbs.log2 < 1920) : (Str.ofString (toString n)).length ≤ 1921 := by
  rw [PySem.ofString_length]; exact PySem.int_text_length_le (k := 1920) (by decide) h
theorem sizeI_40 : sizeI 40 = 2 := by decide +kernel
section
variable {m n r c : Int}
theorem kw1 : Kd.int.w = "int" := (rfl)
theorem kw2 : Kd.frac.w = "frac" := (rfl)
theorem kw3 : (Kd.rest m).w = "rest" := (rfl)
theorem kw4 : (Kd.poly n).w = "poly" := (rfl)
theorem kw5 : (Kd.row n).w = "row" := (rfl)
theorem kw6 : (Kd.table r c).w = "table" := (rfl)
theorem kw7 : (Kd.answer r c).w = "answer" := (rfl)
theorem ki3 : (Kd.rest m).i1 = some m := (rfl)
theorem ki4 : (Kd.poly n).i1 = some n := (rfl)
theorem ki5 : (Kd.row n).i1 = some n := (rfl)
theorem ki6 : (Kd.table r c).i1 = some r := (rfl)
theorem ki7 : (Kd.answer r c).i1 = some r := (rfl)
theorem kj6 : (Kd.table r c).i2 = some c := (rfl)
theorem kj7 : (Kd.answer r c).i2 = some c := (rfl)
theorem w_restF {k : Kd} (h : ∀ m, k ≠ .rest m) : (k.w = Str.ofString "rest") = False := by cases k <;> simp [Kd.w, e_ofStr] at h ⊢
theorem w_fracF {k : Kd} (h : k ≠ .frac) : (k.w = Str.ofString "frac") = False := by cases k <;> simp [Kd.w, e_ofStr] at h ⊢
end
end K04

set_option Elab.async false
set_option linter.all false
set_option maxRecDepth 100000
set_option maxHeartbeats 2000000
/-! M03: drawn trees, plain. -/
namespace K04
open PySem PySem.Spec PyProof.Rows L2 DL
abbrev NL := List (Str × Kd)
def nget : NL → Str → Option Kd
  | [], _ => none
  | (k, v) :: r, x => if x = k then some v else nget r x
def kvN (l : NL) : List (Key × D) := l.map fun p => (.inr p.1, p.2.d)
/-! ### a law's own kinds -/
def lkMix (o : Op) (a b : Kd) : Kd := match a, b with
  | .poly n, .poly m => .poly (if o = .mul then n + m - 1 else max n m)
  | a, b => if a = .int then b else a
def lkTwo (o : Op) (a b : Kd) : Option Kd := match o with
  | .quo | .mod => some .int
  | .div => some (if (a = .int ∨ a = .frac) ∧ (b = .int ∨ b = .frac) then .frac else if a.w = "rest" then a else b)
  | .mul => (match a with
    | .table r _ => (match b with
      | .row _ => some (.row r)
      | b => b.i2.map fun c => .table r c)
    | a => some (lkMix .mul a b))
  | o => some (lkMix o a b)
def lkPow (k : Kd) (e : Int) : Kd := match k with
  | .poly n => .poly ((n - 1) * e + 1)
  | k => k
def lkCall (w : Str) (ts : List Tr) (ks : List Kd) : Option Kd :=
  if w = "row" then some (.row ks.length) else if w = "poly" then some (.poly ks.length)
  else if w = "table" then (match ks with
    | k :: _ => k.i1.map fun n => .table ks.length n
    | [] => none)
  else if w = "rest" then (match ts with
    | [_, .int n] => some (.rest n)
    | _ => none)
  else if w = "polyquo" ∨ w = "polymod" ∨ w = "polygcd" then (match ks with
    | [.poly n, .poly m] => some (.poly (if w = "polyquo" then n else max n m))
    | _ => none)
  else if w = "turned" then (match ks with
    | [.table r c] => some (.table c r)
    | _ => none)
  else if w = "solved" ∨ w = "whole" then (match ks with
    | .table r c :: _ => some (.answer r c)
    | _ => none)
  else if w = "reduced" ∨ w = "hermite" then ks.head? else some .int
mutual
def lk (nm : Str → Option Kd) : Tr → Option Kd
  | .int _ => some .int
  | .name x => nm x
  | .neg t => lk nm t
  | .pow t e => (match lk nm t with
    | some k => some (lkPow k e)
    | none => none)
  | .two o a b => (match lk nm a with
    | some x => (match lk nm b with
      | some y => lkTwo o x y
      | none => none)
    | none => none)
  | .call w ts => (match lks nm ts with
    | some ks => lkCall w ts ks
    | none => none)
def lks (nm : Str → Option Kd) : List Tr → Option (List Kd)
  | [] => some []
  | t :: ts => (match lk nm t with
    | some k => (match lks nm ts with
      | some ks => some (k :: ks)
      | none => none)
    | none => none)
end
mutual
/-- trees that the law's own kinds read without a fault -/
def Tr.lok (nm : Str → Option Kd) : Tr → Prop
  | .int _ => True
  | .name _ => True
  | .neg t => t.lok nm
  | .pow t e => t.lok nm ∧ (∀ n, lk nm t = some (.poly n) → -1000000 ≤ n ∧ n ≤ 1000000) ∧ -1000000 ≤ e ∧ e ≤ 1000000
  | .call w ts => Tr.loks nm ts ∧ ts.length ≤ 1000
  | .two _ a b => a.lok nm ∧ b.lok nm
def Tr.loks (nm : Str → Option Kd) : List Tr → Prop
  | [] => True
  | t :: ts => t.lok nm ∧ Tr.loks nm ts
end
theorem lok_mem {nm : Str → Option Kd} {t : Tr} : ∀ {ts : List Tr}, Tr.loks nm ts → t ∈ ts → t.lok nm
  | u :: us, h, m => by
    unfold Tr.loks at h
    cases m with
    | head => exact h.1
    | tail _ m => exact lok_mem h.2 m
theorem lks_mem {nm : Str → Option Kd} {t : Tr} : ∀ {ts : List Tr} {ks : List Kd}, lks nm ts = some ks → t ∈ ts → ∃ k, lk nm t = some k
  | u :: us, ks, h, m => by
    unfold lks at h
    cases e : lk nm u with
    | none => rw [e] at h; cases h
    | some k =>
      rw [e] at h
      cases e2 : lks nm us with
      | none => rw [e2] at h; cases h
      | some r =>
        cases m with
        | head => exact ⟨k, e⟩
        | tail _ m => exact lks_mem e2 m
def lkD (nm : Str → Option Kd) (t : Tr) : D := match lk nm t with
  | some k => k.d
  | none => .non
theorem lks_map {nm : Str → Option Kd} : ∀ {ts : List Tr} {ks : List Kd}, lks nm ts = some ks → ts.map (lkD nm) = ks.map Kd.d
  | [], ks, h => by unfold lks at h; cases h; rfl
  | u :: us, ks, h => by
    unfold lks at h
    cases e : lk nm u with
    | none => rw [e] at h; cases h
    | some k =>
      rw [e] at h
      cases e2 : lks nm us with
      | none => rw [e2] at h; cases h
      | some r =>
        rw [e2] at h
        cases h
        rw [List.map_cons, List.map_cons, lks_map e2]
        unfold lkD; rw [e]
/-! ### drawn trees -/
def NumOk (n : Int) : Prop := 0 ≤ n ∧ n < 10 ^ 29 + 100
inductive Gen (nl : NL) : Kd → Nat → Tr → Prop
  | name {x k d} : (x, k) ∈ nl → Gen nl k d (.name x)
  | num {n d} : NumOk n → Gen nl .int d (.int n)
  | negn {n d} : NumOk n → Gen nl .int d (.neg (.int n))
  | itwo {o a b d} : o ≠ .div → Gen nl .int d a → Gen nl .int d b → Gen nl .int (d + 1) (.two o a b)
  | ipow {a e d} : Gen nl .int d a → 0 ≤ e → e < 4 → Gen nl .int (d + 1) (.pow a e)
  | gcd {a b d} : Gen nl .int d a → Gen nl .int d b → Gen nl .int (d + 1) (.call "gcd" [a, b])
  | root {a e d} : Gen nl .int d a → 1 ≤ e → e ≤ 4 → Gen nl .int (d + 1) (.call "root" [a, .int e])
  | power {a e n d} : Gen nl .int d a → 0 ≤ e → e < 40 → NumOk n → Gen nl .int (d + 1) (.call "power" [a, .int e, .two .add (.int n) (.int 1)])
  | dot {m a b d} : 1 ≤ m → m ≤ 3 → Gen nl (.row m) d a → Gen nl (.row m) d b → Gen nl .int (d + 1) (.call "dot" [a, b])
  | item {m a i d} : 1 ≤ m → m ≤ 3 → Gen nl (.row m) d a → 0 ≤ i → i < m → Gen nl .int (d + 1) (.call "item" [a, .int i])
  | pat {n a i d} : Gen nl (.poly n) d a → 0 ≤ i → i < 9 → Gen nl .int (d + 1) (.call "at" [a, .int i])
  | top {a d} : Gen nl .frac d a → Gen nl .int (d + 1) (.call "top" [a])
  | bottom {a d} : Gen nl .frac d a → Gen nl .int (d + 1) (.call "bottom" [a])
  | lift {a d} : Gen nl (.rest 7) d a → Gen nl .int (d + 1) (.call "lift" [a])
  | fdiv {a b d} : Gen nl .int (d - 1) a → Gen nl .int (d - 1) b → Gen nl .frac d (.two .div a b)
  | ftwo {o k l a b d} : (o = .add ∨ o = .mul ∨ o = .div) → (k = .frac ∧ l = .frac ∨ k = .frac ∧ l = .int ∨ k = .int ∧ l = .frac) → Gen nl k d a → Gen nl l d b → Gen nl .frac (d + 1) (.two o a b)
  | fpow {a e d} : Gen nl .frac d a → 0 ≤ e → e < 4 → Gen nl .frac (d + 1) (.pow a e)
  | fneg {a d} : Gen nl .frac d a → Gen nl .frac (d + 1) (.neg a)
  | rlit {m a d} : 2 ≤ m → m ≤ 97 → Gen nl .int (d - 1) a → Gen nl (.rest m) d (.call "rest" [a, .int m])
  | rtwo {m o k l a b d} : 2 ≤ m → m ≤ 97 → (o = .add ∨ o = .mul ∨ o = .div) → (k = .rest m ∧ l = .rest m ∨ k = .rest m ∧ l = .int ∨ k = .int ∧ l = .rest m) → Gen nl k d a → Gen nl l d b → Gen nl (.rest m) (d + 1) (.two o a b)
  | rpow {m a e d} : 2 ≤ m → m ≤ 97 → Gen nl (.rest m) d a → 0 ≤ e → e < 30 → Gen nl (.rest m) (d + 1) (.pow a e)
  | rneg {m a d} : 2 ≤ m → m ≤ 97 → Gen nl (.rest m) d a → Gen nl (.rest m) (d + 1) (.neg a)
  | plit {ts d} : 1 ≤ ts.length → ts.length ≤ 4 → (∀ t, t ∈ ts → Gen nl .int (d - 2) t) → Gen nl (.poly ts.length) d (.call "poly" ts)
  | ptwo {o n m a b d} : (o = .add ∨ o = .sub ∨ o = .mul) → Gen nl (.poly n) d a → Gen nl (.poly m) d b → Gen nl (.poly (if o = .mul then n + m - 1 else max n m)) (d + 1) (.two o a b)
  | pint {o n a b d} : (o = .add ∨ o = .sub ∨ o = .mul) → Gen nl (.poly n) d a → Gen nl .int d b → Gen nl (.poly n) (d + 1) (.two o a b)
  | pneg {n a d} : Gen nl (.poly n) d a → Gen nl (.poly n) (d + 1) (.neg a)
  | ppow {n a e d} : Gen nl (.poly n) d a → 0 ≤ e → e < 3 → Gen nl (.poly ((n - 1) * e + 1)) (d + 1) (.pow a e)
  | pquo {n m a b d} : Gen nl (.poly n) d a → Gen nl (.poly m) d b → Gen nl (.poly n) (d + 1) (.call "polyquo" [a, b])
  | pmod {n m a b d} : Gen nl (.poly n) d a → Gen nl (.poly m) d b → Gen nl (.poly (max n m)) (d + 1) (.call "polymod" [a, b])
  | pgcd {n m a b d} : Gen nl (.poly n) d a → Gen nl (.poly m) d b → Gen nl (.poly (max n m)) (d + 1) (.call "polygcd" [a, b])
  | wlit {ts d} : 1 ≤ ts.length → ts.length ≤ 3 → (∀ t, t ∈ ts → Gen nl .int (d - 2) t) → Gen nl (.row ts.length) d (.call "row" ts)
  | wtwo {m o a b d} : 1 ≤ m → m ≤ 3 → (o = .add ∨ o = .sub) → Gen nl (.row m) d a → Gen nl (.row m) d b → Gen nl (.row m) (d + 1) (.two o a b)
  | wint {m a b d} : 1 ≤ m → m ≤ 3 → Gen nl .int d a → Gen nl (.row m) d b → Gen nl (.row m) (d + 1) (.two .mul a b)
  | wtab {m o a b d} : 1 ≤ m → m ≤ 3 → 1 ≤ o → o ≤ 3 → Gen nl (.table m o) d a → Gen nl (.row o) d b → Gen nl (.row m) (d + 1) (.two .mul a b)
  | tlit {ts c d} : 1 ≤ ts.length → ts.length ≤ 3 → 1 ≤ c → c ≤ 3 → (∀ t, t ∈ ts → Gen nl (.row c) (d - 1) t) → Gen nl (.table ts.length c) d (.call "table" ts)
  | tsub {r c a b d} : 1 ≤ r → r ≤ 3 → 1 ≤ c → c ≤ 3 → Gen nl (.table r c) d a → Gen nl (.table r c) d b → Gen nl (.table r c) (d + 1) (.two .sub a b)
  | turn {r c a d} : 1 ≤ r → r ≤ 3 → 1 ≤ c → c ≤ 3 → Gen nl (.table c r) d a → Gen nl (.table r c) (d + 1) (.call "turned" [a])
  | tneg {r c a d} : 1 ≤ r → r ≤ 3 → 1 ≤ c → c ≤ 3 → Gen nl (.table r c) d a → Gen nl (.table r c) (d + 1) (.neg a)
  | tpow {r a e d} : 1 ≤ r → r ≤ 3 → Gen nl (.table r r) d a → 0 ≤ e → e < 4 → Gen nl (.table r r) (d + 1) (.pow a e)
  | tmul {r o c a b d} : 1 ≤ r → r ≤ 3 → 1 ≤ o → o ≤ 3 → 1 ≤ c → c ≤ 3 → Gen nl (.table r o) d a → Gen nl (.table o c) d b → Gen nl (.table r c) (d + 1) (.two .mul a b)
/-- names by which trees are drawn -/
structure NlOk (nl : NL) : Prop where
  get : ∀ p, p ∈ nl → nget nl p.1 = some p.2
  poly : ∀ x n, (x, Kd.poly n) ∈ nl → 1 ≤ n ∧ n ≤ 4
  noans : ∀ x r c, (x, Kd.answer r c) ∉ nl
/-- what holds of a drawn tree -/
def KB (d : Nat) : Kd → Prop
  | .poly n => 1 ≤ n ∧ n ≤ 3 * 2 ^ d + 1
  | .answer _ _ => False
  | _ => True
def h0 : Kd → Nat
  | .int => 2
  | .table _ _ => 4
  | _ => 3
def HB (k : Kd) (d : Nat) : Nat := if d = 0 then h0 k else d + 4
structure GP (nl : NL) (k : Kd) (d : Nat) (t : Tr) : Prop where
  lk : lk (nget nl) t = some k
  kd : kindOf (nget nl) t = .ok k
  ok : t.ok (nget nl)
  lok : t.lok (nget nl)
  kb : KB d k
  ht : t.ht ≤ HB k d
theorem HB_le {k : Kd} {d : Nat} : HB k d ≤ d + 4 := by
  cases d <;> cases k <;> simp [HB, h0]
theorem HB_succ {k : Kd} {d : Nat} : HB k (d + 1) = d + 1 + 4 := rfl
theorem HB_i {d : Nat} : HB .int (d - 1) + 1 ≤ HB .frac d ∧ (∀ m, HB .int (d - 1) + 1 ≤ HB (.rest m) d) ∧ (∀ m, HB .int (d - 2) + 1 ≤ HB (.poly m) d) ∧ (∀ m, HB .int (d - 2) + 1 ≤ HB (.row m) d) ∧ ∀ c r m, HB (.row c) (d - 1) + 1 ≤ HB (.table r m) d := by
  match d with
  | 0 => simp [HB, h0]
  | 1 => simp [HB, h0]
  | 2 => simp [HB, h0]
  | d + 3 => simp [HB, h0]
theorem lks_of {nm : Str → Option Kd} {k : Kd} : ∀ {ts : List Tr}, (∀ t, t ∈ ts → lk nm t = some k) → lks nm ts = some (List.replicate ts.length k)
  | [], _ => by unfold lks; rfl
  | t :: ts, h => by
    unfold lks
    rw [h t List.mem_cons_self, lks_of fun u hu => h u (List.mem_cons_of_mem _ hu)]
    rfl
theorem kinds_of {nm : Str → Option Kd} {k : Kd} : ∀ {ts : List Tr}, (∀ t, t ∈ ts → kindOf nm t = .ok k) → kindsOf nm ts = .ok (List.replicate ts.length k)
  | [], _ => by unfold kindsOf; rfl
  | t :: ts, h => by
    unfold kindsOf
    rw [h t List.mem_cons_self, kinds_of fun u hu => h u (List.mem_cons_of_mem _ hu)]
    rfl
theorem oks_of {nm : Str → Option Kd} : ∀ {ts : List Tr}, (∀ t, t ∈ ts → t.ok nm) → Tr.oks nm ts
  | [], _ => by unfold Tr.oks; trivial
  | t :: ts, h => by
    unfold Tr.oks
    exact ⟨h t List.mem_cons_self, oks_of fun u hu => h u (List.mem_cons_of_mem _ hu)⟩
theorem loks_of {nm : Str → Option Kd} : ∀ {ts : List Tr}, (∀ t, t ∈ ts → t.lok nm) → Tr.loks nm ts
  | [], _ => by unfold Tr.loks; trivial
  | t :: ts, h => by
    unfold Tr.loks
    exact ⟨h t List.mem_cons_self, loks_of fun u hu => h u (List.mem_cons_of_mem _ hu)⟩
theorem hts_of {n : Nat} : ∀ {ts : List Tr}, (∀ t, t ∈ ts → t.ht ≤ n) → Tr.hts ts ≤ n
  | [], _ => by unfold Tr.hts; omega
  | t :: ts, h => by
    unfold Tr.hts
    have := h t List.mem_cons_self
    have := hts_of (ts := ts) fun u hu => h u (List.mem_cons_of_mem _ hu)
    omega
theorem pb_le {d : Nat} (h : d ≤ 3) : (3 * 2 ^ d + 1 : Int) ≤ 25 := by
  match d, h with
  | 0, _ => decide
  | 1, _ => decide
  | 2, _ => decide
  | 3, _ => decide
theorem pb_succ {d : Nat} : (3 * 2 ^ (d + 1) + 1 : Int) = 2 * (3 * 2 ^ d + 1) - 1 := by
  rw [Int.pow_succ]; omega
theorem all_rep {k : Kd} {n : Nat} : (List.replicate n k).all (fun x => decide (x = k)) = true := by
  rw [List.all_eq_true]
  intro x hx
  rw [(List.mem_replicate.mp hx).2]; simp
theorem kb_mono {k : Kd} {d : Nat} (hd : d + 1 ≤ 3) (h : KB d k) : KB (d + 1) k := by
  cases k with
  | poly n =>
    have e := pb_succ (d := d)
    obtain ⟨a, b⟩ := h
    exact ⟨a, by rw [e]; omega⟩
  | _ => exact h
section
variable {nl : NL} {k k0 ka kb : Kd} {d : Nat} {a b : Tr} {o : Op} {e : Int}
theorem two_gp (ga : GP nl ka d a) (gb : GP nl kb d b) (h1 : lkTwo o ka kb = some k) (h2 : twoK o ka kb = .ok k) (h3 : KB (d + 1) k) : GP nl k (d + 1) (.two o a b) where
  lk := by unfold K04.lk; rw [ga.lk, gb.lk]; exact h1
  kd := by unfold kindOf; rw [ga.kd, gb.kd]; exact h2
  ok := by unfold Tr.ok; exact ⟨ga.ok, gb.ok⟩
  lok := by unfold Tr.lok; exact ⟨ga.lok, gb.lok⟩
  kb := h3
  ht := by
    have x := Nat.le_trans ga.ht HB_le
    have y := Nat.le_trans gb.ht HB_le
    rw [HB_succ]; unfold Tr.ht; omega
theorem neg_gp (ga : GP nl k d a) (hd : d + 1 ≤ 3) : GP nl k (d + 1) (.neg a) where
  lk := by unfold K04.lk; exact ga.lk
  kd := by
    unfold kindOf; rw [ga.kd]
    have q : k.w ≠ "answer" := by
      have := ga.kb
      cases k <;> first | exact this.elim | simp [Kd.w, e_ofStr]
    simp [needK, q]
  ok := by unfold Tr.ok; exact ga.ok
  lok := by unfold Tr.lok; exact ga.lok
  kb := kb_mono hd ga.kb
  ht := by
    have x := Nat.le_trans ga.ht HB_le
    rw [HB_succ]; unfold Tr.ht; omega
theorem pow_gp (ga : GP nl k d a) (he : 0 ≤ e) (he2 : e < 30) (hd : d + 1 ≤ 3) (hr : ∀ n, k ≠ .row n) (ht : ∀ r c, k = .table r c → r = c) (hp : ∀ n, k = .poly n → e < 3) : GP nl (lkPow k e) (d + 1) (.pow a e) where
  lk := by unfold K04.lk; rw [ga.lk]
  kd := by
    unfold kindOf; rw [ga.kd]
    have q := ga.kb
    cases k with
    | poly n =>
      have e3 := hp n rfl
      obtain ⟨a, b⟩ := q
      have b2 := pb_le (d := d + 1) hd
      have b3 := pb_succ (d := d)
      have e4 : e = 0 ∨ e = 1 ∨ e = 2 := by omega
      have e5 : 1 ≤ (n - 1) * e + 1 ∧ (n - 1) * e + 1 ≤ 40 := by rcases e4 with rfl | rfl | rfl <;> omega
      simp only [longK, if_pos e5, lkPow]
    | table r c => simp only [needK, lkPow, ht r c rfl, decide_true, if_true]
    | row n => exact absurd rfl (hr n)
    | answer r c => exact q.elim
    | _ => rfl
  ok := by
    unfold Tr.ok
    refine ⟨ga.ok, fun n hn => ?_, by omega, by omega⟩
    rw [ga.kd] at hn
    cases hn
    have b2 := pb_le (d := d) (by omega)
    have := ga.kb
    obtain ⟨x, y⟩ := this
    omega
  lok := by
    unfold Tr.lok
    refine ⟨ga.lok, fun n hn => ?_, by omega, by omega⟩
    rw [ga.lk] at hn
    cases hn
    have b2 := pb_le (d := d) (by omega)
    have := ga.kb
    obtain ⟨x, y⟩ := this
    omega
  kb := by
    have q := ga.kb
    cases k with
    | poly n =>
      have e3 := hp n rfl
      obtain ⟨a, b⟩ := q
      have b3 := pb_succ (d := d)
      have e4 : e = 0 ∨ e = 1 ∨ e = 2 := by omega
      show 1 ≤ (n - 1) * e + 1 ∧ (n - 1) * e + 1 ≤ _
      rw [b3]
      rcases e4 with rfl | rfl | rfl <;> omega
    | answer r c => exact q.elim
    | _ => trivial
  ht := by
    have x := Nat.le_trans ga.ht HB_le
    rw [HB_succ]; unfold Tr.ht; omega
theorem call_gp {w : Str} {ts : List Tr} {ks : List Kd} (h1 : lks (nget nl) ts = some ks) (h2 : kindsOf (nget nl) ts = .ok ks) (h3 : Tr.oks (nget nl) ts) (h3l : Tr.loks (nget nl) ts) (h4 : ts.length ≤ 1000) (h5 : ts ≠ []) (h6 : lkCall w ts ks = some k) (h7 : callK w ts ks = .ok k) (h8 : KB d k) (h9 : Tr.hts ts + 1 ≤ HB k d) : GP nl k d (.call w ts) where
  lk := by unfold K04.lk; rw [h1]; exact h6
  kd := by unfold kindOf; rw [h2]; exact h7
  ok := by unfold Tr.ok; exact ⟨h3, h4, fun _ => h5⟩
  lok := by unfold Tr.lok; exact ⟨h3l, h4⟩
  kb := h8
  ht := by unfold Tr.ht; exact h9
theorem int_gp {n : Int} : GP nl .int d (.int n) where
  lk := by unfold K04.lk; rfl
  kd := by unfold kindOf; rfl
  ok := by unfold Tr.ok; trivial
  lok := by unfold Tr.lok; trivial
  kb := trivial
  ht := by unfold Tr.ht; cases d <;> simp [HB, h0]
theorem call1_gp {w : Str} (ga : GP nl ka d a) (h6 : lkCall w [a] [ka] = some k) (h7 : callK w [a] [ka] = .ok k) (h8 : KB (d + 1) k) : GP nl k (d + 1) (.call w [a]) := by
  refine call_gp (ks := [ka]) (by unfold lks; rw [ga.lk]; unfold lks; rfl) (by unfold kindsOf; rw [ga.kd]; unfold kindsOf; rfl) (by unfold Tr.oks Tr.oks; exact ⟨ga.ok, trivial⟩) (by unfold Tr.loks Tr.loks; exact ⟨ga.lok, trivial⟩) (by simp) (by simp) h6 h7 h8 ?_
  have x := Nat.le_trans ga.ht HB_le
  rw [HB_succ]; unfold Tr.hts Tr.hts; omega
theorem add1_gp {n : Int} : GP nl .int d (.two .add (.int n) (.int 1)) where
  lk := by unfold K04.lk K04.lk; rfl
  kd := by unfold kindOf kindOf; rfl
  ok := by unfold Tr.ok Tr.ok; trivial
  lok := by unfold Tr.lok Tr.lok; trivial
  kb := trivial
  ht := by unfold Tr.ht Tr.ht; cases d <;> simp [HB, h0]
theorem call3_gp {w : Str} {c : Tr} {kc : Kd} (ga : GP nl ka d a) (gb : GP nl kb d b) (gc : GP nl kc d c) (h6 : lkCall w [a, b, c] [ka, kb, kc] = some k) (h7 : callK w [a, b, c] [ka, kb, kc] = .ok k) (h8 : KB (d + 1) k) : GP nl k (d + 1) (.call w [a, b, c]) := by
  refine call_gp (ks := [ka, kb, kc]) (by simp only [lks, ga.lk, gb.lk, gc.lk]) (by simp only [kindsOf, ga.kd, gb.kd, gc.kd]) (by simp only [Tr.oks]; exact ⟨ga.ok, gb.ok, gc.ok, trivial⟩) (by simp only [Tr.loks]; exact ⟨ga.lok, gb.lok, gc.lok, trivial⟩) (by simp) (by simp) h6 h7 h8 ?_
  have x := Nat.le_trans ga.ht HB_le
  have y := Nat.le_trans gb.ht HB_le
  have z := Nat.le_trans gc.ht HB_le
  rw [HB_succ]; simp only [Tr.hts]; omega
theorem call2_gp {w : Str} (ga : GP nl ka d a) (gb : GP nl kb d b) (h6 : lkCall w [a, b] [ka, kb] = some k) (h7 : callK w [a, b] [ka, kb] = .ok k) (h8 : KB (d + 1) k) : GP nl k (d + 1) (.call w [a, b]) := by
  refine call_gp (ks := [ka, kb]) (by unfold lks; rw [ga.lk]; unfold lks; rw [gb.lk]; unfold lks; rfl) (by unfold kindsOf; rw [ga.kd]; unfold kindsOf; rw [gb.kd]; unfold kindsOf; rfl) (by unfold Tr.oks Tr.oks Tr.oks; exact ⟨ga.ok, gb.ok, trivial⟩) (by unfold Tr.loks Tr.loks Tr.loks; exact ⟨ga.lok, gb.lok, trivial⟩) (by simp) (by simp) h6 h7 h8 ?_
  have x := Nat.le_trans ga.ht HB_le
  have y := Nat.le_trans gb.ht HB_le
  rw [HB_succ]; unfold Tr.hts Tr.hts Tr.hts; omega
end
theorem gen_all {nl : NL} {k : Kd} {d : Nat} {t : Tr} (hn : NlOk nl) (h : Gen nl k d t) : d ≤ 3 → GP nl k d t := by
  induction h with
  | @name x k d h =>
    intro hd
    refine ⟨by unfold K04.lk; exact hn.get _ h, by unfold kindOf; rw [hn.get _ h], by unfold Tr.ok; trivial, by unfold Tr.lok; trivial, ?_, ?_⟩
    · cases k with
      | poly n =>
        have := hn.poly _ _ h
        have q : (3 * 2 ^ 0 + 1 : Int) ≤ 3 * 2 ^ d + 1 := by
          match d, hd with
          | 0, _ => decide
          | 1, _ => decide
          | 2, _ => decide
          | 3, _ => decide
        exact ⟨this.1, by have : (3 * 2 ^ 0 + 1 : Int) = 4 := by decide
                          omega⟩
      | answer r c => exact hn.noans _ _ _ h
      | _ => trivial
    · unfold Tr.ht
      cases d <;> cases k <;> simp [HB, h0]
  | num h => exact fun _ => int_gp
  | @negn n d h =>
    intro _
    refine ⟨by unfold K04.lk K04.lk; rfl, by unfold kindOf kindOf; simp [needK, Kd.w, e_ofStr], by unfold Tr.ok Tr.ok; trivial, by unfold Tr.lok Tr.lok; trivial, trivial, ?_⟩
    unfold Tr.ht Tr.ht
    cases d <;> simp [HB, h0]
  | @itwo o a b d ho _ _ ia ib => exact fun hd => two_gp (ia (by omega)) (ib (by omega)) (by cases o <;> first | exact absurd rfl ho | rfl) (by cases o <;> first | exact absurd rfl ho | rfl) trivial
  | ipow _ h1 h2 ia => exact fun hd => pow_gp (k := .int) (ia (by omega)) h1 (by omega) hd (by simp) (by simp) (by simp)
  | gcd _ _ ia ib => exact fun hd => call2_gp (ia (by omega)) (ib (by omega)) (by simp [lkCall, e_ofStr]) (by simp [callK, forms, formsT, formK, e_ofStr, Kd.w, Kd.i1, writtenT, needK, shortK, longK]) trivial
  | root _ h1 h2 ia => exact fun hd => call2_gp (ia (by omega)) int_gp (by simp [lkCall, e_ofStr]) (by simp [callK, forms, formsT, formK, e_ofStr, Kd.w, Kd.i1, writtenT, needK, shortK, longK, h1, show _ ≤ (40 : Int) from Int.le_trans h2 (by decide)]) trivial
  | power _ h1 h2 h3 ia => exact fun hd => call3_gp (ia (by omega)) int_gp add1_gp (by simp [lkCall, e_ofStr]) (by simp [callK, forms, formsT, formK, e_ofStr, Kd.w]) trivial
  | dot _ _ _ _ ia ib => exact fun hd => call2_gp (ia (by omega)) (ib (by omega)) (by simp [lkCall, e_ofStr]) (by simp [callK, forms, formsT, formK, e_ofStr, Kd.w, Kd.i1, writtenT, needK, shortK, longK]) trivial
  | item _ _ _ h1 h2 ia => exact fun hd => call2_gp (ia (by omega)) int_gp (by simp [lkCall, e_ofStr]) (by simp [callK, forms, formsT, formK, e_ofStr, Kd.w, Kd.i1, writtenT, needK, shortK, longK, h1, Int.le_sub_one_of_lt h2]) trivial
  | pat _ _ _ ia => exact fun hd => call2_gp (ia (by omega)) int_gp (by simp [lkCall, e_ofStr]) (by simp [callK, forms, formsT, formK, e_ofStr, Kd.w, Kd.i1, writtenT, needK, shortK, longK]) trivial
  | top _ ia => exact fun hd => call1_gp (ia (by omega)) (by simp [lkCall, e_ofStr]) (by simp [callK, forms, formsT, formK, e_ofStr, Kd.w, Kd.i1, writtenT, needK, shortK, longK]) trivial
  | bottom _ ia => exact fun hd => call1_gp (ia (by omega)) (by simp [lkCall, e_ofStr]) (by simp [callK, forms, formsT, formK, e_ofStr, Kd.w, Kd.i1, writtenT, needK, shortK, longK]) trivial
  | lift _ ia => exact fun hd => call1_gp (ia (by omega)) (by simp [lkCall, e_ofStr]) (by simp [callK, forms, formsT, formK, e_ofStr, Kd.w, Kd.i1, writtenT, needK, shortK, longK]) trivial
  | @fdiv a b d _ _ ia ib =>
    intro hd
    have ga := ia (by omega)
    have gb := ib (by omega)
    have e := (HB_i (d := d)).1
    refine ⟨by unfold K04.lk; rw [ga.lk, gb.lk]; rfl, by unfold kindOf; rw [ga.kd, gb.kd]; rfl, by unfold Tr.ok; exact ⟨ga.ok, gb.ok⟩, by unfold Tr.lok; exact ⟨ga.lok, gb.lok⟩, trivial, ?_⟩
    have := ga.ht
    have := gb.ht
    unfold Tr.ht; omega
  | @ftwo o k l a b d ho hk _ _ ia ib =>
    intro hd
    rcases hk with ⟨rfl, rfl⟩ | ⟨rfl, rfl⟩ | ⟨rfl, rfl⟩ <;> rcases ho with rfl | rfl | rfl <;> exact two_gp (ia (by omega)) (ib (by omega)) (by simp [lkTwo, lkMix, Kd.w, e_ofStr]) (by simp [twoK, joined, multiplied, divided, needO, Kd.w, e_ofStr]) trivial
  | fpow _ h1 h2 ia => exact fun hd => pow_gp (k := .frac) (ia (by omega)) h1 (by omega) hd (by simp) (by simp) (by simp)
  | fneg _ ia => exact fun hd => neg_gp (ia (by omega)) hd
  | @rlit m a d h1 h2 _ ia =>
    intro hd
    have ga := ia (by omega)
    have e := (HB_i (d := d)).2.1 m
    have gi : GP nl .int d (.int m) := int_gp
    refine call_gp (ks := [.int, .int]) (by unfold lks; rw [ga.lk]; unfold lks; rw [gi.lk]; unfold lks; rfl) (by unfold kindsOf; rw [ga.kd]; unfold kindsOf; rw [gi.kd]; unfold kindsOf; rfl) (by unfold Tr.oks Tr.oks Tr.oks; exact ⟨ga.ok, gi.ok, trivial⟩) (by unfold Tr.loks Tr.loks Tr.loks; exact ⟨ga.lok, gi.lok, trivial⟩) (by simp) (by simp) (by simp [lkCall, e_ofStr]) (by simp [callK, e_ofStr, writtenT, h1, show m ≤ (1000000000 : Int) from Int.le_trans h2 (by decide)]) trivial ?_
    have := ga.ht
    have q : (Tr.int m).ht ≤ HB .int (d - 1) := by unfold Tr.ht; cases d - 1 <;> simp [HB, h0]
    unfold Tr.hts Tr.hts Tr.hts; omega
  | @rtwo m o k l a b d _ _ ho hk _ _ ia ib =>
    intro hd
    rcases hk with ⟨rfl, rfl⟩ | ⟨rfl, rfl⟩ | ⟨rfl, rfl⟩ <;> rcases ho with rfl | rfl | rfl <;> exact two_gp (ia (by omega)) (ib (by omega)) (by simp [lkTwo, lkMix, Kd.w, e_ofStr]) (by simp [twoK, joined, multiplied, divided, needO, Kd.w, e_ofStr]) trivial
  | rpow _ _ _ h1 h2 ia => exact fun hd => pow_gp (k := .rest _) (ia (by omega)) h1 (by omega) hd (by simp) (by simp) (by simp)
  | rneg _ _ _ ia => exact fun hd => neg_gp (ia (by omega)) hd
  | @plit ts d h1 h2 _ ia =>
    intro hd
    have g := fun t ht => ia t ht (by omega)
    have e := (HB_i (d := d)).2.2.1 ts.length
    refine call_gp (ks := List.replicate ts.length .int) (lks_of fun t ht => (g t ht).lk) (kinds_of fun t ht => (g t ht).kd) (oks_of fun t ht => (g t ht).ok) (loks_of fun t ht => (g t ht).lok) (by omega) (by intro z; rw [z] at h1; simp at h1) (by simp [lkCall, e_ofStr]) ?_ ?_ ?_
    · unfold callK
      rw [if_neg (by simp [e_ofStr]), if_pos rfl, all_rep, List.length_replicate]
      simp only [needK, longK, if_true]
      rw [if_pos (by omega)]
    · have : (3 * 2 ^ 0 + 1 : Int) ≤ 3 * 2 ^ d + 1 := by
        match d, hd with
        | 0, _ => decide
        | 1, _ => decide
        | 2, _ => decide
        | 3, _ => decide
      have q : (3 * 2 ^ 0 + 1 : Int) = 4 := by decide
      exact ⟨by omega, by omega⟩
    · have := hts_of fun t ht => (g t ht).ht
      omega
  | @ptwo o n m a b d ho _ _ ia ib =>
    intro hd
    have ga := ia (by omega)
    have gb := ib (by omega)
    obtain ⟨a1, a2⟩ := ga.kb
    obtain ⟨b1, b2⟩ := gb.kb
    have b3 := pb_succ (d := d)
    have b4 := pb_le hd
    rcases ho with rfl | rfl | rfl
    · refine two_gp ga gb (by simp [lkTwo, lkMix]) ?_ (by rw [if_neg (by simp)]; show 1 ≤ max n m ∧ max n m ≤ 3 * 2 ^ (d + 1) + 1; rw [b3]; omega)
      simp only [twoK, joined]
      by_cases e : n = m
      · subst e; simp [needO, Kd.w, e_ofStr]
      · simp [needO, Kd.w, e_ofStr, e]
    · refine two_gp ga gb (by simp [lkTwo, lkMix]) ?_ (by rw [if_neg (by simp)]; show 1 ≤ max n m ∧ max n m ≤ 3 * 2 ^ (d + 1) + 1; rw [b3]; omega)
      simp only [twoK, joined]
      by_cases e : n = m
      · subst e; simp [needO, Kd.w, e_ofStr]
      · simp [needO, Kd.w, e_ofStr, e]
    · refine two_gp ga gb (by simp [lkTwo, lkMix]) ?_ (by rw [if_pos rfl]; show 1 ≤ n + m - 1 ∧ n + m - 1 ≤ 3 * 2 ^ (d + 1) + 1; rw [b3]; omega)
      have : 1 ≤ n + m - 1 ∧ n + m - 1 ≤ 40 := by omega
      simp [twoK, multiplied, this, needO]
  | @pint o n a b d ho _ _ ia ib =>
    intro hd
    have ga := ia (by omega)
    rcases ho with rfl | rfl | rfl <;> exact two_gp ga (ib (by omega)) (by simp [lkTwo, lkMix]) (by simp [twoK, joined, multiplied, needO, Kd.w, e_ofStr]) (kb_mono hd ga.kb)
  | pneg _ ia => exact fun hd => neg_gp (ia (by omega)) hd
  | ppow _ h1 h2 ia => exact fun hd => pow_gp (k := .poly _) (ia (by omega)) h1 (by omega) hd (by simp) (by simp) (fun _ _ => h2)
  | @pquo n m a b d _ _ ia ib =>
    intro hd
    have ga := ia (by omega)
    exact call2_gp ga (ib (by omega)) (by simp [lkCall, e_ofStr]) (by simp [callK, forms, formsT, formK, e_ofStr, Kd.w]) (kb_mono hd ga.kb)
  | @pmod n m a b d _ _ ia ib =>
    intro hd
    have ga := ia (by omega)
    have gb := ib (by omega)
    have x : 1 ≤ n ∧ n ≤ 3 * 2 ^ (d + 1) + 1 := kb_mono hd ga.kb
    have y : 1 ≤ m ∧ m ≤ 3 * 2 ^ (d + 1) + 1 := kb_mono hd gb.kb
    exact call2_gp ga gb (by simp [lkCall, e_ofStr]) (by simp [callK, forms, formsT, formK, e_ofStr, Kd.w]) (show 1 ≤ max n m ∧ max n m ≤ 3 * 2 ^ (d + 1) + 1 by omega)
  | @pgcd n m a b d _ _ ia ib =>
    intro hd
    have ga := ia (by omega)
    have gb := ib (by omega)
    have x : 1 ≤ n ∧ n ≤ 3 * 2 ^ (d + 1) + 1 := kb_mono hd ga.kb
    have y : 1 ≤ m ∧ m ≤ 3 * 2 ^ (d + 1) + 1 := kb_mono hd gb.kb
    exact call2_gp ga gb (by simp [lkCall, e_ofStr]) (by simp [callK, forms, formsT, formK, e_ofStr, Kd.w]) (show 1 ≤ max n m ∧ max n m ≤ 3 * 2 ^ (d + 1) + 1 by omega)
  | @wlit ts d h1 h2 _ ia =>
    intro hd
    have g := fun t ht => ia t ht (by omega)
    have e := (HB_i (d := d)).2.2.2.1 ts.length
    refine call_gp (ks := List.replicate ts.length .int) (lks_of fun t ht => (g t ht).lk) (kinds_of fun t ht => (g t ht).kd) (oks_of fun t ht => (g t ht).ok) (loks_of fun t ht => (g t ht).lok) (by omega) (by intro z; rw [z] at h1; simp at h1) (by simp [lkCall, e_ofStr]) ?_ trivial ?_
    · unfold callK
      rw [if_pos rfl, all_rep, List.length_replicate]
      simp only [needK, longK, if_true]
      rw [if_pos (by omega)]
    · have := hts_of fun t ht => (g t ht).ht
      omega
  | @wtwo m o a b d _ _ ho _ _ ia ib =>
    intro hd
    rcases ho with rfl | rfl <;> exact two_gp (ia (by omega)) (ib (by omega)) (by simp [lkTwo, lkMix]) (by simp [twoK, joined, needO, Kd.w, e_ofStr]) trivial
  | wint _ _ _ _ ia ib => exact fun hd => two_gp (ia (by omega)) (ib (by omega)) (by simp [lkTwo, lkMix]) (by simp [twoK, multiplied, needO]) trivial
  | wtab _ _ _ _ _ _ ia ib => exact fun hd => two_gp (ia (by omega)) (ib (by omega)) (by simp [lkTwo, lkMix]) (by simp [twoK, multiplied, needO]) trivial
  | @tlit ts c d h1 h2 _ _ _ ia =>
    intro hd
    have g := fun t ht => ia t ht (by omega)
    have e := (HB_i (d := d)).2.2.2.2 c ts.length c
    obtain ⟨t, r, rfl⟩ : ∃ t r, ts = t :: r := by cases ts with | nil => simp at h1 | cons t r => exact ⟨t, r, rfl⟩
    refine call_gp (ks := List.replicate (t :: r).length (.row c)) (lks_of fun t ht => (g t ht).lk) (kinds_of fun t ht => (g t ht).kd) (oks_of fun t ht => (g t ht).ok) (loks_of fun t ht => (g t ht).lok) (by omega) (by simp) (by simp [lkCall, e_ofStr, List.replicate_succ, Kd.i1]) ?_ trivial ?_
    · unfold callK
      rw [if_neg (by simp [e_ofStr]), if_neg (by simp [e_ofStr]), if_pos rfl]
      rw [List.length_cons, List.replicate_succ]
      simp only [all_rep, needK, longK, if_true, List.length_replicate]
      rw [if_pos (by simp only [List.length_cons] at h2; omega)]
    · have := hts_of fun t ht => (g t ht).ht
      omega
  | tsub _ _ _ _ _ _ ia ib => exact fun hd => two_gp (ia (by omega)) (ib (by omega)) (by simp [lkTwo, lkMix]) (by simp [twoK, joined, needO, Kd.w, e_ofStr]) trivial
  | turn _ _ _ _ _ ia => exact fun hd => call1_gp (ia (by omega)) (by simp [lkCall, e_ofStr]) (by simp [callK, forms, formsT, formK, e_ofStr, Kd.w, Kd.i1, writtenT, needK, shortK, longK]) trivial
  | tneg _ _ _ _ _ ia => exact fun hd => neg_gp (ia (by omega)) hd
  | @tpow r a e d _ _ _ h1 h2 ia => exact fun hd => pow_gp (k := .table r r) (ia (by omega)) h1 (by omega) hd (by simp) (fun x y h => by cases h; rfl) (by simp)
  | tmul _ _ _ _ _ _ _ _ ia ib => exact fun hd => two_gp (ia (by omega)) (ib (by omega)) (by simp [lkTwo, lkMix, Kd.i2]) (by simp [twoK, multiplied, needO]) trivial
end K04

set_option Elab.async false
set_option linter.all false
set_option maxRecDepth 100000
set_option maxHeartbeats 4000000
namespace K03
open PySem PySem.Spec PyProof.Rows L2 DL
def topS (i : Nat) : Stmt := PySem.Challenge.pw_papersums_k03_kinds_of_trees.main.body.getD i (.Pass ⟨0, 0, 0, 0⟩)
def tab_FORMS : List (Str × D) := [("gcd", (.tup [(.str "int"), (.str "int")])), ("root", (.tup [(.str "int"), (.str "int")])), ("power", (.tup [(.str "int"), (.str "int"), (.str "int")])), ("dot", (.tup [(.str "row"), (.str "row")])), ("item", (.tup [(.str "row"), (.str "int")])), ("at", (.tup [(.str "poly"), (.str "int")])), ("polyquo", (.tup [(.str "poly"), (.str "poly")])), ("polymod", (.tup [(.str "poly"), (.str "poly")])), ("polygcd", (.tup [(.str "poly"), (.str "poly")])), ("reduced", (.tup [(.str "table")])), ("solved", (.tup [(.str "table"), (.str "row")])), ("top", (.tup [(.str "frac")])), ("bottom", (.tup [(.str "frac")])), ("lift", (.tup [(.str "rest")])), ("turned", (.tup [(.str "table")])), ("hermite", (.tup [(.str "table")])), ("whole", (.tup [(.str "table"), (.str "row")]))]
structure Ads where
  (ReckonError Wrong : Addr)
def Ads.errs (AD : Ads) : List Addr := [AD.ReckonError, AD.Wrong]
structure Nms (w : World) (K : PySem.W.Frag) (mg : Str → Option Value) (AD : Ads) : Prop where
  u_FRAC : GTup K mg "FRAC" [(.str "frac")]
  u_INT : GTup K mg "INT" [(.str "int")]
  d_FORMS : GTab w K mg "FORMS" tab_FORMS
  g_MOST_COLUMNS : GInt mg "MOST_COLUMNS" 24
  g_MOST_FORM : GInt mg "MOST_FORM" 10
  g_MOST_LONG : GInt mg "MOST_LONG" 40
  g_MOST_MODULUS : GInt mg "MOST_MODULUS" 1000000000
  g_MOST_ROWS : GInt mg "MOST_ROWS" 12
  b_all : mg "all" = none
  b_bool : mg "bool" = none
  b_dict : mg "dict" = none
  b_int : mg "int" = none
  b_isinstance : mg "isinstance" = none
  b_len : mg "len" = none
  b_list : mg "list" = none
  b_max : mg "max" = none
  b_range : mg "range" = none
  b_sorted : mg "sorted" = none
  b_str : mg "str" = none
  b_tuple : mg "tuple" = none
  x_err : ∀ C ∈ AD.errs, XfC K C ∧ PySem.W.findIn K (.ref C) "at" = some none
  m_ReckonError : mg "ReckonError" = some (.ref AD.ReckonError)
  m_Wrong : mg "Wrong" = some (.ref AD.Wrong)
section
variable {P : Program} {w : World} {K : PySem.W.Frag} {mg : Str → Option Value} {base : Heap}
/-! need ['is_fine'] [] -/
def w_need (AD : Ads) : WS :=
 (wIf (wNot (wB (wVar 0)))
 (wRaise AD.Wrong (wCons (wC (.str "kind")) wNil))
 wNext)
theorem sc_need : FnScope ["is_fine"] ["is_fine"] (defScope (topS 11)) := ⟨rfl, rfl, rfl, by decide +kernel, rfl, by decide +kernel, by decide +kernel⟩
theorem d_need {k : Nat} {AD : Ads} (Z : Nms w K mg AD) (e_Wrong : ErAt P w K mg base k "Wrong" AD.Wrong) (f : Addr) (cdv : Value) (A : Around) (outer : List Env) (s : Shared) (H : Hp) (E : XK) (hr0 : Room (k + 1) (A.deeper (envOfC "need" (defScope (topS 11)) s.heap.objs.size f cdv))) :
    QSs (cxOf (L2.CX P w) P w K mg base ["is_fine"] "need" (defScope (topS 11)) f cdv A outer s H E) (fun c d _ H' => E c d H') (defBody (topS 11)) (w_need AD ) := by
  have hN : (["is_fine"] : List Str).Nodup := sc_need.nd
  have tk : Takes (cxOf (L2.CX P w) P w K mg base ["is_fine"] "need" (defScope (topS 11)) f cdv A outer s H E) (fun c d _ H' => E c d H') := takes_of rfl rfl rfl rfl
  have hp : PassesOwn (model P w) (cxOf (L2.CX P w) P w K mg base ["is_fine"] "need" (defScope (topS 11)) f cdv A outer s H E).A (cxOf (L2.CX P w) P w K mg base ["is_fine"] "need" (defScope (topS 11)) f cdv A outer s H E).env (cxOf (L2.CX P w) P w K mg base ["is_fine"] "need" (defScope (topS 11)) f cdv A outer s H E).xe := passes_of rfl
  have hr1 := hr0
  have hr := hr0.mono (Nat.le_succ _)
  exact (sone (sif (tnot (tval (qv (pv 0))))
 (sone (sraise e_Wrong hr1 rfl tk rfl (acons qstr anil)))
 snil))
/-! long_enough ['many'] [] -/
def w_long_enough (AD : Ads) : WS :=
 (wSeq (wIf (wNot (wB (wChain fLe fLe (wC (.int 1)) (wVar 0) (wC (.int 40)))))
 (wRaise AD.Wrong (wCons (wC (.str "long")) wNil))
 wNext)
 (wRet (wVar 0)))
theorem sc_long_enough : FnScope ["many"] ["many"] (defScope (topS 12)) := ⟨rfl, rfl, rfl, by decide +kernel, rfl, by decide +kernel, by decide +kernel⟩
theorem d_long_enough {k : Nat} {AD : Ads} (Z : Nms w K mg AD) (e_Wrong : ErAt P w K mg base k "Wrong" AD.Wrong) (f : Addr) (cdv : Value) (A : Around) (outer : List Env) (s : Shared) (H : Hp) (E : XK) (hr0 : Room (k + 1) (A.deeper (envOfC "long_enough" (defScope (topS 12)) s.heap.objs.size f cdv))) :
    QSs (cxOf (L2.CX P w) P w K mg base ["many"] "long_enough" (defScope (topS 12)) f cdv A outer s H E) (fun c d _ H' => E c d H') (defBody (topS 12)) (w_long_enough AD ) := by
  have hN : (["many"] : List Str).Nodup := sc_long_enough.nd
  have tk : Takes (cxOf (L2.CX P w) P w K mg base ["many"] "long_enough" (defScope (topS 12)) f cdv A outer s H E) (fun c d _ H' => E c d H') := takes_of rfl rfl rfl rfl
  have hp : PassesOwn (model P w) (cxOf (L2.CX P w) P w K mg base ["many"] "long_enough" (defScope (topS 12)) f cdv A outer s H E).A (cxOf (L2.CX P w) P w K mg base ["many"] "long_enough" (defScope (topS 12)) f cdv A outer s H E).env (cxOf (L2.CX P w) P w K mg base ["many"] "long_enough" (defScope (topS 12)) f cdv A outer s H E).xe := passes_of rfl
  have hr1 := hr0
  have hr := hr0.mono (Nat.le_succ _)
  exact (scons (sif (tnot (tchain op_le lLe op_le lLe qint (qv (pv 0)) (qglob rfl Z.g_MOST_LONG)))
 (sone (sraise e_Wrong hr1 rfl tk rfl (acons qstr anil)))
 snil)
 (sone (sret (qv (pv 0)))))
/-! written ['tree', 'low', 'high'] [] -/
def w_written (AD : Ads) : WS :=
 (wSeq (wIf (wOr (wB (wOp fNe (wOp fIx (wVar 0) (wC (.int 0))) (wC (.str "int")))) (wNot (wB (wChain fLe fLe (wVar 1) (wOp fIx (wVar 0) (wC (.int 1))) (wVar 2)))))
 (wRaise AD.Wrong (wCons (wC (.str "written")) wNil))
 wNext)
 (wRet (wOp fIx (wVar 0) (wC (.int 1)))))
theorem sc_written : FnScope ["tree", "low", "high"] ["tree", "low", "high"] (defScope (topS 13)) := ⟨rfl, rfl, rfl, by decide +kernel, rfl, by decide +kernel, by decide +kernel⟩
theorem d_written {k : Nat} {AD : Ads} (Z : Nms w K mg AD) (e_Wrong : ErAt P w K mg base k "Wrong" AD.Wrong) (f : Addr) (cdv : Value) (A : Around) (outer : List Env) (s : Shared) (H : Hp) (E : XK) (hr0 : Room (k + 1) (A.deeper (envOfC "written" (defScope (topS 13)) s.heap.objs.size f cdv))) :
    QSs (cxOf (L2.CX P w) P w K mg base ["tree", "low", "high"] "written" (defScope (topS 13)) f cdv A outer s H E) (fun c d _ H' => E c d H') (defBody (topS 13)) (w_written AD ) := by
  have hN : (["tree", "low", "high"] : List Str).Nodup := sc_written.nd
  have tk : Takes (cxOf (L2.CX P w) P w K mg base ["tree", "low", "high"] "written" (defScope (topS 13)) f cdv A outer s H E) (fun c d _ H' => E c d H') := takes_of rfl rfl rfl rfl
  have hp : PassesOwn (model P w) (cxOf (L2.CX P w) P w K mg base ["tree", "low", "high"] "written" (defScope (topS 13)) f cdv A outer s H E).A (cxOf (L2.CX P w) P w K mg base ["tree", "low", "high"] "written" (defScope (topS 13)) f cdv A outer s H E).env (cxOf (L2.CX P w) P w K mg base ["tree", "low", "high"] "written" (defScope (topS 13)) f cdv A outer s H E).xe := passes_of rfl
  have hr1 := hr0
  have hr := hr0.mono (Nat.le_succ _)
  exact (scons (sif (PW.pt (tor (tne hr (qix (qv (pv 0)) qint) qstr) (tor1 (tnot (tchain op_le lLe op_le lLe (qv (pv 1)) (qix (qv (pv 0)) qint) (qv (pv 2)))))))
 (sone (sraise e_Wrong hr1 rfl tk rfl (acons qstr anil)))
 snil)
 (sone (sret (qix (qv (pv 0)) qint))))
/-! joined ['one', 'other'] ['rest'] -/
def w_joined_t1 : WS :=
 (wRet (wIfE (wB (wOp (fInD false) (wOp fIx (wVar 2) (wC (.int 0))) (wTup (wCons (wC (.str "frac")) (wCons (wC (.str "rest")) (wCons (wC (.str "poly")) wNil)))))) (wVar 2) (wC .non)))
def w_joined_t2 : WS :=
 (wSeq (wIf (wAnd (wB (wOp fEq (wOp fIx (wVar 0) (wC (.int 0))) (wC (.str "poly")))) (wB (wOp fEq (wOp fIx (wVar 1) (wC (.int 0))) (wC (.str "poly")))))
 (wRet (wTup (wCons (wC (.str "poly")) (wCons (wCB cMaxQ (wCons (wOp fIx (wVar 0) (wC (.int 1))) (wCons (wOp fIx (wVar 1) (wC (.int 1))) wNil))) wNil))))
 wNext)
 (wRet (wC .non)))
def w_joined_t3 : WS :=
 (wSeq (wIf (wOr (wB (wOp fEq (wVar 0) (wC (.tup [(.str "int")])))) (wB (wOp fEq (wVar 1) (wC (.tup [(.str "int")])))))
 (wSeq (wSet 2 (wIfE (wB (wOp fEq (wVar 0) (wC (.tup [(.str "int")])))) (wVar 1) (wVar 0)))
 (w_joined_t1 ))
 wNext)
 (w_joined_t2 ))
def w_joined : WS :=
 (wSeq (wIf (wB (wOp fEq (wVar 0) (wVar 1)))
 (wRet (wIfE (wB (wOp fEq (wOp fIx (wVar 0) (wC (.int 0))) (wC (.str "answer")))) (wC .non) (wVar 0)))
 wNext)
 (w_joined_t3 ))
theorem sc_joined : FnScope ["one", "other", "rest"] ["one", "other"] (defScope (topS 14)) := ⟨rfl, rfl, rfl, by decide +kernel, rfl, by decide +kernel, by decide +kernel⟩
theorem d_joined {k : Nat} {AD : Ads} (Z : Nms w K mg AD)  (f : Addr) (cdv : Value) (A : Around) (outer : List Env) (s : Shared) (H : Hp) (E : XK) (hr0 : Room (k) (A.deeper (envOfC "joined" (defScope (topS 14)) s.heap.objs.size f cdv))) :
    QSs (cxOf (L2.CX P w) P w K mg base ["one", "other", "rest"] "joined" (defScope (topS 14)) f cdv A outer s H E) (fun c d _ H' => E c d H') (defBody (topS 14)) (w_joined ) := by
  have hN : (["one", "other", "rest"] : List Str).Nodup := sc_joined.nd
  have tk : Takes (cxOf (L2.CX P w) P w K mg base ["one", "other", "rest"] "joined" (defScope (topS 14)) f cdv A outer s H E) (fun c d _ H' => E c d H') := takes_of rfl rfl rfl rfl
  have hp : PassesOwn (model P w) (cxOf (L2.CX P w) P w K mg base ["one", "other", "rest"] "joined" (defScope (topS 14)) f cdv A outer s H E).A (cxOf (L2.CX P w) P w K mg base ["one", "other", "rest"] "joined" (defScope (topS 14)) f cdv A outer s H E).env (cxOf (L2.CX P w) P w K mg base ["one", "other", "rest"] "joined" (defScope (topS 14)) f cdv A outer s H E).xe := passes_of rfl
  have hr := hr0
  exact (scons (sif (teq hr (qv (pv 0)) (qv (pv 1)))
 (sone (sret (qif (teq hr (qix (qv (pv 0)) qint) qstr) qnon (qv (pv 0)))))
 snil)
 (scons (sif (PW.pt (tor (teq hr (qv (pv 0)) (qgtup rfl Z.u_INT)) (tor1 (teq hr (qv (pv 1)) (qgtup rfl Z.u_INT)))))
 (scons (sasg 2 (qif (teq hr (qv (pv 0)) (qgtup rfl Z.u_INT)) (qv (pv 1)) (qv (pv 0))) hN)
 (sone (sret (qif (tinD hr (qix (qv (pv 2)) qint) (qtup (acons qstr (acons qstr (acons qstr anil))))) (qv (pv 2)) qnon))))
 snil)
 (scons (sif (PW.pt (tand (teq hr (qix (qv (pv 0)) qint) qstr) (tand1 (teq hr (qix (qv (pv 1)) qint) qstr))))
 (sone (sret (qtup (acons qstr (acons (qcallB (((call_max2 rfl).or (cr_max rfl)).or (cr_maxT rfl)) lMaxQ rfl Z.b_max rfl (acons (qix (qv (pv 0)) qint) (acons (qix (qv (pv 1)) qint) anil))) anil)))))
 snil)
 (sone (sret qnon)))))
/-! multiplied ['one', 'other'] [] -/
def w_multiplied_t1 (fs_long_enough fs_joined : FS) : WS :=
 (wRet (wIfE (wB (wOp fEq (wVar 1) (wTup (wCons (wC (.str "row")) (wCons (wOp fIx (wVar 0) (wC (.int 2))) wNil))))) (wTup (wCons (wC (.str "row")) (wCons (wOp fIx (wVar 0) (wC (.int 1))) wNil))) (wC .non)))
def w_multiplied_t2 (fs_long_enough fs_joined : FS) : WS :=
 (wRet (wIfE (wB (wOp fEq (wOp fIx (wVar 0) (wC (.int 0))) (wC (.str "row")))) (wC .non) (wCall fs_joined (wCons (wVar 0) (wCons (wVar 1) wNil)))))
def w_multiplied_t3 (fs_long_enough fs_joined : FS) : WS :=
 (wSeq (wIf (wAnd (wB (wOp fEq (wVar 0) (wC (.tup [(.str "int")])))) (wB (wOp (fInD false) (wOp fIx (wVar 1) (wC (.int 0))) (wTup (wCons (wC (.str "row")) (wCons (wC (.str "table")) wNil))))))
 (wRet (wVar 1))
 wNext)
 (w_multiplied_t2 fs_long_enough fs_joined))
def w_multiplied_t4 (fs_long_enough fs_joined : FS) : WS :=
 (wSeq (wIf (wB (wOp fEq (wOp fIx (wVar 0) (wC (.int 0))) (wC (.str "table"))))
 (wSeq (wIf (wAnd (wB (wOp fEq (wOp fIx (wVar 1) (wC (.int 0))) (wC (.str "table")))) (wB (wOp fEq (wOp fIx (wVar 0) (wC (.int 2))) (wOp fIx (wVar 1) (wC (.int 1))))))
 (wRet (wTup (wCons (wC (.str "table")) (wCons (wOp fIx (wVar 0) (wC (.int 1))) (wCons (wOp fIx (wVar 1) (wC (.int 2))) wNil)))))
 wNext)
 (w_multiplied_t1 fs_long_enough fs_joined))
 wNext)
 (w_multiplied_t3 fs_long_enough fs_joined))
def w_multiplied (fs_long_enough fs_joined : FS) : WS :=
 (wSeq (wIf (wAnd (wB (wOp fEq (wOp fIx (wVar 0) (wC (.int 0))) (wC (.str "poly")))) (wB (wOp fEq (wOp fIx (wVar 1) (wC (.int 0))) (wC (.str "poly")))))
 (wRet (wTup (wCons (wC (.str "poly")) (wCons (wCall fs_long_enough (wCons (wOp fSub (wOp fAdd (wOp fIx (wVar 0) (wC (.int 1))) (wOp fIx (wVar 1) (wC (.int 1)))) (wC (.int 1))) wNil)) wNil))))
 wNext)
 (w_multiplied_t4 fs_long_enough fs_joined))
theorem sc_multiplied : FnScope ["one", "other"] ["one", "other"] (defScope (topS 15)) := ⟨rfl, rfl, rfl, by decide +kernel, rfl, by decide +kernel, by decide +kernel⟩
theorem d_multiplied {k : Nat} {fs_long_enough fs_joined : FS} {AD : Ads} (Z : Nms w K mg AD) (c_long_enough : FnAt P w K mg base k 1 "long_enough" fs_long_enough) (c_joined : FnAt P w K mg base k 2 "joined" fs_joined) (f : Addr) (cdv : Value) (A : Around) (outer : List Env) (s : Shared) (H : Hp) (E : XK) (hr0 : Room (k) (A.deeper (envOfC "multiplied" (defScope (topS 15)) s.heap.objs.size f cdv))) :
    QSs (cxOf (L2.CX P w) P w K mg base ["one", "other"] "multiplied" (defScope (topS 15)) f cdv A outer s H E) (fun c d _ H' => E c d H') (defBody (topS 15)) (w_multiplied fs_long_enough fs_joined) := by
  have hN : (["one", "other"] : List Str).Nodup := sc_multiplied.nd
  have tk : Takes (cxOf (L2.CX P w) P w K mg base ["one", "other"] "multiplied" (defScope (topS 15)) f cdv A outer s H E) (fun c d _ H' => E c d H') := takes_of rfl rfl rfl rfl
  have hp : PassesOwn (model P w) (cxOf (L2.CX P w) P w K mg base ["one", "other"] "multiplied" (defScope (topS 15)) f cdv A outer s H E).A (cxOf (L2.CX P w) P w K mg base ["one", "other"] "multiplied" (defScope (topS 15)) f cdv A outer s H E).env (cxOf (L2.CX P w) P w K mg base ["one", "other"] "multiplied" (defScope (topS 15)) f cdv A outer s H E).xe := passes_of rfl
  have hr := hr0
  exact (scons (sif (PW.pt (tand (teq hr (qix (qv (pv 0)) qint) qstr) (tand1 (teq hr (qix (qv (pv 1)) qint) qstr))))
 (sone (sret (qtup (acons qstr (acons (qcall c_long_enough hr tk rfl (acons (qsub (qadd (qix (qv (pv 0)) qint) (qix (qv (pv 1)) qint)) qint) anil)) anil)))))
 snil)
 (scons (sif (teq hr (qix (qv (pv 0)) qint) qstr)
 (scons (sif (PW.pt (tand (teq hr (qix (qv (pv 1)) qint) qstr) (tand1 (teq hr (qix (qv (pv 0)) qint) (qix (qv (pv 1)) qint)))))
 (sone (sret (qtup (acons qstr (acons (qix (qv (pv 0)) qint) (acons (qix (qv (pv 1)) qint) anil))))))
 snil)
 (sone (sret (qif (teq hr (qv (pv 1)) (qtup (acons qstr (acons (qix (qv (pv 0)) qint) anil)))) (qtup (acons qstr (acons (qix (qv (pv 0)) qint) anil))) qnon))))
 snil)
 (scons (sif (PW.pt (tand (teq hr (qv (pv 0)) (qgtup rfl Z.u_INT)) (tand1 (tinD hr (qix (qv (pv 1)) qint) (qtup (acons qstr (acons qstr anil)))))))
 (sone (sret (qv (pv 1))))
 snil)
 (sone (sret (qif (teq hr (qix (qv (pv 0)) qint) qstr) qnon (qcall c_joined hr tk rfl (acons (qv (pv 0)) (acons (qv (pv 1)) anil)))))))))
/-! divided ['one', 'other'] [] -/
def w_divided_t1 (fs_joined : FS) : WS :=
 (wSeq (wIf (wB (wOp (fInD false) (wC (.str "rest")) (wTup (wCons (wOp fIx (wVar 0) (wC (.int 0))) (wCons (wOp fIx (wVar 1) (wC (.int 0))) wNil)))))
 (wRet (wCall fs_joined (wCons (wVar 0) (wCons (wVar 1) wNil))))
 wNext)
 (wRet (wC .non)))
def w_divided (fs_joined : FS) : WS :=
 (wSeq (wIf (wAnd (wB (wOp (fInD false) (wVar 0) (wTup (wCons (wC (.tup [(.str "int")])) (wCons (wC (.tup [(.str "frac")])) wNil))))) (wB (wOp (fInD false) (wVar 1) (wTup (wCons (wC (.tup [(.str "int")])) (wCons (wC (.tup [(.str "frac")])) wNil))))))
 (wRet (wC (.tup [(.str "frac")])))
 wNext)
 (w_divided_t1 fs_joined))
theorem sc_divided : FnScope ["one", "other"] ["one", "other"] (defScope (topS 16)) := ⟨rfl, rfl, rfl, by decide +kernel, rfl, by decide +kernel, by decide +kernel⟩
theorem d_divided {k : Nat} {fs_joined : FS} {AD : Ads} (Z : Nms w K mg AD) (c_joined : FnAt P w K mg base k 2 "joined" fs_joined) (f : Addr) (cdv : Value) (A : Around) (outer : List Env) (s : Shared) (H : Hp) (E : XK) (hr0 : Room (k) (A.deeper (envOfC "divided" (defScope (topS 16)) s.heap.objs.size f cdv))) :
    QSs (cxOf (L2.CX P w) P w K mg base ["one", "other"] "divided" (defScope (topS 16)) f cdv A outer s H E) (fun c d _ H' => E c d H') (defBody (topS 16)) (w_divided fs_joined) := by
  have hN : (["one", "other"] : List Str).Nodup := sc_divided.nd
  have tk : Takes (cxOf (L2.CX P w) P w K mg base ["one", "other"] "divided" (defScope (topS 16)) f cdv A outer s H E) (fun c d _ H' => E c d H') := takes_of rfl rfl rfl rfl
  have hp : PassesOwn (model P w) (cxOf (L2.CX P w) P w K mg base ["one", "other"] "divided" (defScope (topS 16)) f cdv A outer s H E).A (cxOf (L2.CX P w) P w K mg base ["one", "other"] "divided" (defScope (topS 16)) f cdv A outer s H E).env (cxOf (L2.CX P w) P w K mg base ["one", "other"] "divided" (defScope (topS 16)) f cdv A outer s H E).xe := passes_of rfl
  have hr := hr0
  exact (scons (sif (PW.pt (tand (tinD hr (qv (pv 0)) (qtup (acons (qgtup rfl Z.u_INT) (acons (qgtup rfl Z.u_FRAC) anil)))) (tand1 (tinD hr (qv (pv 1)) (qtup (acons (qgtup rfl Z.u_INT) (acons (qgtup rfl Z.u_FRAC) anil)))))))
 (sone (sret (qgtup rfl Z.u_FRAC)))
 snil)
 (scons (sif (tinD hr qstr (qtup (acons (qix (qv (pv 0)) qint) (acons (qix (qv (pv 1)) qint) anil))))
 (sone (sret (qcall c_joined hr tk rfl (acons (qv (pv 0)) (acons (qv (pv 1)) anil)))))
 snil)
 (sone (sret qnon))))
/-! kind_of_two ['word', 'one', 'other'] ['found'] -/
def w_kind_of_two_t1 (fs_joined fs_multiplied fs_divided fs_need : FS) : WS :=
 (wSeq (wExpr (wCall fs_need (wCons (wOp fNotN (wVar 3) (wC .non)) wNil)))
 (wRet (wVar 3)))
def w_kind_of_two (fs_joined fs_multiplied fs_divided fs_need : FS) : WS :=
 (wSeq (wIf (wB (wOp (fInD false) (wVar 0) (wTup (wCons (wC (.str "add")) (wCons (wC (.str "sub")) wNil)))))
 (wSet 3 (wCall fs_joined (wCons (wVar 1) (wCons (wVar 2) wNil))))
 (wIf (wB (wOp fEq (wVar 0) (wC (.str "mul"))))
 (wSet 3 (wCall fs_multiplied (wCons (wVar 1) (wCons (wVar 2) wNil))))
 (wIf (wB (wOp fEq (wVar 0) (wC (.str "div"))))
 (wSet 3 (wCall fs_divided (wCons (wVar 1) (wCons (wVar 2) wNil))))
 (wSet 3 (wIfE (wAnd (wB (wOp fEq (wVar 1) (wC (.tup [(.str "int")])))) (wB (wOp fEq (wVar 2) (wC (.tup [(.str "int")]))))) (wC (.tup [(.str "int")])) (wC .non))))))
 (w_kind_of_two_t1 fs_joined fs_multiplied fs_divided fs_need))
theorem sc_kind_of_two : FnScope ["word", "one", "other", "found"] ["word", "one", "other"] (defScope (topS 17)) := ⟨rfl, rfl, rfl, by decide +kernel, rfl, by decide +kernel, by decide +kernel⟩
theorem d_kind_of_two {k : Nat} {fs_joined fs_multiplied fs_divided fs_need : FS} {AD : Ads} (Z : Nms w K mg AD) (c_joined : FnAt P w K mg base k 2 "joined" fs_joined) (c_multiplied : FnAt P w K mg base k 2 "multiplied" fs_multiplied) (c_divided : FnAt P w K mg base k 2 "divided" fs_divided) (c_need : FnAt P w K mg base k 1 "need" fs_need) (f : Addr) (cdv : Value) (A : Around) (outer : List Env) (s : Shared) (H : Hp) (E : XK) (hr0 : Room (k) (A.deeper (envOfC "kind_of_two" (defScope (topS 17)) s.heap.objs.size f cdv))) :
    QSs (cxOf (L2.CX P w) P w K mg base ["word", "one", "other", "found"] "kind_of_two" (defScope (topS 17)) f cdv A outer s H E) (fun c d _ H' => E c d H') (defBody (topS 17)) (w_kind_of_two fs_joined fs_multiplied fs_divided fs_need) := by
  have hN : (["word", "one", "other", "found"] : List Str).Nodup := sc_kind_of_two.nd
  have tk : Takes (cxOf (L2.CX P w) P w K mg base ["word", "one", "other", "found"] "kind_of_two" (defScope (topS 17)) f cdv A outer s H E) (fun c d _ H' => E c d H') := takes_of rfl rfl rfl rfl
  have hp : PassesOwn (model P w) (cxOf (L2.CX P w) P w K mg base ["word", "one", "other", "found"] "kind_of_two" (defScope (topS 17)) f cdv A outer s H E).A (cxOf (L2.CX P w) P w K mg base ["word", "one", "other", "found"] "kind_of_two" (defScope (topS 17)) f cdv A outer s H E).env (cxOf (L2.CX P w) P w K mg base ["word", "one", "other", "found"] "kind_of_two" (defScope (topS 17)) f cdv A outer s H E).xe := passes_of rfl
  have hr := hr0
  exact (scons (sif (tinD hr (qv (pv 0)) (qtup (acons qstr (acons qstr anil))))
 (sone (sasg 3 (qcall c_joined hr tk rfl (acons (qv (pv 1)) (acons (qv (pv 2)) anil))) hN))
 (sone (sif (teq hr (qv (pv 0)) qstr)
 (sone (sasg 3 (qcall c_multiplied hr tk rfl (acons (qv (pv 1)) (acons (qv (pv 2)) anil))) hN))
 (sone (sif (teq hr (qv (pv 0)) qstr)
 (sone (sasg 3 (qcall c_divided hr tk rfl (acons (qv (pv 1)) (acons (qv (pv 2)) anil))) hN))
 (sone (sasg 3 (qif (PW.pt (tand (teq hr (qv (pv 1)) (qgtup rfl Z.u_INT)) (tand1 (teq hr (qv (pv 2)) (qgtup rfl Z.u_INT))))) (qgtup rfl Z.u_INT) qnon) hN)))))))
 (scons (sexpr (qcall c_need hr tk rfl (acons (qnotN (qv (pv 3)) qnon) anil)))
 (sone (sret (qv (pv 3))))))
/-! kind_of_call ['word', 'trees', 'kinds'] ['kind', 'k'] -/
def w_kind_of_call_t1 (AD : Ads) (fs_need fs_long_enough fs_written fs_kind_of_form : FS) : WS :=
 (wRet (wTup (wCons (wVar 0) (wCons (wCall fs_long_enough (wCons (wCB cLen (wCons (wVar 2) wNil)) wNil)) wNil))))
def w_kind_of_call_t2 (AD : Ads) (fs_need fs_long_enough fs_written fs_kind_of_form : FS) : WS :=
 (wRet (wTup (wCons (wC (.str "table")) (wCons (wCall fs_long_enough (wCons (wCB cLen (wCons (wVar 2) wNil)) wNil)) (wCons (wOp fIx (wOp fIx (wVar 2) (wC (.int 0))) (wC (.int 1))) wNil)))))
def w_kind_of_call_t3 (AD : Ads) (fs_need fs_long_enough fs_written fs_kind_of_form : FS) : WS :=
 (wRet (wTup (wCons (wC (.str "rest")) (wCons (wCall fs_written (wCons (wOp fIx (wVar 1) (wC (.int 1))) (wCons (wC (.int 2)) (wCons (wC (.int 1000000000)) wNil)))) wNil))))
def w_kind_of_call_t4 (AD : Ads) (fs_need fs_long_enough fs_written fs_kind_of_form : FS) : WS :=
 (wRet (wCall fs_kind_of_form (wCons (wVar 0) (wCons (wVar 1) (wCons (wVar 2) wNil)))))
def w_kind_of_call_t5 (AD : Ads) (fs_need fs_long_enough fs_written fs_kind_of_form : FS) : WS :=
 (wSeq (wExpr (wCall fs_need (wCons (wCB cAll (wCons (wLc 4 (wiR1 True (wCB cLen (wCons (wVar 2) wNil))) wYes (wOp fEq (wOp fIx (wOp fIx (wVar 2) (wVar 4)) (wC (.int 0))) (wOp fIx (wKIx tab_FORMS (wVar 0)) (wVar 4)))) wNil)) wNil)))
 (w_kind_of_call_t4 AD fs_need fs_long_enough fs_written fs_kind_of_form))
def w_kind_of_call_t6 (AD : Ads) (fs_need fs_long_enough fs_written fs_kind_of_form : FS) : WS :=
 (wSeq (wIf (wB (wKIn tab_FORMS false (wVar 0)))
 (wSeq (wExpr (wCall fs_need (wCons (wOp fEq (wCB cLen (wCons (wVar 2) wNil)) (wCB cLen (wCons (wKIx tab_FORMS (wVar 0)) wNil))) wNil)))
 (w_kind_of_call_t5 AD fs_need fs_long_enough fs_written fs_kind_of_form))
 wNext)
 (wRaise AD.Wrong (wCons (wC (.str "call")) wNil)))
def w_kind_of_call_t7 (AD : Ads) (fs_need fs_long_enough fs_written fs_kind_of_form : FS) : WS :=
 (wSeq (wIf (wB (wOp fEq (wVar 0) (wC (.str "rest"))))
 (wSeq (wExpr (wCall fs_need (wCons (wAndV (wOp fEq (wCB cLen (wCons (wVar 2) wNil)) (wC (.int 2))) (wOp fEq (wOp fIx (wVar 2) (wC (.int 0))) (wC (.tup [(.str "int")])))) wNil)))
 (w_kind_of_call_t3 AD fs_need fs_long_enough fs_written fs_kind_of_form))
 wNext)
 (w_kind_of_call_t6 AD fs_need fs_long_enough fs_written fs_kind_of_form))
def w_kind_of_call_t8 (AD : Ads) (fs_need fs_long_enough fs_written fs_kind_of_form : FS) : WS :=
 (wSeq (wIf (wB (wOp fEq (wVar 0) (wC (.str "table"))))
 (wSeq (wExpr (wCall fs_need (wCons (wAndV (wOp fEq (wOp fIx (wOp fIx (wVar 2) (wC (.int 0))) (wC (.int 0))) (wC (.str "row"))) (wCB cAll (wCons (wLc 3 (wiSeq (wVar 2)) wYes (wOp fEq (wVar 3) (wOp fIx (wVar 2) (wC (.int 0))))) wNil))) wNil)))
 (w_kind_of_call_t2 AD fs_need fs_long_enough fs_written fs_kind_of_form))
 wNext)
 (w_kind_of_call_t7 AD fs_need fs_long_enough fs_written fs_kind_of_form))
def w_kind_of_call (AD : Ads) (fs_need fs_long_enough fs_written fs_kind_of_form : FS) : WS :=
 (wSeq (wIf (wB (wOp (fInD false) (wVar 0) (wTup (wCons (wC (.str "row")) (wCons (wC (.str "poly")) wNil)))))
 (wSeq (wExpr (wCall fs_need (wCons (wCB cAll (wCons (wLc 3 (wiSeq (wVar 2)) wYes (wOp fEq (wVar 3) (wC (.tup [(.str "int")])))) wNil)) wNil)))
 (w_kind_of_call_t1 AD fs_need fs_long_enough fs_written fs_kind_of_form))
 wNext)
 (w_kind_of_call_t8 AD fs_need fs_long_enough fs_written fs_kind_of_form))
theorem sc_kind_of_call : FnScope ["word", "trees", "kinds", "kind", "k"] ["word", "trees", "kinds"] (defScope (topS 18)) := ⟨rfl, rfl, rfl, by decide +kernel, rfl, by decide +kernel, by decide +kernel⟩
theorem d_kind_of_call {k : Nat} {fs_need fs_long_enough fs_written fs_kind_of_form : FS} {AD : Ads} (Z : Nms w K mg AD) (c_need : FnAt P w K mg base k 1 "need" fs_need) (c_long_enough : FnAt P w K mg base k 1 "long_enough" fs_long_enough) (c_written : FnAt P w K mg base k 3 "written" fs_written) (c_kind_of_form : FnAt P w K mg base k 3 "kind_of_form" fs_kind_of_form) (e_Wrong : ErAt P w K mg base k "Wrong" AD.Wrong) (f : Addr) (cdv : Value) (A : Around) (outer : List Env) (s : Shared) (H : Hp) (E : XK) (hr0 : Room (k + 1) (A.deeper (envOfC "kind_of_call" (defScope (topS 18)) s.heap.objs.size f cdv))) :
    QSs (cxOf (L2.CX P w) P w K mg base ["word", "trees", "kinds", "kind", "k"] "kind_of_call" (defScope (topS 18)) f cdv A outer s H E) (fun c d _ H' => E c d H') (defBody (topS 18)) (w_kind_of_call AD fs_need fs_long_enough fs_written fs_kind_of_form) := by
  have hN : (["word", "trees", "kinds", "kind", "k"] : List Str).Nodup := sc_kind_of_call.nd
  have tk : Takes (cxOf (L2.CX P w) P w K mg base ["word", "trees", "kinds", "kind", "k"] "kind_of_call" (defScope (topS 18)) f cdv A outer s H E) (fun c d _ H' => E c d H') := takes_of rfl rfl rfl rfl
  have hp : PassesOwn (model P w) (cxOf (L2.CX P w) P w K mg base ["word", "trees", "kinds", "kind", "k"] "kind_of_call" (defScope (topS 18)) f cdv A outer s H E).A (cxOf (L2.CX P w) P w K mg base ["word", "trees", "kinds", "kind", "k"] "kind_of_call" (defScope (topS 18)) f cdv A outer s H E).env (cxOf (L2.CX P w) P w K mg base ["word", "trees", "kinds", "kind", "k"] "kind_of_call" (defScope (topS 18)) f cdv A outer s H E).xe := passes_of rfl
  have hr1 := hr0
  have hr := hr0.mono (Nat.le_succ _)
  exact (scons (sif (tinD hr (qv (pv 0)) (qtup (acons qstr (acons qstr anil))))
 (scons (sexpr (qcall c_need hr tk rfl (acons (qcallB (cr_all rfl) lAll rfl Z.b_all rfl (acons (qlc1 (y := "kind") rfl hN (show blkC ["word", "trees", "kinds", "kind", "k"] (defScope (topS 18)) _ [("kind", 3)] = true by decide +kernel) (ilist (qv (pv 2))) (fun _ _ _ _ _ => gown 3 hN) (fun _ _ _ _ _ => ifs0) (fun _ _ _ _ _ => (qeq hr (qv (pv 3)) (qgtup rfl Z.u_INT)))) anil)) anil)))
 (sone (sret (qtup (acons (qv (pv 0)) (acons (qcall c_long_enough hr tk rfl (acons (qcallB call_lenG lLen rfl Z.b_len rfl (acons (qv (pv 2)) anil)) anil)) anil))))))
 snil)
 (scons (sif (teq hr (qv (pv 0)) qstr)
 (scons (sexpr (qcall c_need hr tk rfl (acons (qand (qeq hr (qix (qix (qv (pv 2)) qint) qint) qstr) (qone (qcallB (cr_all rfl) lAll rfl Z.b_all rfl (acons (qlc1 (y := "kind") rfl hN (show blkC ["word", "trees", "kinds", "kind", "k"] (defScope (topS 18)) _ [("kind", 3)] = true by decide +kernel) (ilist (qv (pv 2))) (fun _ _ _ _ _ => gown 3 hN) (fun _ _ _ _ _ => ifs0) (fun _ _ _ _ _ => (qeq hr (qv (pv 3)) (qix (qv (pv 2)) qint)))) anil)))) anil)))
 (sone (sret (qtup (acons qstr (acons (qcall c_long_enough hr tk rfl (acons (qcallB call_lenG lLen rfl Z.b_len rfl (acons (qv (pv 2)) anil)) anil)) (acons (qix (qix (qv (pv 2)) qint) qint) anil)))))))
 snil)
 (scons (sif (teq hr (qv (pv 0)) qstr)
 (scons (sexpr (qcall c_need hr tk rfl (acons (qand (qeq hr (qcallB call_lenG lLen rfl Z.b_len rfl (acons (qv (pv 2)) anil)) qint) (qone (qeq hr (qix (qv (pv 2)) qint) (qgtup rfl Z.u_INT)))) anil)))
 (sone (sret (qtup (acons qstr (acons (qcall c_written hr tk rfl (acons (qix (qv (pv 1)) qint) (acons qint (acons (qglob rfl Z.g_MOST_MODULUS) anil)))) anil))))))
 snil)
 (scons (sif (tkin rfl Z.d_FORMS (qv (pv 0)))
 (scons (sexpr (qcall c_need hr tk rfl (acons (qeq hr (qcallB call_lenG lLen rfl Z.b_len rfl (acons (qv (pv 2)) anil)) (qcallB call_lenG lLen rfl Z.b_len rfl (acons (qkix rfl Z.d_FORMS (qv (pv 0))) anil))) anil)))
 (scons (sexpr (qcall c_need hr tk rfl (acons (qcallB (cr_all rfl) lAll rfl Z.b_all rfl (acons (qlc1 (y := "k") rfl hN (show blkC ["word", "trees", "kinds", "kind", "k"] (defScope (topS 18)) _ [("k", 4)] = true by decide +kernel) (irange1 rfl Z.b_range (qcallB call_lenG lLen rfl Z.b_len rfl (acons (qv (pv 2)) anil))) (fun _ _ _ _ _ => gown 4 hN) (fun _ _ _ _ _ => ifs0) (fun _ _ _ _ _ => (qeq hr (qix (qix (qv (pv 2)) (qv (pv 4))) qint) (qix (qkix rfl Z.d_FORMS (qv (pv 0))) (qv (pv 4)))))) anil)) anil)))
 (sone (sret (qcall c_kind_of_form hr tk rfl (acons (qv (pv 0)) (acons (qv (pv 1)) (acons (qv (pv 2)) anil))))))))
 snil)
 (sone (sraise e_Wrong hr1 rfl tk rfl (acons qstr anil)))))))
/-! kind_of_form ['word', 'trees', 'kinds'] [] -/
def w_kind_of_form_t1 (AD : Ads) (fs_written fs_need fs_short_enough : FS) : WS :=
 (wSeq (wIf (wOr (wB (wOp fGt (wOp fIx (wOp fIx (wVar 2) (wC (.int 0))) (wC (.int 1))) (wC (.int 12)))) (wB (wOp fGt (wOp fIx (wOp fIx (wVar 2) (wC (.int 0))) (wC (.int 2))) (wC (.int 24)))))
 (wRaise AD.Wrong (wCons (wC (.str "long")) wNil))
 wNext)
 (wRet (wOp fIx (wVar 2) (wC (.int 0)))))
def w_kind_of_form_t2 (AD : Ads) (fs_written fs_need fs_short_enough : FS) : WS :=
 (wRet (wOp fAdd (wTup (wCons (wC (.str "answer")) wNil)) (wSl (wCall fs_short_enough (wCons (wOp fIx (wVar 2) (wC (.int 0))) (wCons (wIfE (wB (wOp fEq (wVar 0) (wC (.str "solved")))) (wC (.int 12)) (wC (.int 10))) wNil))) (wP (wC (.int 1))) wNoP)))
def w_kind_of_form_t3 (AD : Ads) (fs_written fs_need fs_short_enough : FS) : WS :=
 (wSeq (wIf (wB (wOp (fInD false) (wVar 0) (wTup (wCons (wC (.str "solved")) (wCons (wC (.str "whole")) wNil)))))
 (wSeq (wExpr (wCall fs_need (wCons (wOp fEq (wOp fIx (wOp fIx (wVar 2) (wC (.int 0))) (wC (.int 1))) (wOp fIx (wOp fIx (wVar 2) (wC (.int 1))) (wC (.int 1)))) wNil)))
 (w_kind_of_form_t2 AD fs_written fs_need fs_short_enough))
 wNext)
 (wRet (wC (.tup [(.str "int")]))))
def w_kind_of_form_t4 (AD : Ads) (fs_written fs_need fs_short_enough : FS) : WS :=
 (wSeq (wIf (wB (wOp fEq (wVar 0) (wC (.str "hermite"))))
 (wRet (wCall fs_short_enough (wCons (wOp fIx (wVar 2) (wC (.int 0))) (wCons (wC (.int 10)) wNil))))
 wNext)
 (w_kind_of_form_t3 AD fs_written fs_need fs_short_enough))
def w_kind_of_form_t5 (AD : Ads) (fs_written fs_need fs_short_enough : FS) : WS :=
 (wSeq (wIf (wB (wOp fEq (wVar 0) (wC (.str "turned"))))
 (wRet (wTup (wCons (wC (.str "table")) (wCons (wOp fIx (wOp fIx (wVar 2) (wC (.int 0))) (wC (.int 2))) (wCons (wOp fIx (wOp fIx (wVar 2) (wC (.int 0))) (wC (.int 1))) wNil)))))
 wNext)
 (w_kind_of_form_t4 AD fs_written fs_need fs_short_enough))
def w_kind_of_form_t6 (AD : Ads) (fs_written fs_need fs_short_enough : FS) : WS :=
 (wSeq (wIf (wB (wOp fEq (wVar 0) (wC (.str "reduced"))))
 (wSeq (wExpr (wCall fs_need (wCons (wOp fLe (wOp fIx (wOp fIx (wVar 2) (wC (.int 0))) (wC (.int 1))) (wOp fIx (wOp fIx (wVar 2) (wC (.int 0))) (wC (.int 2)))) wNil)))
 (w_kind_of_form_t1 AD fs_written fs_need fs_short_enough))
 wNext)
 (w_kind_of_form_t5 AD fs_written fs_need fs_short_enough))
def w_kind_of_form_t7 (AD : Ads) (fs_written fs_need fs_short_enough : FS) : WS :=
 (wSeq (wIf (wB (wOp (fInD false) (wVar 0) (wTup (wCons (wC (.str "polyquo")) (wCons (wC (.str "polymod")) (wCons (wC (.str "polygcd")) wNil))))))
 (wRet (wTup (wCons (wC (.str "poly")) (wCons (wIfE (wB (wOp fEq (wVar 0) (wC (.str "polyquo")))) (wOp fIx (wOp fIx (wVar 2) (wC (.int 0))) (wC (.int 1))) (wCB cMaxQ (wCons (wOp fIx (wOp fIx (wVar 2) (wC (.int 0))) (wC (.int 1))) (wCons (wOp fIx (wOp fIx (wVar 2) (wC (.int 1))) (wC (.int 1))) wNil)))) wNil))))
 wNext)
 (w_kind_of_form_t6 AD fs_written fs_need fs_short_enough))
def w_kind_of_form_t8 (AD : Ads) (fs_written fs_need fs_short_enough : FS) : WS :=
 (wSeq (wIf (wB (wOp fEq (wVar 0) (wC (.str "dot"))))
 (wExpr (wCall fs_need (wCons (wOp fEq (wOp fIx (wVar 2) (wC (.int 0))) (wOp fIx (wVar 2) (wC (.int 1)))) wNil)))
 wNext)
 (w_kind_of_form_t7 AD fs_written fs_need fs_short_enough))
def w_kind_of_form_t9 (AD : Ads) (fs_written fs_need fs_short_enough : FS) : WS :=
 (wSeq (wIf (wB (wOp fEq (wVar 0) (wC (.str "item"))))
 (wExpr (wCall fs_written (wCons (wOp fIx (wVar 1) (wC (.int 1))) (wCons (wC (.int 0)) (wCons (wOp fSub (wOp fIx (wOp fIx (wVar 2) (wC (.int 0))) (wC (.int 1))) (wC (.int 1))) wNil)))))
 wNext)
 (w_kind_of_form_t8 AD fs_written fs_need fs_short_enough))
def w_kind_of_form (AD : Ads) (fs_written fs_need fs_short_enough : FS) : WS :=
 (wSeq (wIf (wB (wOp fEq (wVar 0) (wC (.str "root"))))
 (wExpr (wCall fs_written (wCons (wOp fIx (wVar 1) (wC (.int 1))) (wCons (wC (.int 1)) (wCons (wC (.int 40)) wNil)))))
 wNext)
 (w_kind_of_form_t9 AD fs_written fs_need fs_short_enough))
theorem sc_kind_of_form : FnScope ["word", "trees", "kinds"] ["word", "trees", "kinds"] (defScope (topS 20)) := ⟨rfl, rfl, rfl, by decide +kernel, rfl, by decide +kernel, by decide +kernel⟩
theorem d_kind_of_form {k : Nat} {fs_written fs_need fs_short_enough : FS} {AD : Ads} (Z : Nms w K mg AD) (c_written : FnAt P w K mg base k 3 "written" fs_written) (c_need : FnAt P w K mg base k 1 "need" fs_need) (c_short_enough : FnAt P w K mg base k 2 "short_enough" fs_short_enough) (e_Wrong : ErAt P w K mg base k "Wrong" AD.Wrong) (f : Addr) (cdv : Value) (A : Around) (outer : List Env) (s : Shared) (H : Hp) (E : XK) (hr0 : Room (k + 1) (A.deeper (envOfC "kind_of_form" (defScope (topS 20)) s.heap.objs.size f cdv))) :
    QSs (cxOf (L2.CX P w) P w K mg base ["word", "trees", "kinds"] "kind_of_form" (defScope (topS 20)) f cdv A outer s H E) (fun c d _ H' => E c d H') (defBody (topS 20)) (w_kind_of_form AD fs_written fs_need fs_short_enough) := by
  have hN : (["word", "trees", "kinds"] : List Str).Nodup := sc_kind_of_form.nd
  have tk : Takes (cxOf (L2.CX P w) P w K mg base ["word", "trees", "kinds"] "kind_of_form" (defScope (topS 20)) f cdv A outer s H E) (fun c d _ H' => E c d H') := takes_of rfl rfl rfl rfl
  have hp : PassesOwn (model P w) (cxOf (L2.CX P w) P w K mg base ["word", "trees", "kinds"] "kind_of_form" (defScope (topS 20)) f cdv A outer s H E).A (cxOf (L2.CX P w) P w K mg base ["word", "trees", "kinds"] "kind_of_form" (defScope (topS 20)) f cdv A outer s H E).env (cxOf (L2.CX P w) P w K mg base ["word", "trees", "kinds"] "kind_of_form" (defScope (topS 20)) f cdv A outer s H E).xe := passes_of rfl
  have hr1 := hr0
  have hr := hr0.mono (Nat.le_succ _)
  exact (scons (sif (teq hr (qv (pv 0)) qstr)
 (sone (sexpr (qcall c_written hr tk rfl (acons (qix (qv (pv 1)) qint) (acons qint (acons (qglob rfl Z.g_MOST_LONG) anil))))))
 snil)
 (scons (sif (teq hr (qv (pv 0)) qstr)
 (sone (sexpr (qcall c_written hr tk rfl (acons (qix (qv (pv 1)) qint) (acons qint (acons (qsub (qix (qix (qv (pv 2)) qint) qint) qint) anil))))))
 snil)
 (scons (sif (teq hr (qv (pv 0)) qstr)
 (sone (sexpr (qcall c_need hr tk rfl (acons (qeq hr (qix (qv (pv 2)) qint) (qix (qv (pv 2)) qint)) anil))))
 snil)
 (scons (sif (tinD hr (qv (pv 0)) (qtup (acons qstr (acons qstr (acons qstr anil)))))
 (sone (sret (qtup (acons qstr (acons (qif (teq hr (qv (pv 0)) qstr) (qix (qix (qv (pv 2)) qint) qint) (qcallB (((call_max2 rfl).or (cr_max rfl)).or (cr_maxT rfl)) lMaxQ rfl Z.b_max rfl (acons (qix (qix (qv (pv 2)) qint) qint) (acons (qix (qix (qv (pv 2)) qint) qint) anil)))) anil)))))
 snil)
 (scons (sif (teq hr (qv (pv 0)) qstr)
 (scons (sexpr (qcall c_need hr tk rfl (acons (qle (qix (qix (qv (pv 2)) qint) qint) (qix (qix (qv (pv 2)) qint) qint)) anil)))
 (scons (sif (PW.pt (tor (tgt (qix (qix (qv (pv 2)) qint) qint) (qglob rfl Z.g_MOST_ROWS)) (tor1 (tgt (qix (qix (qv (pv 2)) qint) qint) (qglob rfl Z.g_MOST_COLUMNS)))))
 (sone (sraise e_Wrong hr1 rfl tk rfl (acons qstr anil)))
 snil)
 (sone (sret (qix (qv (pv 2)) qint)))))
 snil)
 (scons (sif (teq hr (qv (pv 0)) qstr)
 (sone (sret (qtup (acons qstr (acons (qix (qix (qv (pv 2)) qint) qint) (acons (qix (qix (qv (pv 2)) qint) qint) anil))))))
 snil)
 (scons (sif (teq hr (qv (pv 0)) qstr)
 (sone (sret (qcall c_short_enough hr tk rfl (acons (qix (qv (pv 2)) qint) (acons (qglob rfl Z.g_MOST_FORM) anil)))))
 snil)
 (scons (sif (tinD hr (qv (pv 0)) (qtup (acons qstr (acons qstr anil))))
 (scons (sexpr (qcall c_need hr tk rfl (acons (qeq hr (qix (qix (qv (pv 2)) qint) qint) (qix (qix (qv (pv 2)) qint) qint)) anil)))
 (sone (sret (qadd (qtup (acons qstr anil)) (qsl (qcall c_short_enough hr tk rfl (acons (qix (qv (pv 2)) qint) (acons (qif (teq hr (qv (pv 0)) qstr) (qglob rfl Z.g_MOST_ROWS) (qglob rfl Z.g_MOST_FORM)) anil))) (osome qint) onone)))))
 snil)
 (sone (sret (qgtup rfl Z.u_INT)))))))))))
/-! short_enough ['kind', 'most'] [] -/
def w_short_enough (AD : Ads) : WS :=
 (wSeq (wIf (wOr (wB (wOp fGt (wOp fIx (wVar 0) (wC (.int 1))) (wVar 1))) (wB (wOp fGt (wOp fIx (wVar 0) (wC (.int 2))) (wVar 1))))
 (wRaise AD.Wrong (wCons (wC (.str "long")) wNil))
 wNext)
 (wRet (wVar 0)))
theorem sc_short_enough : FnScope ["kind", "most"] ["kind", "most"] (defScope (topS 21)) := ⟨rfl, rfl, rfl, by decide +kernel, rfl, by decide +kernel, by decide +kernel⟩
theorem d_short_enough {k : Nat} {AD : Ads} (Z : Nms w K mg AD) (e_Wrong : ErAt P w K mg base k "Wrong" AD.Wrong) (f : Addr) (cdv : Value) (A : Around) (outer : List Env) (s : Shared) (H : Hp) (E : XK) (hr0 : Room (k + 1) (A.deeper (envOfC "short_enough" (defScope (topS 21)) s.heap.objs.size f cdv))) :
    QSs (cxOf (L2.CX P w) P w K mg base ["kind", "most"] "short_enough" (defScope (topS 21)) f cdv A outer s H E) (fun c d _ H' => E c d H') (defBody (topS 21)) (w_short_enough AD ) := by
  have hN : (["kind", "most"] : List Str).Nodup := sc_short_enough.nd
  have tk : Takes (cxOf (L2.CX P w) P w K mg base ["kind", "most"] "short_enough" (defScope (topS 21)) f cdv A outer s H E) (fun c d _ H' => E c d H') := takes_of rfl rfl rfl rfl
  have hp : PassesOwn (model P w) (cxOf (L2.CX P w) P w K mg base ["kind", "most"] "short_enough" (defScope (topS 21)) f cdv A outer s H E).A (cxOf (L2.CX P w) P w K mg base ["kind", "most"] "short_enough" (defScope (topS 21)) f cdv A outer s H E).env (cxOf (L2.CX P w) P w K mg base ["kind", "most"] "short_enough" (defScope (topS 21)) f cdv A outer s H E).xe := passes_of rfl
  have hr1 := hr0
  have hr := hr0.mono (Nat.le_succ _)
  exact (scons (sif (PW.pt (tor (tgt (qix (qv (pv 0)) qint) (qv (pv 1))) (tor1 (tgt (qix (qv (pv 0)) qint) (qv (pv 1))))))
 (sone (sraise e_Wrong hr1 rfl tk rfl (acons qstr anil)))
 snil)
 (sone (sret (qv (pv 0)))))
/-! kind_of ['tree', 'names'] ['word', 'kind', 'kinds', 'part', 'one'] -/
def w_kind_of_t1 (AD : Ads) (fs_kind_of fs_need fs_long_enough fs_kind_of_call fs_kind_of_two : FS) : WS :=
 (wSeq (wExpr (wCall fs_need (wCons (wOp fNe (wOp fIx (wVar 3) (wC (.int 0))) (wC (.str "answer"))) wNil)))
 (wRet (wVar 3)))
def w_kind_of_t2 (AD : Ads) (fs_kind_of fs_need fs_long_enough fs_kind_of_call fs_kind_of_two : FS) : WS :=
 (wRet (wIfE (wB (wOp fEq (wOp fIx (wVar 3) (wC (.int 0))) (wC (.str "poly")))) (wTup (wCons (wC (.str "poly")) (wCons (wCall fs_long_enough (wCons (wOp fAdd (wOp fMul (wOp fSub (wOp fIx (wVar 3) (wC (.int 1))) (wC (.int 1))) (wOp fIx (wVar 0) (wC (.int 2)))) (wC (.int 1))) wNil)) wNil))) (wVar 3)))
def w_kind_of_t3 (AD : Ads) (fs_kind_of fs_need fs_long_enough fs_kind_of_call fs_kind_of_two : FS) : WS :=
 (wSeq (wExpr (wCall fs_need (wCons (wOrV (wOp (fInD false) (wOp fIx (wVar 3) (wC (.int 0))) (wTup (wCons (wC (.str "int")) (wCons (wC (.str "frac")) (wCons (wC (.str "rest")) (wCons (wC (.str "poly")) wNil)))))) (wAndV (wOp fEq (wOp fIx (wVar 3) (wC (.int 0))) (wC (.str "table"))) (wOp fEq (wOp fIx (wVar 3) (wC (.int 1))) (wOp fIx (wVar 3) (wC (.int 2)))))) wNil)))
 (w_kind_of_t2 AD fs_kind_of fs_need fs_long_enough fs_kind_of_call fs_kind_of_two))
def w_kind_of_t4 (AD : Ads) (fs_kind_of fs_need fs_long_enough fs_kind_of_call fs_kind_of_two : FS) : WS :=
 (wRet (wCall fs_kind_of_call (wCons (wOp fIx (wVar 0) (wC (.int 1))) (wCons (wOp fIx (wVar 0) (wC (.int 2))) (wCons (wVar 4) wNil)))))
def w_kind_of_t5 (AD : Ads) (fs_kind_of fs_need fs_long_enough fs_kind_of_call fs_kind_of_two : FS) : WS :=
 (wRet (wCall fs_kind_of_two (wCons (wVar 2) (wCons (wVar 6) (wCons (wCall fs_kind_of (wCons (wOp fIx (wVar 0) (wC (.int 2))) (wCons (wVar 1) wNil))) wNil)))))
def w_kind_of_t6 (AD : Ads) (fs_kind_of fs_need fs_long_enough fs_kind_of_call fs_kind_of_two : FS) : WS :=
 (wSeq (wSet 6 (wCall fs_kind_of (wCons (wOp fIx (wVar 0) (wC (.int 1))) (wCons (wVar 1) wNil))))
 (w_kind_of_t5 AD fs_kind_of fs_need fs_long_enough fs_kind_of_call fs_kind_of_two))
def w_kind_of_t7 (AD : Ads) (fs_kind_of fs_need fs_long_enough fs_kind_of_call fs_kind_of_two : FS) : WS :=
 (wSeq (wIf (wB (wOp fEq (wVar 2) (wC (.str "call"))))
 (wSeq (wSet 4 (wLcX (bN 5) (wiTup (wOp fIx (wVar 0) (wC (.int 2)))) wYes (wCall fs_kind_of (wCons (wVar 5) (wCons (wVar 1) wNil)))))
 (w_kind_of_t4 AD fs_kind_of fs_need fs_long_enough fs_kind_of_call fs_kind_of_two))
 wNext)
 (w_kind_of_t6 AD fs_kind_of fs_need fs_long_enough fs_kind_of_call fs_kind_of_two))
def w_kind_of_t8 (AD : Ads) (fs_kind_of fs_need fs_long_enough fs_kind_of_call fs_kind_of_two : FS) : WS :=
 (wSeq (wIf (wB (wOp fEq (wVar 2) (wC (.str "pow"))))
 (wSeq (wSet 3 (wCall fs_kind_of (wCons (wOp fIx (wVar 0) (wC (.int 1))) (wCons (wVar 1) wNil))))
 (w_kind_of_t3 AD fs_kind_of fs_need fs_long_enough fs_kind_of_call fs_kind_of_two))
 wNext)
 (w_kind_of_t7 AD fs_kind_of fs_need fs_long_enough fs_kind_of_call fs_kind_of_two))
def w_kind_of_t9 (AD : Ads) (fs_kind_of fs_need fs_long_enough fs_kind_of_call fs_kind_of_two : FS) : WS :=
 (wSeq (wIf (wB (wOp fEq (wVar 2) (wC (.str "neg"))))
 (wSeq (wSet 3 (wCall fs_kind_of (wCons (wOp fIx (wVar 0) (wC (.int 1))) (wCons (wVar 1) wNil))))
 (w_kind_of_t1 AD fs_kind_of fs_need fs_long_enough fs_kind_of_call fs_kind_of_two))
 wNext)
 (w_kind_of_t8 AD fs_kind_of fs_need fs_long_enough fs_kind_of_call fs_kind_of_two))
def w_kind_of_t10 (AD : Ads) (fs_kind_of fs_need fs_long_enough fs_kind_of_call fs_kind_of_two : FS) : WS :=
 (wSeq (wIf (wB (wOp fEq (wVar 2) (wC (.str "name"))))
 (wSeq (wIf (wB (wDIn true (wOp fIx (wVar 0) (wC (.int 1))) (wVar 1)))
 (wRaise AD.Wrong (wCons (wC (.str "name")) wNil))
 wNext)
 (wRet (wOp fIxG (wVar 1) (wOp fIx (wVar 0) (wC (.int 1))))))
 wNext)
 (w_kind_of_t9 AD fs_kind_of fs_need fs_long_enough fs_kind_of_call fs_kind_of_two))
def w_kind_of_t11 (AD : Ads) (fs_kind_of fs_need fs_long_enough fs_kind_of_call fs_kind_of_two : FS) : WS :=
 (wSeq (wIf (wB (wOp fEq (wVar 2) (wC (.str "int"))))
 (wRet (wC (.tup [(.str "int")])))
 wNext)
 (w_kind_of_t10 AD fs_kind_of fs_need fs_long_enough fs_kind_of_call fs_kind_of_two))
def w_kind_of (AD : Ads) (fs_kind_of fs_need fs_long_enough fs_kind_of_call fs_kind_of_two : FS) : WS :=
 (wSeq (wSet 2 (wOp fIx (wVar 0) (wC (.int 0))))
 (w_kind_of_t11 AD fs_kind_of fs_need fs_long_enough fs_kind_of_call fs_kind_of_two))
theorem sc_kind_of : FnScope ["tree", "names", "word", "kind", "kinds", "part", "one"] ["tree", "names"] (defScope (topS 22)) := ⟨rfl, rfl, rfl, by decide +kernel, rfl, by decide +kernel, by decide +kernel⟩
theorem d_kind_of {k : Nat} {fs_kind_of fs_need fs_long_enough fs_kind_of_call fs_kind_of_two : FS} {AD : Ads} (Z : Nms w K mg AD) (c_kind_of : FnAt P w K mg base k 2 "kind_of" fs_kind_of) (c_need : FnAt P w K mg base k 1 "need" fs_need) (c_long_enough : FnAt P w K mg base k 1 "long_enough" fs_long_enough) (c_kind_of_call : FnAt P w K mg base k 3 "kind_of_call" fs_kind_of_call) (c_kind_of_two : FnAt P w K mg base k 3 "kind_of_two" fs_kind_of_two) (e_Wrong : ErAt P w K mg base k "Wrong" AD.Wrong) (f : Addr) (cdv : Value) (A : Around) (outer : List Env) (s : Shared) (H : Hp) (E : XK) (hr0 : Room (k + 1) (A.deeper (envOfC "kind_of" (defScope (topS 22)) s.heap.objs.size f cdv))) :
    QSs (cxOf (L2.CX P w) P w K mg base ["tree", "names", "word", "kind", "kinds", "part", "one"] "kind_of" (defScope (topS 22)) f cdv A outer s H E) (fun c d _ H' => E c d H') (defBody (topS 22)) (w_kind_of AD fs_kind_of fs_need fs_long_enough fs_kind_of_call fs_kind_of_two) := by
  have hN : (["tree", "names", "word", "kind", "kinds", "part", "one"] : List Str).Nodup := sc_kind_of.nd
  have tk : Takes (cxOf (L2.CX P w) P w K mg base ["tree", "names", "word", "kind", "kinds", "part", "one"] "kind_of" (defScope (topS 22)) f cdv A outer s H E) (fun c d _ H' => E c d H') := takes_of rfl rfl rfl rfl
  have hp : PassesOwn (model P w) (cxOf (L2.CX P w) P w K mg base ["tree", "names", "word", "kind", "kinds", "part", "one"] "kind_of" (defScope (topS 22)) f cdv A outer s H E).A (cxOf (L2.CX P w) P w K mg base ["tree", "names", "word", "kind", "kinds", "part", "one"] "kind_of" (defScope (topS 22)) f cdv A outer s H E).env (cxOf (L2.CX P w) P w K mg base ["tree", "names", "word", "kind", "kinds", "part", "one"] "kind_of" (defScope (topS 22)) f cdv A outer s H E).xe := passes_of rfl
  have hr1 := hr0
  have hr := hr0.mono (Nat.le_succ _)
  exact (scons (sasg 2 (qix (qv (pv 0)) qint) hN)
 (scons (sif (teq hr (qv (pv 2)) qstr)
 (sone (sret (qgtup rfl Z.u_INT)))
 snil)
 (scons (sif (teq hr (qv (pv 2)) qstr)
 (scons (sif (tdnotin hr (qix (qv (pv 0)) qint) (qv (pv 1)))
 (sone (sraise e_Wrong hr1 rfl tk rfl (acons qstr anil)))
 snil)
 (sone (sret (qixG hr (qv (pv 1)) (qix (qv (pv 0)) qint)))))
 snil)
 (scons (sif (teq hr (qv (pv 2)) qstr)
 (scons (sasg 3 (qcall c_kind_of hr tk rfl (acons (qix (qv (pv 0)) qint) (acons (qv (pv 1)) anil))) hN)
 (scons (sexpr (qcall c_need hr tk rfl (acons (qne hr (qix (qv (pv 3)) qint) qstr) anil)))
 (sone (sret (qv (pv 3))))))
 snil)
 (scons (sif (teq hr (qv (pv 2)) qstr)
 (scons (sasg 3 (qcall c_kind_of hr tk rfl (acons (qix (qv (pv 0)) qint) (acons (qv (pv 1)) anil))) hN)
 (scons (sexpr (qcall c_need hr tk rfl (acons (qor (qinD hr (qix (qv (pv 3)) qint) (qtup (acons qstr (acons qstr (acons qstr (acons qstr anil)))))) (qone (qand (qeq hr (qix (qv (pv 3)) qint) qstr) (qone (qeq hr (qix (qv (pv 3)) qint) (qix (qv (pv 3)) qint)))))) anil)))
 (sone (sret (qif (teq hr (qix (qv (pv 3)) qint) qstr) (qtup (acons qstr (acons (qcall c_long_enough hr tk rfl (acons (qadd (qmul (qsub (qix (qv (pv 3)) qint) qint) (qix (qv (pv 0)) qint)) qint) anil)) anil))) (qv (pv 3)))))))
 snil)
 (scons (sif (teq hr (qv (pv 2)) qstr)
 (scons (ssetX 4 (own := [("part", 5)]) (tg_name 5) tk hN (show blkC ["tree", "names", "word", "kind", "kinds", "part", "one"] (defScope (topS 22)) _ [("part", 5)] = true by decide +kernel) (ituple (qix (qv (pv 0)) qint)) (fun _ _ _ _ _ _ _ _ => gownX 5 hN) (fun _ _ _ _ _ _ _ tk => ifs0) (fun _ _ _ _ _ _ _ tk => (qcall c_kind_of hr tk rfl (acons (qv (pv 5)) (acons (qv (pv 1)) anil)))))
 (sone (sret (qcall c_kind_of_call hr tk rfl (acons (qix (qv (pv 0)) qint) (acons (qix (qv (pv 0)) qint) (acons (qv (pv 4)) anil)))))))
 snil)
 (scons (sasg 6 (qcall c_kind_of hr tk rfl (acons (qix (qv (pv 0)) qint) (acons (qv (pv 1)) anil))) hN)
 (sone (sret (qcall c_kind_of_two hr tk rfl (acons (qv (pv 2)) (acons (qv (pv 6)) (acons (qcall c_kind_of hr tk rfl (acons (qix (qv (pv 0)) qint) (acons (qv (pv 1)) anil))) anil)))))))))))))
/-! _law_draws ['script'] [] -/
def w_law_draws : WS :=
 (wRet (wLstM (wCons (wCB cList (wCons (wVar 0) wNil)) (wCons (wC (.int 0)) (wCons (wC (.int 0)) (wCons (wC (.int 1)) wNil))))))
theorem sc_law_draws : FnScope ["script"] ["script"] (defScope (topS 24)) := ⟨rfl, rfl, rfl, by decide +kernel, rfl, by decide +kernel, by decide +kernel⟩
theorem d_law_draws {k : Nat} {AD : Ads} (Z : Nms w K mg AD)  (f : Addr) (cdv : Value) (A : Around) (outer : List Env) (s : Shared) (H : Hp) (E : XK) (hr0 : Room (k) (A.deeper (envOfC "_law_draws" (defScope (topS 24)) s.heap.objs.size f cdv))) :
    QSs (cxOf (L2.CX P w) P w K mg base ["script"] "_law_draws" (defScope (topS 24)) f cdv A outer s H E) (fun c d _ H' => E c d H') (defBody (topS 24)) (w_law_draws ) := by
  have hN : (["script"] : List Str).Nodup := sc_law_draws.nd
  have tk : Takes (cxOf (L2.CX P w) P w K mg base ["script"] "_law_draws" (defScope (topS 24)) f cdv A outer s H E) (fun c d _ H' => E c d H') := takes_of rfl rfl rfl rfl
  have hp : PassesOwn (model P w) (cxOf (L2.CX P w) P w K mg base ["script"] "_law_draws" (defScope (topS 24)) f cdv A outer s H E).A (cxOf (L2.CX P w) P w K mg base ["script"] "_law_draws" (defScope (topS 24)) f cdv A outer s H E).env (cxOf (L2.CX P w) P w K mg base ["script"] "_law_draws" (defScope (topS 24)) f cdv A outer s H E).xe := passes_of rfl
  have hr := hr0
  exact (sone (sret (qlstM (acons (qcallTy call_list_of lList rfl Z.b_list rfl (acons (qv (pv 0)) anil)) (acons qint (acons qint (acons qint anil)))))))
/-! _law_draw ['draws', 'limit'] ['cell', 'value'] -/
def w_law_draw_t1 : WS :=
 (wAsg (gSubD (wVar 0) (wC (.int 3))) (wOp fMod (wCB cInt (wCons (wOp fAdd (wOp fAdd (wOp fMul (wOp fIx (wVar 0) (wC (.int 3))) (wC (.int 48271))) (wVar 2)) (wC (.int 13))) wNil)) (wC (.int 2147483647))))
def w_law_draw_t2 : WS :=
 (wSeq (wIf (wB (wOp fGe (wVar 2) (wOp fPow (wC (.int 10)) (wC (.int 18)))))
 (wAsg (gSubD (wVar 0) (wC (.int 2))) (wVar 2))
 wNext)
 (w_law_draw_t1 ))
def w_law_draw_t3 : WS :=
 (wSeq (wAsg (gSubD (wVar 0) (wC (.int 1))) (wOp fAdd (wOp fIx (wVar 0) (wC (.int 1))) (wC (.int 1))))
 (w_law_draw_t2 ))
def w_law_draw_t4 : WS :=
 (wSeq (wAsg (gSubD (wVar 0) (wC (.int 2))) (wOp fDiv (wOp fIx (wVar 0) (wC (.int 2))) (wVar 1)))
 (wRet (wVar 3)))
def w_law_draw_t5 : WS :=
 (wRet (wOp fMod (wCB cInt (wCons (wOp fDiv (wOp fIx (wVar 0) (wC (.int 3))) (wC (.int 11))) wNil)) (wVar 1)))
def w_law_draw_t6 : WS :=
 (wSeq (wAsg (gSubD (wVar 0) (wC (.int 3))) (wOp fMod (wCB cInt (wCons (wOp fAdd (wOp fMul (wOp fIx (wVar 0) (wC (.int 3))) (wC (.int 69621))) (wC (.int 7))) wNil)) (wC (.int 2147483629))))
 (w_law_draw_t5 ))
def w_law_draw_t7 : WS :=
 (wSeq (wIf (wB (wOp fGt (wOp fIx (wVar 0) (wC (.int 2))) (wC (.int 0))))
 (wSeq (wSet 3 (wOp fMod (wCB cInt (wCons (wOp fIx (wVar 0) (wC (.int 2))) wNil)) (wVar 1)))
 (w_law_draw_t4 ))
 wNext)
 (w_law_draw_t6 ))
def w_law_draw : WS :=
 (wSeq (wIf (wAnd (wB (wOp fEq (wOp fIx (wVar 0) (wC (.int 2))) (wC (.int 0)))) (wB (wOp fLt (wOp fIx (wVar 0) (wC (.int 1))) (wCB cLen (wCons (wOp fIx (wVar 0) (wC (.int 0))) wNil)))))
 (wSeq (wSet 2 (wOp fIx (wOp fIx (wVar 0) (wC (.int 0))) (wOp fIx (wVar 0) (wC (.int 1)))))
 (w_law_draw_t3 ))
 wNext)
 (w_law_draw_t7 ))
theorem sc_law_draw : FnScope ["draws", "limit", "cell", "value"] ["draws", "limit"] (defScope (topS 25)) := ⟨rfl, rfl, rfl, by decide +kernel, rfl, by decide +kernel, by decide +kernel⟩
theorem d_law_draw {k : Nat} {AD : Ads} (Z : Nms w K mg AD)  (f : Addr) (cdv : Value) (A : Around) (outer : List Env) (s : Shared) (H : Hp) (E : XK) (hr0 : Room (k) (A.deeper (envOfC "_law_draw" (defScope (topS 25)) s.heap.objs.size f cdv))) :
    QSs (cxOf (L2.CX P w) P w K mg base ["draws", "limit", "cell", "value"] "_law_draw" (defScope (topS 25)) f cdv A outer s H E) (fun c d _ H' => E c d H') (defBody (topS 25)) (w_law_draw ) := by
  have hN : (["draws", "limit", "cell", "value"] : List Str).Nodup := sc_law_draw.nd
  have tk : Takes (cxOf (L2.CX P w) P w K mg base ["draws", "limit", "cell", "value"] "_law_draw" (defScope (topS 25)) f cdv A outer s H E) (fun c d _ H' => E c d H') := takes_of rfl rfl rfl rfl
  have hp : PassesOwn (model P w) (cxOf (L2.CX P w) P w K mg base ["draws", "limit", "cell", "value"] "_law_draw" (defScope (topS 25)) f cdv A outer s H E).A (cxOf (L2.CX P w) P w K mg base ["draws", "limit", "cell", "value"] "_law_draw" (defScope (topS 25)) f cdv A outer s H E).env (cxOf (L2.CX P w) P w K mg base ["draws", "limit", "cell", "value"] "_law_draw" (defScope (topS 25)) f cdv A outer s H E).xe := passes_of rfl
  have hr := hr0
  exact (scons (sif (PW.pt (tand (teq hr (qix (qv (pv 0)) qint) qint) (tand1 (tlt (qix (qv (pv 0)) qint) (qcallB call_lenG lLen rfl Z.b_len rfl (acons (qix (qv (pv 0)) qint) anil))))))
 (scons (sasg 2 (qix (qix (qv (pv 0)) qint) (qix (qv (pv 0)) qint)) hN)
 (scons (stgt (ps_asg (qadd (qix (qv (pv 0)) qint) qint) (gsub (pg_sub (qv (pv 0)) qint (set_any (hu_of hr))))))
 (scons (sif (tge (qv (pv 2)) (qpow qint qint))
 (sone (stgt (ps_asg (qv (pv 2)) (gsub (pg_sub (qv (pv 0)) qint (set_any (hu_of hr)))))))
 snil)
 (sone (stgt (ps_asg (qmod (qcallTy (call_int1.or call_int_str) lIntC rfl Z.b_int rfl (acons (qadd (qadd (qmul (qix (qv (pv 0)) qint) qint) (qv (pv 2))) qint) anil)) qint) (gsub (pg_sub (qv (pv 0)) qint (set_any (hu_of hr))))))))))
 snil)
 (scons (sif (tgt (qix (qv (pv 0)) qint) qint)
 (scons (sasg 3 (qmod (qcallTy (call_int1.or call_int_str) lIntC rfl Z.b_int rfl (acons (qix (qv (pv 0)) qint) anil)) (qv (pv 1))) hN)
 (scons (stgt (ps_asg (qdiv (qix (qv (pv 0)) qint) (qv (pv 1))) (gsub (pg_sub (qv (pv 0)) qint (set_any (hu_of hr))))))
 (sone (sret (qv (pv 3))))))
 snil)
 (scons (stgt (ps_asg (qmod (qcallTy (call_int1.or call_int_str) lIntC rfl Z.b_int rfl (acons (qadd (qmul (qix (qv (pv 0)) qint) qint) qint) anil)) qint) (gsub (pg_sub (qv (pv 0)) qint (set_any (hu_of hr))))))
 (sone (sret (qmod (qcallTy (call_int1.or call_int_str) lIntC rfl Z.b_int rfl (acons (qdiv (qix (qv (pv 0)) qint) qint) anil)) (qv (pv 1))))))))
/-! _law_same ['x', 'due'] ['key', 'right', 'at'] -/
def w_law_same_t1 (fs_law_same : FS) : WS :=
 (wRet (wLkE 1 (wCB cAll (wCons (wLc 2 (wiKeys (wVar 1)) wYes (wCall fs_law_same (wCons (wOp fIxG (wVar 0) (wVar 2)) (wCons (wOp fIxG (wVar 1) (wVar 2)) wNil)))) wNil))))
def w_law_same_t2 (fs_law_same : FS) : WS :=
 (wRet (wAndV (wVar 3) (wAndV (wOp fEq (wCB cLen (wCons (wVar 0) wNil)) (wCB cLen (wCons (wVar 1) wNil))) (wCB cAll (wCons (wLc 4 (wiR1 True (wCB cLen (wCons (wVar 1) wNil))) wYes (wCall fs_law_same (wCons (wOp fIx (wVar 0) (wVar 4)) (wCons (wOp fIx (wVar 1) (wVar 4)) wNil)))) wNil)))))
def w_law_same_t3 (fs_law_same : FS) : WS :=
 (wSeq (wIf (wB (wCB cIsi (wCons (wVar 1) (wCons (wC (.ty "list")) wNil))))
 (wSet 3 (wCB cIsi (wCons (wVar 0) (wCons (wC (.ty "list")) wNil))))
 (wSet 3 (wCB cIsi (wCons (wVar 0) (wCons (wC (.ty "tuple")) wNil)))))
 (w_law_same_t2 fs_law_same))
def w_law_same_t4 (fs_law_same : FS) : WS :=
 (wSeq (wIf (wB (wCB cIsi (wCons (wVar 1) (wCons (wC (.ty "dict")) wNil))))
 (wSeq (wIf (wOr (wNot (wB (wCB cIsi (wCons (wVar 0) (wCons (wC (.ty "dict")) wNil))))) (wOr (wB (wOp fNe (wCB cLen (wCons (wVar 0) wNil)) (wCB cLen (wCons (wVar 1) wNil)))) (wNot (wB (wLkE 1 (wCB cAll (wCons (wLc 2 (wiKeys (wVar 1)) wYes (wDIn false (wVar 2) (wVar 0))) wNil)))))))
 (wRet (wC (.bl false)))
 wNext)
 (w_law_same_t1 fs_law_same))
 wNext)
 (w_law_same_t3 fs_law_same))
def w_law_same_t5 (fs_law_same : FS) : WS :=
 (wSeq (wIf (wB (wCB cIsi (wCons (wVar 1) (wCons (wC (.ty "str")) wNil))))
 (wRet (wAndV (wCB cIsi (wCons (wVar 0) (wCons (wC (.ty "str")) wNil))) (wOp fEq (wVar 0) (wVar 1))))
 wNext)
 (w_law_same_t4 fs_law_same))
def w_law_same_t6 (fs_law_same : FS) : WS :=
 (wSeq (wIf (wB (wCB cIsi (wCons (wVar 1) (wCons (wC (.ty "int")) wNil))))
 (wRet (wAndV (wCB cIsi (wCons (wVar 0) (wCons (wC (.ty "int")) wNil))) (wAndV (wNotV (wCB cIsi (wCons (wVar 0) (wCons (wC (.ty "bool")) wNil)))) (wOp fEq (wVar 0) (wVar 1)))))
 wNext)
 (w_law_same_t5 fs_law_same))
def w_law_same_t7 (fs_law_same : FS) : WS :=
 (wSeq (wIf (wB (wCB cIsi (wCons (wVar 1) (wCons (wC (.ty "bool")) wNil))))
 (wRet (wAndV (wCB cIsi (wCons (wVar 0) (wCons (wC (.ty "bool")) wNil))) (wOp fEq (wVar 0) (wVar 1))))
 wNext)
 (w_law_same_t6 fs_law_same))
def w_law_same (fs_law_same : FS) : WS :=
 (wSeq (wIf (wB (wOp fIsN (wVar 1) (wC .non)))
 (wRet (wOp fIsN (wVar 0) (wC .non)))
 wNext)
 (w_law_same_t7 fs_law_same))
theorem sc_law_same : FnScope ["x", "due", "key", "right", "at"] ["x", "due"] (defScope (topS 26)) := ⟨rfl, rfl, rfl, by decide +kernel, rfl, by decide +kernel, by decide +kernel⟩
theorem d_law_same {k : Nat} {fs_law_same : FS} {AD : Ads} (Z : Nms w K mg AD) (c_law_same : FnAt P w K mg base k 2 "_law_same" fs_law_same) (f : Addr) (cdv : Value) (A : Around) (outer : List Env) (s : Shared) (H : Hp) (E : XK) (hr0 : Room (k) (A.deeper (envOfC "_law_same" (defScope (topS 26)) s.heap.objs.size f cdv))) :
    QSs (cxOf (L2.CX P w) P w K mg base ["x", "due", "key", "right", "at"] "_law_same" (defScope (topS 26)) f cdv A outer s H E) (fun c d _ H' => E c d H') (defBody (topS 26)) (w_law_same fs_law_same) := by
  have hN : (["x", "due", "key", "right", "at"] : List Str).Nodup := sc_law_same.nd
  have tk : Takes (cxOf (L2.CX P w) P w K mg base ["x", "due", "key", "right", "at"] "_law_same" (defScope (topS 26)) f cdv A outer s H E) (fun c d _ H' => E c d H') := takes_of rfl rfl rfl rfl
  have hp : PassesOwn (model P w) (cxOf (L2.CX P w) P w K mg base ["x", "due", "key", "right", "at"] "_law_same" (defScope (topS 26)) f cdv A outer s H E).A (cxOf (L2.CX P w) P w K mg base ["x", "due", "key", "right", "at"] "_law_same" (defScope (topS 26)) f cdv A outer s H E).env (cxOf (L2.CX P w) P w K mg base ["x", "due", "key", "right", "at"] "_law_same" (defScope (topS 26)) f cdv A outer s H E).xe := passes_of rfl
  have hr := hr0
  exact (scons (sif (tisN (qv (pv 1)) qnon)
 (sone (sret (qisN (qv (pv 0)) qnon)))
 snil)
 (scons (sif (tval (qcallB call_isi lIsi rfl Z.b_isinstance rfl (acons (qv (pv 1)) (acons (qty rfl Z.b_bool rfl) anil))))
 (sone (sret (qand (qcallB call_isi lIsi rfl Z.b_isinstance rfl (acons (qv (pv 0)) (acons (qty rfl Z.b_bool rfl) anil))) (qone (qeq hr (qv (pv 0)) (qv (pv 1)))))))
 snil)
 (scons (sif (tval (qcallB call_isi lIsi rfl Z.b_isinstance rfl (acons (qv (pv 1)) (acons (qty rfl Z.b_int rfl) anil))))
 (sone (sret (qand (qcallB call_isi lIsi rfl Z.b_isinstance rfl (acons (qv (pv 0)) (acons (qty rfl Z.b_int rfl) anil))) (qand (qnot (qcallB call_isi lIsi rfl Z.b_isinstance rfl (acons (qv (pv 0)) (acons (qty rfl Z.b_bool rfl) anil)))) (qone (qeq hr (qv (pv 0)) (qv (pv 1))))))))
 snil)
 (scons (sif (tval (qcallB call_isi lIsi rfl Z.b_isinstance rfl (acons (qv (pv 1)) (acons (qty rfl Z.b_str rfl) anil))))
 (sone (sret (qand (qcallB call_isi lIsi rfl Z.b_isinstance rfl (acons (qv (pv 0)) (acons (qty rfl Z.b_str rfl) anil))) (qone (qeq hr (qv (pv 0)) (qv (pv 1)))))))
 snil)
 (scons (sif (tval (qcallB call_isi lIsi rfl Z.b_isinstance rfl (acons (qv (pv 1)) (acons (qty rfl Z.b_dict rfl) anil))))
 (scons (sif (PW.pt (tor (tnot (tval (qcallB call_isi lIsi rfl Z.b_isinstance rfl (acons (qv (pv 0)) (acons (qty rfl Z.b_dict rfl) anil))))) (tor (tne hr (qcallB call_lenG lLen rfl Z.b_len rfl (acons (qv (pv 0)) anil)) (qcallB call_lenG lLen rfl Z.b_len rfl (acons (qv (pv 1)) anil))) (tor1 (tnot (tval (qlk 1 (qcallB (cr_all rfl) lAll rfl Z.b_all rfl (acons (qlc1 (y := "key") rfl hN (show blkC ["x", "due", "key", "right", "at"] (defScope (topS 26)) _ [("key", 2)] = true by decide +kernel) (ikeys (qv (pv 1))) (fun _ _ _ _ _ => gown 2 hN) (fun _ _ _ _ _ => ifs0) (fun _ _ _ _ _ => (qdin hr (qv (pv 2)) (qv (pv 0))))) anil)))))))))
 (sone (sret qbl))
 snil)
 (sone (sret (qlk 1 (qcallB (cr_all rfl) lAll rfl Z.b_all rfl (acons (qlc1 (y := "key") rfl hN (show blkC ["x", "due", "key", "right", "at"] (defScope (topS 26)) _ [("key", 2)] = true by decide +kernel) (ikeys (qv (pv 1))) (fun _ _ _ _ _ => gown 2 hN) (fun _ _ _ _ _ => ifs0) (fun _ _ _ _ _ => (qcall c_law_same hr takes0 rfl (acons (qixG hr (qv (pv 0)) (qv (pv 2))) (acons (qixG hr (qv (pv 1)) (qv (pv 2))) anil))))) anil))))))
 snil)
 (scons (sif (tval (qcallB call_isi lIsi rfl Z.b_isinstance rfl (acons (qv (pv 1)) (acons (qty rfl Z.b_list rfl) anil))))
 (sone (sasg 3 (qcallB call_isi lIsi rfl Z.b_isinstance rfl (acons (qv (pv 0)) (acons (qty rfl Z.b_list rfl) anil))) hN))
 (sone (sasg 3 (qcallB call_isi lIsi rfl Z.b_isinstance rfl (acons (qv (pv 0)) (acons (qty rfl Z.b_tuple rfl) anil))) hN)))
 (sone (sret (qand (qv (pv 3)) (qand (qeq hr (qcallB call_lenG lLen rfl Z.b_len rfl (acons (qv (pv 0)) anil)) (qcallB call_lenG lLen rfl Z.b_len rfl (acons (qv (pv 1)) anil))) (qone (qcallB (cr_all rfl) lAll rfl Z.b_all rfl (acons (qlc1 (y := "at") rfl hN (show blkC ["x", "due", "key", "right", "at"] (defScope (topS 26)) _ [("at", 4)] = true by decide +kernel) (irange1 rfl Z.b_range (qcallB call_lenG lLen rfl Z.b_len rfl (acons (qv (pv 1)) anil))) (fun _ _ _ _ _ => gown 4 hN) (fun _ _ _ _ _ => ifs0) (fun _ _ _ _ _ => (qcall c_law_same hr takes0 rfl (acons (qix (qv (pv 0)) (qv (pv 4))) (acons (qix (qv (pv 1)) (qv (pv 4))) anil))))) anil)))))))))))))
/-! _law_copy ['thing'] ['part', 'found', 'key'] -/
def w_law_copy_t1 (fs_law_copy : FS) : WS :=
 (wSeq (wLkS 0 (wFor (wiKeys (wVar 0)) (gNm 3)
 (wAsg (gSubD (wVar 2) (wVar 3)) (wCall fs_law_copy (wCons (wOp fIxG (wVar 0) (wVar 3)) wNil)))))
 (wRet (wVar 2)))
def w_law_copy_t2 (fs_law_copy : FS) : WS :=
 (wSeq (wIf (wB (wCB cIsi (wCons (wVar 0) (wCons (wC (.ty "dict")) wNil))))
 (wSeq (wSet 2 wDNewK)
 (w_law_copy_t1 fs_law_copy))
 wNext)
 (wRet (wVar 0)))
def w_law_copy_t3 (fs_law_copy : FS) : WS :=
 (wSeq (wIf (wB (wCB cIsi (wCons (wVar 0) (wCons (wC (.ty "tuple")) wNil))))
 (wRet (wCB cTuple (wCons (wLcX (bN 1) (wiTup (wVar 0)) wYes (wCall fs_law_copy (wCons (wVar 1) wNil))) wNil)))
 wNext)
 (w_law_copy_t2 fs_law_copy))
def w_law_copy (fs_law_copy : FS) : WS :=
 (wSeq (wIf (wB (wCB cIsi (wCons (wVar 0) (wCons (wC (.ty "list")) wNil))))
 (wRet (wLcX (bN 1) (wiSeq (wVar 0)) wYes (wCall fs_law_copy (wCons (wVar 1) wNil))))
 wNext)
 (w_law_copy_t3 fs_law_copy))
theorem sc_law_copy : FnScope ["thing", "part", "found", "key"] ["thing"] (defScope (topS 27)) := ⟨rfl, rfl, rfl, by decide +kernel, rfl, by decide +kernel, by decide +kernel⟩
theorem d_law_copy {k : Nat} {fs_law_copy : FS} {AD : Ads} (Z : Nms w K mg AD) (c_law_copy : FnAt P w K mg base k 1 "_law_copy" fs_law_copy) (f : Addr) (cdv : Value) (A : Around) (outer : List Env) (s : Shared) (H : Hp) (E : XK) (hr0 : Room (k) (A.deeper (envOfC "_law_copy" (defScope (topS 27)) s.heap.objs.size f cdv))) :
    QSs (cxOf (L2.CX P w) P w K mg base ["thing", "part", "found", "key"] "_law_copy" (defScope (topS 27)) f cdv A outer s H E) (fun c d _ H' => E c d H') (defBody (topS 27)) (w_law_copy fs_law_copy) := by
  have hN : (["thing", "part", "found", "key"] : List Str).Nodup := sc_law_copy.nd
  have tk : Takes (cxOf (L2.CX P w) P w K mg base ["thing", "part", "found", "key"] "_law_copy" (defScope (topS 27)) f cdv A outer s H E) (fun c d _ H' => E c d H') := takes_of rfl rfl rfl rfl
  have hp : PassesOwn (model P w) (cxOf (L2.CX P w) P w K mg base ["thing", "part", "found", "key"] "_law_copy" (defScope (topS 27)) f cdv A outer s H E).A (cxOf (L2.CX P w) P w K mg base ["thing", "part", "found", "key"] "_law_copy" (defScope (topS 27)) f cdv A outer s H E).env (cxOf (L2.CX P w) P w K mg base ["thing", "part", "found", "key"] "_law_copy" (defScope (topS 27)) f cdv A outer s H E).xe := passes_of rfl
  have hr := hr0
  exact (scons (sif (tval (qcallB call_isi lIsi rfl Z.b_isinstance rfl (acons (qv (pv 0)) (acons (qty rfl Z.b_list rfl) anil))))
 (sone (sret (qlcX (own := [("part", 1)]) (tg_name 1) tk hN (show blkC ["thing", "part", "found", "key"] (defScope (topS 27)) _ [("part", 1)] = true by decide +kernel) (ilist (qv (pv 0))) (fun _ _ _ _ _ _ _ _ => gownX 1 hN) (fun _ _ _ _ _ _ _ tk => ifs0) (fun _ _ _ _ _ _ _ tk => (qcall c_law_copy hr tk rfl (acons (qv (pv 1)) anil))))))
 snil)
 (scons (sif (tval (qcallB call_isi lIsi rfl Z.b_isinstance rfl (acons (qv (pv 0)) (acons (qty rfl Z.b_tuple rfl) anil))))
 (sone (sret (qcallTy call_tuple_of lTuple rfl Z.b_tuple rfl (acons (qlcX (own := [("part", 1)]) (tg_name 1) tk hN (show blkC ["thing", "part", "found", "key"] (defScope (topS 27)) _ [("part", 1)] = true by decide +kernel) (ituple (qv (pv 0))) (fun _ _ _ _ _ _ _ _ => gownX 1 hN) (fun _ _ _ _ _ _ _ tk => ifs0) (fun _ _ _ _ _ _ _ tk => (qcall c_law_copy hr tk rfl (acons (qv (pv 1)) anil)))) anil))))
 snil)
 (scons (sif (tval (qcallB call_isi lIsi rfl Z.b_isinstance rfl (acons (qv (pv 0)) (acons (qty rfl Z.b_dict rfl) anil))))
 (scons (sasg 2 qdnewK hN)
 (scons (slk 0 (sfor hp rfl (ikeys (qv (pv 0))) (gname 3 hN)
 (sone (stgt (ps_asg (qcall c_law_copy hr tk rfl (acons (qixG hr (qv (pv 0)) (qv (pv 3))) anil)) (gsub (pg_sub (qv (pv 2)) (qv (pv 3)) (set_any (hu_of hr)))))))))
 (sone (sret (qv (pv 2))))))
 snil)
 (sone (sret (qv (pv 0)))))))
/-! _law_kind_two ['word', 'one', 'other'] [] -/
def w_law_kind_two_t1 : WS :=
 (wRet (wIfE (wB (wOp fEq (wVar 1) (wTup (wCons (wC (.str "int")) wNil)))) (wVar 2) (wVar 1)))
def w_law_kind_two_t2 : WS :=
 (wSeq (wIf (wAnd (wB (wOp fEq (wOp fIx (wVar 1) (wC (.int 0))) (wC (.str "poly")))) (wB (wOp fEq (wOp fIx (wVar 2) (wC (.int 0))) (wC (.str "poly")))))
 (wRet (wTup (wCons (wC (.str "poly")) (wCons (wIfE (wB (wOp fEq (wVar 0) (wC (.str "mul")))) (wOp fSub (wOp fAdd (wOp fIx (wVar 1) (wC (.int 1))) (wOp fIx (wVar 2) (wC (.int 1)))) (wC (.int 1))) (wCB cMaxQ (wCons (wOp fIx (wVar 1) (wC (.int 1))) (wCons (wOp fIx (wVar 2) (wC (.int 1))) wNil)))) wNil))))
 wNext)
 (w_law_kind_two_t1 ))
def w_law_kind_two_t3 : WS :=
 (wSeq (wIf (wAnd (wB (wOp fEq (wVar 0) (wC (.str "mul")))) (wB (wOp fEq (wOp fIx (wVar 1) (wC (.int 0))) (wC (.str "table")))))
 (wRet (wIfE (wB (wOp fEq (wOp fIx (wVar 2) (wC (.int 0))) (wC (.str "row")))) (wTup (wCons (wC (.str "row")) (wCons (wOp fIx (wVar 1) (wC (.int 1))) wNil))) (wTup (wCons (wC (.str "table")) (wCons (wOp fIx (wVar 1) (wC (.int 1))) (wCons (wOp fIx (wVar 2) (wC (.int 2))) wNil))))))
 wNext)
 (w_law_kind_two_t2 ))
def w_law_kind_two_t4 : WS :=
 (wSeq (wIf (wB (wOp fEq (wVar 0) (wC (.str "div"))))
 (wRet (wIfE (wAnd (wB (wOp (fInD false) (wOp fIx (wVar 1) (wC (.int 0))) (wTup (wCons (wC (.str "int")) (wCons (wC (.str "frac")) wNil))))) (wB (wOp (fInD false) (wOp fIx (wVar 2) (wC (.int 0))) (wTup (wCons (wC (.str "int")) (wCons (wC (.str "frac")) wNil)))))) (wTup (wCons (wC (.str "frac")) wNil)) (wIfE (wB (wOp fEq (wOp fIx (wVar 1) (wC (.int 0))) (wC (.str "rest")))) (wVar 1) (wVar 2))))
 wNext)
 (w_law_kind_two_t3 ))
def w_law_kind_two : WS :=
 (wSeq (wIf (wB (wOp (fInD false) (wVar 0) (wTup (wCons (wC (.str "quo")) (wCons (wC (.str "mod")) wNil)))))
 (wRet (wTup (wCons (wC (.str "int")) wNil)))
 wNext)
 (w_law_kind_two_t4 ))
theorem sc_law_kind_two : FnScope ["word", "one", "other"] ["word", "one", "other"] (defScope (topS 28)) := ⟨rfl, rfl, rfl, by decide +kernel, rfl, by decide +kernel, by decide +kernel⟩
theorem d_law_kind_two {k : Nat} {AD : Ads} (Z : Nms w K mg AD)  (f : Addr) (cdv : Value) (A : Around) (outer : List Env) (s : Shared) (H : Hp) (E : XK) (hr0 : Room (k) (A.deeper (envOfC "_law_kind_two" (defScope (topS 28)) s.heap.objs.size f cdv))) :
    QSs (cxOf (L2.CX P w) P w K mg base ["word", "one", "other"] "_law_kind_two" (defScope (topS 28)) f cdv A outer s H E) (fun c d _ H' => E c d H') (defBody (topS 28)) (w_law_kind_two ) := by
  have hN : (["word", "one", "other"] : List Str).Nodup := sc_law_kind_two.nd
  have tk : Takes (cxOf (L2.CX P w) P w K mg base ["word", "one", "other"] "_law_kind_two" (defScope (topS 28)) f cdv A outer s H E) (fun c d _ H' => E c d H') := takes_of rfl rfl rfl rfl
  have hp : PassesOwn (model P w) (cxOf (L2.CX P w) P w K mg base ["word", "one", "other"] "_law_kind_two" (defScope (topS 28)) f cdv A outer s H E).A (cxOf (L2.CX P w) P w K mg base ["word", "one", "other"] "_law_kind_two" (defScope (topS 28)) f cdv A outer s H E).env (cxOf (L2.CX P w) P w K mg base ["word", "one", "other"] "_law_kind_two" (defScope (topS 28)) f cdv A outer s H E).xe := passes_of rfl
  have hr := hr0
  exact (scons (sif (tinD hr (qv (pv 0)) (qtup (acons qstr (acons qstr anil))))
 (sone (sret (qtup (acons qstr anil))))
 snil)
 (scons (sif (teq hr (qv (pv 0)) qstr)
 (sone (sret (qif (PW.pt (tand (tinD hr (qix (qv (pv 1)) qint) (qtup (acons qstr (acons qstr anil)))) (tand1 (tinD hr (qix (qv (pv 2)) qint) (qtup (acons qstr (acons qstr anil))))))) (qtup (acons qstr anil)) (qif (teq hr (qix (qv (pv 1)) qint) qstr) (qv (pv 1)) (qv (pv 2))))))
 snil)
 (scons (sif (PW.pt (tand (teq hr (qv (pv 0)) qstr) (tand1 (teq hr (qix (qv (pv 1)) qint) qstr))))
 (sone (sret (qif (teq hr (qix (qv (pv 2)) qint) qstr) (qtup (acons qstr (acons (qix (qv (pv 1)) qint) anil))) (qtup (acons qstr (acons (qix (qv (pv 1)) qint) (acons (qix (qv (pv 2)) qint) anil)))))))
 snil)
 (scons (sif (PW.pt (tand (teq hr (qix (qv (pv 1)) qint) qstr) (tand1 (teq hr (qix (qv (pv 2)) qint) qstr))))
 (sone (sret (qtup (acons qstr (acons (qif (teq hr (qv (pv 0)) qstr) (qsub (qadd (qix (qv (pv 1)) qint) (qix (qv (pv 2)) qint)) qint) (qcallB (((call_max2 rfl).or (cr_max rfl)).or (cr_maxT rfl)) lMaxQ rfl Z.b_max rfl (acons (qix (qv (pv 1)) qint) (acons (qix (qv (pv 2)) qint) anil)))) anil)))))
 snil)
 (sone (sret (qif (teq hr (qv (pv 1)) (qtup (acons qstr anil))) (qv (pv 2)) (qv (pv 1)))))))))
/-! _law_kind ['tree', 'names'] ['word', 'kind', 'kinds', 'part'] -/
def w_law_kind_t1 (fs_law_kind fs_law_kind_two : FS) : WS :=
 (wRet (wIfE (wAnd (wB (wOp fEq (wVar 2) (wC (.str "pow")))) (wB (wOp fEq (wOp fIx (wVar 3) (wC (.int 0))) (wC (.str "poly"))))) (wTup (wCons (wC (.str "poly")) (wCons (wOp fAdd (wOp fMul (wOp fSub (wOp fIx (wVar 3) (wC (.int 1))) (wC (.int 1))) (wOp fIx (wVar 0) (wC (.int 2)))) (wC (.int 1))) wNil))) (wVar 3)))
def w_law_kind_t2 (fs_law_kind fs_law_kind_two : FS) : WS :=
 (wRet (wIfE (wB (wOp (fInD false) (wOp fIx (wVar 0) (wC (.int 1))) (wTup (wCons (wC (.str "reduced")) (wCons (wC (.str "hermite")) wNil))))) (wOp fIx (wVar 4) (wC (.int 0))) (wTup (wCons (wC (.str "int")) wNil))))
def w_law_kind_t3 (fs_law_kind fs_law_kind_two : FS) : WS :=
 (wSeq (wIf (wB (wOp (fInD false) (wOp fIx (wVar 0) (wC (.int 1))) (wTup (wCons (wC (.str "solved")) (wCons (wC (.str "whole")) wNil)))))
 (wRet (wTup (wCons (wC (.str "answer")) (wCons (wOp fIx (wOp fIx (wVar 4) (wC (.int 0))) (wC (.int 1))) (wCons (wOp fIx (wOp fIx (wVar 4) (wC (.int 0))) (wC (.int 2))) wNil)))))
 wNext)
 (w_law_kind_t2 fs_law_kind fs_law_kind_two))
def w_law_kind_t4 (fs_law_kind fs_law_kind_two : FS) : WS :=
 (wSeq (wIf (wB (wOp fEq (wOp fIx (wVar 0) (wC (.int 1))) (wC (.str "turned"))))
 (wRet (wTup (wCons (wC (.str "table")) (wCons (wOp fIx (wOp fIx (wVar 4) (wC (.int 0))) (wC (.int 2))) (wCons (wOp fIx (wOp fIx (wVar 4) (wC (.int 0))) (wC (.int 1))) wNil)))))
 wNext)
 (w_law_kind_t3 fs_law_kind fs_law_kind_two))
def w_law_kind_t5 (fs_law_kind fs_law_kind_two : FS) : WS :=
 (wSeq (wIf (wB (wOp (fInD false) (wOp fIx (wVar 0) (wC (.int 1))) (wTup (wCons (wC (.str "polyquo")) (wCons (wC (.str "polymod")) (wCons (wC (.str "polygcd")) wNil))))))
 (wRet (wTup (wCons (wC (.str "poly")) (wCons (wIfE (wB (wOp fEq (wOp fIx (wVar 0) (wC (.int 1))) (wC (.str "polyquo")))) (wOp fIx (wOp fIx (wVar 4) (wC (.int 0))) (wC (.int 1))) (wCB cMaxQ (wCons (wOp fIx (wOp fIx (wVar 4) (wC (.int 0))) (wC (.int 1))) (wCons (wOp fIx (wOp fIx (wVar 4) (wC (.int 1))) (wC (.int 1))) wNil)))) wNil))))
 wNext)
 (w_law_kind_t4 fs_law_kind fs_law_kind_two))
def w_law_kind_t6 (fs_law_kind fs_law_kind_two : FS) : WS :=
 (wSeq (wIf (wB (wOp fEq (wOp fIx (wVar 0) (wC (.int 1))) (wC (.str "rest"))))
 (wRet (wTup (wCons (wC (.str "rest")) (wCons (wOp fIx (wOp fIx (wOp fIx (wVar 0) (wC (.int 2))) (wC (.int 1))) (wC (.int 1))) wNil))))
 wNext)
 (w_law_kind_t5 fs_law_kind fs_law_kind_two))
def w_law_kind_t7 (fs_law_kind fs_law_kind_two : FS) : WS :=
 (wSeq (wIf (wB (wOp fEq (wOp fIx (wVar 0) (wC (.int 1))) (wC (.str "table"))))
 (wRet (wTup (wCons (wC (.str "table")) (wCons (wCB cLen (wCons (wVar 4) wNil)) (wCons (wOp fIx (wOp fIx (wVar 4) (wC (.int 0))) (wC (.int 1))) wNil)))))
 wNext)
 (w_law_kind_t6 fs_law_kind fs_law_kind_two))
def w_law_kind_t8 (fs_law_kind fs_law_kind_two : FS) : WS :=
 (wSeq (wIf (wB (wOp (fInD false) (wOp fIx (wVar 0) (wC (.int 1))) (wTup (wCons (wC (.str "row")) (wCons (wC (.str "poly")) wNil)))))
 (wRet (wTup (wCons (wOp fIx (wVar 0) (wC (.int 1))) (wCons (wCB cLen (wCons (wVar 4) wNil)) wNil))))
 wNext)
 (w_law_kind_t7 fs_law_kind fs_law_kind_two))
def w_law_kind_t9 (fs_law_kind fs_law_kind_two : FS) : WS :=
 (wSeq (wSet 4 (wLcX (bN 5) (wiTup (wOp fIx (wVar 0) (wC (.int 2)))) wYes (wCall fs_law_kind (wCons (wVar 5) (wCons (wVar 1) wNil)))))
 (w_law_kind_t8 fs_law_kind fs_law_kind_two))
def w_law_kind_t10 (fs_law_kind fs_law_kind_two : FS) : WS :=
 (wSeq (wIf (wB (wOp fNe (wVar 2) (wC (.str "call"))))
 (wRet (wCall fs_law_kind_two (wCons (wVar 2) (wCons (wCall fs_law_kind (wCons (wOp fIx (wVar 0) (wC (.int 1))) (wCons (wVar 1) wNil))) (wCons (wCall fs_law_kind (wCons (wOp fIx (wVar 0) (wC (.int 2))) (wCons (wVar 1) wNil))) wNil)))))
 wNext)
 (w_law_kind_t9 fs_law_kind fs_law_kind_two))
def w_law_kind_t11 (fs_law_kind fs_law_kind_two : FS) : WS :=
 (wSeq (wIf (wB (wOp (fInD false) (wVar 2) (wTup (wCons (wC (.str "neg")) (wCons (wC (.str "pow")) wNil)))))
 (wSeq (wSet 3 (wCall fs_law_kind (wCons (wOp fIx (wVar 0) (wC (.int 1))) (wCons (wVar 1) wNil))))
 (w_law_kind_t1 fs_law_kind fs_law_kind_two))
 wNext)
 (w_law_kind_t10 fs_law_kind fs_law_kind_two))
def w_law_kind_t12 (fs_law_kind fs_law_kind_two : FS) : WS :=
 (wSeq (wIf (wB (wOp fEq (wVar 2) (wC (.str "name"))))
 (wRet (wOp fIxG (wVar 1) (wOp fIx (wVar 0) (wC (.int 1)))))
 wNext)
 (w_law_kind_t11 fs_law_kind fs_law_kind_two))
def w_law_kind_t13 (fs_law_kind fs_law_kind_two : FS) : WS :=
 (wSeq (wIf (wB (wOp fEq (wVar 2) (wC (.str "int"))))
 (wRet (wTup (wCons (wC (.str "int")) wNil)))
 wNext)
 (w_law_kind_t12 fs_law_kind fs_law_kind_two))
def w_law_kind (fs_law_kind fs_law_kind_two : FS) : WS :=
 (wSeq (wSet 2 (wOp fIx (wVar 0) (wC (.int 0))))
 (w_law_kind_t13 fs_law_kind fs_law_kind_two))
theorem sc_law_kind : FnScope ["tree", "names", "word", "kind", "kinds", "part"] ["tree", "names"] (defScope (topS 29)) := ⟨rfl, rfl, rfl, by decide +kernel, rfl, by decide +kernel, by decide +kernel⟩
theorem d_law_kind {k : Nat} {fs_law_kind fs_law_kind_two : FS} {AD : Ads} (Z : Nms w K mg AD) (c_law_kind : FnAt P w K mg base k 2 "_law_kind" fs_law_kind) (c_law_kind_two : FnAt P w K mg base k 3 "_law_kind_two" fs_law_kind_two) (f : Addr) (cdv : Value) (A : Around) (outer : List Env) (s : Shared) (H : Hp) (E : XK) (hr0 : Room (k) (A.deeper (envOfC "_law_kind" (defScope (topS 29)) s.heap.objs.size f cdv))) :
    QSs (cxOf (L2.CX P w) P w K mg base ["tree", "names", "word", "kind", "kinds", "part"] "_law_kind" (defScope (topS 29)) f cdv A outer s H E) (fun c d _ H' => E c d H') (defBody (topS 29)) (w_law_kind fs_law_kind fs_law_kind_two) := by
  have hN : (["tree", "names", "word", "kind", "kinds", "part"] : List Str).Nodup := sc_law_kind.nd
  have tk : Takes (cxOf (L2.CX P w) P w K mg base ["tree", "names", "word", "kind", "kinds", "part"] "_law_kind" (defScope (topS 29)) f cdv A outer s H E) (fun c d _ H' => E c d H') := takes_of rfl rfl rfl rfl
  have hp : PassesOwn (model P w) (cxOf (L2.CX P w) P w K mg base ["tree", "names", "word", "kind", "kinds", "part"] "_law_kind" (defScope (topS 29)) f cdv A outer s H E).A (cxOf (L2.CX P w) P w K mg base ["tree", "names", "word", "kind", "kinds", "part"] "_law_kind" (defScope (topS 29)) f cdv A outer s H E).env (cxOf (L2.CX P w) P w K mg base ["tree", "names", "word", "kind", "kinds", "part"] "_law_kind" (defScope (topS 29)) f cdv A outer s H E).xe := passes_of rfl
  have hr := hr0
  exact (scons (sasg 2 (qix (qv (pv 0)) qint) hN)
 (scons (sif (teq hr (qv (pv 2)) qstr)
 (sone (sret (qtup (acons qstr anil))))
 snil)
 (scons (sif (teq hr (qv (pv 2)) qstr)
 (sone (sret (qixG hr (qv (pv 1)) (qix (qv (pv 0)) qint))))
 snil)
 (scons (sif (tinD hr (qv (pv 2)) (qtup (acons qstr (acons qstr anil))))
 (scons (sasg 3 (qcall c_law_kind hr tk rfl (acons (qix (qv (pv 0)) qint) (acons (qv (pv 1)) anil))) hN)
 (sone (sret (qif (PW.pt (tand (teq hr (qv (pv 2)) qstr) (tand1 (teq hr (qix (qv (pv 3)) qint) qstr)))) (qtup (acons qstr (acons (qadd (qmul (qsub (qix (qv (pv 3)) qint) qint) (qix (qv (pv 0)) qint)) qint) anil))) (qv (pv 3))))))
 snil)
 (scons (sif (tne hr (qv (pv 2)) qstr)
 (sone (sret (qcall c_law_kind_two hr tk rfl (acons (qv (pv 2)) (acons (qcall c_law_kind hr tk rfl (acons (qix (qv (pv 0)) qint) (acons (qv (pv 1)) anil))) (acons (qcall c_law_kind hr tk rfl (acons (qix (qv (pv 0)) qint) (acons (qv (pv 1)) anil))) anil))))))
 snil)
 (scons (ssetX 4 (own := [("part", 5)]) (tg_name 5) tk hN (show blkC ["tree", "names", "word", "kind", "kinds", "part"] (defScope (topS 29)) _ [("part", 5)] = true by decide +kernel) (ituple (qix (qv (pv 0)) qint)) (fun _ _ _ _ _ _ _ _ => gownX 5 hN) (fun _ _ _ _ _ _ _ tk => ifs0) (fun _ _ _ _ _ _ _ tk => (qcall c_law_kind hr tk rfl (acons (qv (pv 5)) (acons (qv (pv 1)) anil)))))
 (scons (sif (tinD hr (qix (qv (pv 0)) qint) (qtup (acons qstr (acons qstr anil))))
 (sone (sret (qtup (acons (qix (qv (pv 0)) qint) (acons (qcallB call_lenG lLen rfl Z.b_len rfl (acons (qv (pv 4)) anil)) anil)))))
 snil)
 (scons (sif (teq hr (qix (qv (pv 0)) qint) qstr)
 (sone (sret (qtup (acons qstr (acons (qcallB call_lenG lLen rfl Z.b_len rfl (acons (qv (pv 4)) anil)) (acons (qix (qix (qv (pv 4)) qint) qint) anil))))))
 snil)
 (scons (sif (teq hr (qix (qv (pv 0)) qint) qstr)
 (sone (sret (qtup (acons qstr (acons (qix (qix (qix (qv (pv 0)) qint) qint) qint) anil)))))
 snil)
 (scons (sif (tinD hr (qix (qv (pv 0)) qint) (qtup (acons qstr (acons qstr (acons qstr anil)))))
 (sone (sret (qtup (acons qstr (acons (qif (teq hr (qix (qv (pv 0)) qint) qstr) (qix (qix (qv (pv 4)) qint) qint) (qcallB (((call_max2 rfl).or (cr_max rfl)).or (cr_maxT rfl)) lMaxQ rfl Z.b_max rfl (acons (qix (qix (qv (pv 4)) qint) qint) (acons (qix (qix (qv (pv 4)) qint) qint) anil)))) anil)))))
 snil)
 (scons (sif (teq hr (qix (qv (pv 0)) qint) qstr)
 (sone (sret (qtup (acons qstr (acons (qix (qix (qv (pv 4)) qint) qint) (acons (qix (qix (qv (pv 4)) qint) qint) anil))))))
 snil)
 (scons (sif (tinD hr (qix (qv (pv 0)) qint) (qtup (acons qstr (acons qstr anil))))
 (sone (sret (qtup (acons qstr (acons (qix (qix (qv (pv 4)) qint) qint) (acons (qix (qix (qv (pv 4)) qint) qint) anil))))))
 snil)
 (sone (sret (qif (tinD hr (qix (qv (pv 0)) qint) (qtup (acons qstr (acons qstr anil)))) (qix (qv (pv 4)) qint) (qtup (acons qstr anil)))))))))))))))))
/-! _law_number ['draws'] [] -/
def w_law_number (fs_law_draw : FS) : WS :=
 (wRet (wTup (wCons (wC (.str "int")) (wCons (wOp fIx (wLst (wCons (wCall fs_law_draw (wCons (wVar 0) (wCons (wC (.int 10)) wNil))) (wCons (wCall fs_law_draw (wCons (wVar 0) (wCons (wC (.int 1000)) wNil))) (wCons (wOp fAdd (wOp fIx (wLst (wCons (wC (.int 1)) (wCons (wOp fPow (wC (.int 10)) (wC (.int 5))) (wCons (wOp fPow (wC (.int 10)) (wC (.int 12))) (wCons (wOp fPow (wC (.int 10)) (wC (.int 29))) wNil))))) (wCall fs_law_draw (wCons (wVar 0) (wCons (wC (.int 4)) wNil)))) (wCall fs_law_draw (wCons (wVar 0) (wCons (wC (.int 100)) wNil)))) wNil)))) (wCall fs_law_draw (wCons (wVar 0) (wCons (wC (.int 3)) wNil)))) wNil))))
theorem sc_law_number : FnScope ["draws"] ["draws"] (defScope (topS 30)) := ⟨rfl, rfl, rfl, by decide +kernel, rfl, by decide +kernel, by decide +kernel⟩
theorem d_law_number {k : Nat} {fs_law_draw : FS} {AD : Ads} (c_law_draw : FnAt P w K mg base k 2 "_law_draw" fs_law_draw) (f : Addr) (cdv : Value) (A : Around) (outer : List Env) (s : Shared) (H : Hp) (E : XK) (hr0 : Room (k) (A.deeper (envOfC "_law_number" (defScope (topS 30)) s.heap.objs.size f cdv))) :
    QSs (cxOf (L2.CX P w) P w K mg base ["draws"] "_law_number" (defScope (topS 30)) f cdv A outer s H E) (fun c d _ H' => E c d H') (defBody (topS 30)) (w_law_number fs_law_draw) := by
  have hN : (["draws"] : List Str).Nodup := sc_law_number.nd
  have tk : Takes (cxOf (L2.CX P w) P w K mg base ["draws"] "_law_number" (defScope (topS 30)) f cdv A outer s H E) (fun c d _ H' => E c d H') := takes_of rfl rfl rfl rfl
  have hp : PassesOwn (model P w) (cxOf (L2.CX P w) P w K mg base ["draws"] "_law_number" (defScope (topS 30)) f cdv A outer s H E).A (cxOf (L2.CX P w) P w K mg base ["draws"] "_law_number" (defScope (topS 30)) f cdv A outer s H E).env (cxOf (L2.CX P w) P w K mg base ["draws"] "_law_number" (defScope (topS 30)) f cdv A outer s H E).xe := passes_of rfl
  have hr := hr0
  exact (sone (sret (qtup (acons qstr (acons (qix (qlst (acons (qcall c_law_draw hr tk rfl (acons (qv (pv 0)) (acons qint anil))) (acons (qcall c_law_draw hr tk rfl (acons (qv (pv 0)) (acons qint anil))) (acons (qadd (qix (qlst (acons qint (acons (qpow qint qint) (acons (qpow qint qint) (acons (qpow qint qint) anil))))) (qcall c_law_draw hr tk rfl (acons (qv (pv 0)) (acons qint anil)))) (qcall c_law_draw hr tk rfl (acons (qv (pv 0)) (acons qint anil)))) anil)))) (qcall c_law_draw hr tk rfl (acons (qv (pv 0)) (acons qint anil)))) anil)))))
/-! _law_named ['draws', 'names', 'kind'] ['some', 'name'] -/
def w_law_named_t1 (fs_law_draw : FS) : WS :=
 (wRet (wIfE (wAnd (wB (wOp fGt (wCB cLen (wCons (wVar 3) wNil)) (wC (.int 0)))) (wB (wOp fGt (wCall fs_law_draw (wCons (wVar 0) (wCons (wC (.int 3)) wNil))) (wC (.int 0))))) (wTup (wCons (wC (.str "name")) (wCons (wOp fIx (wVar 3) (wCall fs_law_draw (wCons (wVar 0) (wCons (wCB cLen (wCons (wVar 3) wNil)) wNil)))) wNil))) (wC .non)))
def w_law_named (fs_law_draw : FS) : WS :=
 (wSeq (wSet 3 (wLc 4 (wiSeq (wCB cSortS (wCons (wCB cListD (wCons (wVar 1) wNil)) wNil))) (wB (wOp fEq (wOp fIxG (wVar 1) (wVar 4)) (wVar 2))) (wVar 4)))
 (w_law_named_t1 fs_law_draw))
theorem sc_law_named : FnScope ["draws", "names", "kind", "some", "name"] ["draws", "names", "kind"] (defScope (topS 31)) := ⟨rfl, rfl, rfl, by decide +kernel, rfl, by decide +kernel, by decide +kernel⟩
theorem d_law_named {k : Nat} {fs_law_draw : FS} {AD : Ads} (Z : Nms w K mg AD) (c_law_draw : FnAt P w K mg base k 2 "_law_draw" fs_law_draw) (f : Addr) (cdv : Value) (A : Around) (outer : List Env) (s : Shared) (H : Hp) (E : XK) (hr0 : Room (k) (A.deeper (envOfC "_law_named" (defScope (topS 31)) s.heap.objs.size f cdv))) :
    QSs (cxOf (L2.CX P w) P w K mg base ["draws", "names", "kind", "some", "name"] "_law_named" (defScope (topS 31)) f cdv A outer s H E) (fun c d _ H' => E c d H') (defBody (topS 31)) (w_law_named fs_law_draw) := by
  have hN : (["draws", "names", "kind", "some", "name"] : List Str).Nodup := sc_law_named.nd
  have tk : Takes (cxOf (L2.CX P w) P w K mg base ["draws", "names", "kind", "some", "name"] "_law_named" (defScope (topS 31)) f cdv A outer s H E) (fun c d _ H' => E c d H') := takes_of rfl rfl rfl rfl
  have hp : PassesOwn (model P w) (cxOf (L2.CX P w) P w K mg base ["draws", "names", "kind", "some", "name"] "_law_named" (defScope (topS 31)) f cdv A outer s H E).A (cxOf (L2.CX P w) P w K mg base ["draws", "names", "kind", "some", "name"] "_law_named" (defScope (topS 31)) f cdv A outer s H E).env (cxOf (L2.CX P w) P w K mg base ["draws", "names", "kind", "some", "name"] "_law_named" (defScope (topS 31)) f cdv A outer s H E).xe := passes_of rfl
  have hr := hr0
  exact (scons (ssetLc (i := 3) (y := "name") hN (show blkC ["draws", "names", "kind", "some", "name"] (defScope (topS 31)) _ [("name", 4)] = true by decide +kernel) (ilist (qcallB cr_sortedS lSortS rfl Z.b_sorted rfl (acons (qcallTy (call_listD rfl) lListD rfl Z.b_list rfl (acons (qv (pv 1)) anil)) anil))) (fun _ _ _ _ _ => gown 4 hN) (fun _ _ _ _ _ => (ifs1 (teq hr (qixG hr (qv (pv 1)) (qv (pv 4))) (qv (pv 2))))) (fun _ _ _ _ _ => (qv (pv 4))))
 (sone (sret (qif (PW.pt (tand (tgt (qcallB call_lenG lLen rfl Z.b_len rfl (acons (qv (pv 3)) anil)) qint) (tand1 (tgt (qcall c_law_draw hr tk rfl (acons (qv (pv 0)) (acons qint anil))) qint)))) (qtup (acons qstr (acons (qix (qv (pv 3)) (qcall c_law_draw hr tk rfl (acons (qv (pv 0)) (acons (qcallB call_lenG lLen rfl Z.b_len rfl (acons (qv (pv 3)) anil)) anil)))) anil))) qnon))))
/-! _law_int ['draws', 'names', 'deep'] ['found', 'kind', 'one', 'other', 'many'] -/
def w_law_int_t1 (fs_law_named fs_law_draw fs_law_number fs_law_int fs_law_row fs_law_poly fs_law_frac fs_law_rest : FS) : WS :=
 (wRet (wIfE (wB (wOp fEq (wCall fs_law_draw (wCons (wVar 0) (wCons (wC (.int 2)) wNil))) (wC (.int 0)))) (wTup (wCons (wC (.str "call")) (wCons (wOp fIx (wLst (wCons (wC (.str "top")) (wCons (wC (.str "bottom")) wNil))) (wCall fs_law_draw (wCons (wVar 0) (wCons (wC (.int 2)) wNil)))) (wCons (wTup (wCons (wCall fs_law_frac (wCons (wVar 0) (wCons (wVar 1) (wCons (wOp fSub (wVar 2) (wC (.int 1))) wNil)))) wNil)) wNil)))) (wTup (wCons (wC (.str "call")) (wCons (wC (.str "lift")) (wCons (wTup (wCons (wCall fs_law_rest (wCons (wVar 0) (wCons (wVar 1) (wCons (wC (.int 7)) (wCons (wOp fSub (wVar 2) (wC (.int 1))) wNil))))) wNil)) wNil))))))
def w_law_int_t2 (fs_law_named fs_law_draw fs_law_number fs_law_int fs_law_row fs_law_poly fs_law_frac fs_law_rest : FS) : WS :=
 (wSeq (wIf (wB (wOp fEq (wVar 4) (wC (.int 14))))
 (wRet (wTup (wCons (wC (.str "call")) (wCons (wC (.str "at")) (wCons (wTup (wCons (wCall fs_law_poly (wCons (wVar 0) (wCons (wVar 1) (wCons (wOp fSub (wVar 2) (wC (.int 1))) wNil)))) (wCons (wTup (wCons (wC (.str "int")) (wCons (wCall fs_law_draw (wCons (wVar 0) (wCons (wC (.int 9)) wNil))) wNil))) wNil))) wNil)))))
 wNext)
 (w_law_int_t1 fs_law_named fs_law_draw fs_law_number fs_law_int fs_law_row fs_law_poly fs_law_frac fs_law_rest))
def w_law_int_t3 (fs_law_named fs_law_draw fs_law_number fs_law_int fs_law_row fs_law_poly fs_law_frac fs_law_rest : FS) : WS :=
 (wSeq (wIf (wB (wOp fEq (wVar 4) (wC (.int 13))))
 (wRet (wTup (wCons (wC (.str "call")) (wCons (wC (.str "item")) (wCons (wTup (wCons (wCall fs_law_row (wCons (wVar 0) (wCons (wVar 1) (wCons (wVar 7) (wCons (wOp fSub (wVar 2) (wC (.int 1))) wNil))))) (wCons (wTup (wCons (wC (.str "int")) (wCons (wCall fs_law_draw (wCons (wVar 0) (wCons (wVar 7) wNil))) wNil))) wNil))) wNil)))))
 wNext)
 (w_law_int_t2 fs_law_named fs_law_draw fs_law_number fs_law_int fs_law_row fs_law_poly fs_law_frac fs_law_rest))
def w_law_int_t4 (fs_law_named fs_law_draw fs_law_number fs_law_int fs_law_row fs_law_poly fs_law_frac fs_law_rest : FS) : WS :=
 (wSeq (wIf (wB (wOp fEq (wVar 4) (wC (.int 12))))
 (wRet (wTup (wCons (wC (.str "call")) (wCons (wC (.str "dot")) (wCons (wTup (wCons (wCall fs_law_row (wCons (wVar 0) (wCons (wVar 1) (wCons (wVar 7) (wCons (wOp fSub (wVar 2) (wC (.int 1))) wNil))))) (wCons (wCall fs_law_row (wCons (wVar 0) (wCons (wVar 1) (wCons (wVar 7) (wCons (wOp fSub (wVar 2) (wC (.int 1))) wNil))))) wNil))) wNil)))))
 wNext)
 (w_law_int_t3 fs_law_named fs_law_draw fs_law_number fs_law_int fs_law_row fs_law_poly fs_law_frac fs_law_rest))
def w_law_int_t5 (fs_law_named fs_law_draw fs_law_number fs_law_int fs_law_row fs_law_poly fs_law_frac fs_law_rest : FS) : WS :=
 (wSeq (wSet 7 (wOp fAdd (wC (.int 1)) (wCall fs_law_draw (wCons (wVar 0) (wCons (wC (.int 3)) wNil)))))
 (w_law_int_t4 fs_law_named fs_law_draw fs_law_number fs_law_int fs_law_row fs_law_poly fs_law_frac fs_law_rest))
def w_law_int_t6 (fs_law_named fs_law_draw fs_law_number fs_law_int fs_law_row fs_law_poly fs_law_frac fs_law_rest : FS) : WS :=
 (wSeq (wIf (wB (wOp fEq (wVar 4) (wC (.int 11))))
 (wRet (wTup (wCons (wC (.str "call")) (wCons (wC (.str "power")) (wCons (wTup (wCons (wCall fs_law_int (wCons (wVar 0) (wCons (wVar 1) (wCons (wOp fSub (wVar 2) (wC (.int 1))) wNil)))) (wCons (wTup (wCons (wC (.str "int")) (wCons (wCall fs_law_draw (wCons (wVar 0) (wCons (wC (.int 40)) wNil))) wNil))) (wCons (wTup (wCons (wC (.str "add")) (wCons (wVar 5) (wCons (wTup (wCons (wC (.str "int")) (wCons (wC (.int 1)) wNil))) wNil)))) wNil)))) wNil)))))
 wNext)
 (w_law_int_t5 fs_law_named fs_law_draw fs_law_number fs_law_int fs_law_row fs_law_poly fs_law_frac fs_law_rest))
def w_law_int_t7 (fs_law_named fs_law_draw fs_law_number fs_law_int fs_law_row fs_law_poly fs_law_frac fs_law_rest : FS) : WS :=
 (wSeq (wIf (wB (wOp fEq (wVar 4) (wC (.int 10))))
 (wRet (wTup (wCons (wC (.str "call")) (wCons (wC (.str "root")) (wCons (wTup (wCons (wCall fs_law_int (wCons (wVar 0) (wCons (wVar 1) (wCons (wOp fSub (wVar 2) (wC (.int 1))) wNil)))) (wCons (wTup (wCons (wC (.str "int")) (wCons (wOp fAdd (wC (.int 1)) (wCall fs_law_draw (wCons (wVar 0) (wCons (wC (.int 4)) wNil)))) wNil))) wNil))) wNil)))))
 wNext)
 (w_law_int_t6 fs_law_named fs_law_draw fs_law_number fs_law_int fs_law_row fs_law_poly fs_law_frac fs_law_rest))
def w_law_int_t8 (fs_law_named fs_law_draw fs_law_number fs_law_int fs_law_row fs_law_poly fs_law_frac fs_law_rest : FS) : WS :=
 (wSeq (wIf (wB (wOp fEq (wVar 4) (wC (.int 9))))
 (wRet (wTup (wCons (wC (.str "call")) (wCons (wC (.str "gcd")) (wCons (wTup (wCons (wCall fs_law_int (wCons (wVar 0) (wCons (wVar 1) (wCons (wOp fSub (wVar 2) (wC (.int 1))) wNil)))) (wCons (wCall fs_law_int (wCons (wVar 0) (wCons (wVar 1) (wCons (wOp fSub (wVar 2) (wC (.int 1))) wNil)))) wNil))) wNil)))))
 wNext)
 (w_law_int_t7 fs_law_named fs_law_draw fs_law_number fs_law_int fs_law_row fs_law_poly fs_law_frac fs_law_rest))
def w_law_int_t9 (fs_law_named fs_law_draw fs_law_number fs_law_int fs_law_row fs_law_poly fs_law_frac fs_law_rest : FS) : WS :=
 (wSeq (wIf (wB (wOp fEq (wVar 4) (wC (.int 8))))
 (wRet (wTup (wCons (wC (.str "pow")) (wCons (wCall fs_law_int (wCons (wVar 0) (wCons (wVar 1) (wCons (wOp fSub (wVar 2) (wC (.int 1))) wNil)))) (wCons (wCall fs_law_draw (wCons (wVar 0) (wCons (wC (.int 4)) wNil))) wNil)))))
 wNext)
 (w_law_int_t8 fs_law_named fs_law_draw fs_law_number fs_law_int fs_law_row fs_law_poly fs_law_frac fs_law_rest))
def w_law_int_t10 (fs_law_named fs_law_draw fs_law_number fs_law_int fs_law_row fs_law_poly fs_law_frac fs_law_rest : FS) : WS :=
 (wSeq (wIf (wB (wOp fLt (wVar 4) (wC (.int 8))))
 (wRet (wTup (wCons (wOp fIx (wLst (wCons (wC (.str "add")) (wCons (wC (.str "sub")) (wCons (wC (.str "mul")) (wCons (wC (.str "quo")) (wCons (wC (.str "mod")) wNil)))))) (wOp fSub (wVar 4) (wC (.int 3)))) (wCons (wCall fs_law_int (wCons (wVar 0) (wCons (wVar 1) (wCons (wOp fSub (wVar 2) (wC (.int 1))) wNil)))) (wCons (wCall fs_law_int (wCons (wVar 0) (wCons (wVar 1) (wCons (wOp fSub (wVar 2) (wC (.int 1))) wNil)))) wNil)))))
 wNext)
 (w_law_int_t9 fs_law_named fs_law_draw fs_law_number fs_law_int fs_law_row fs_law_poly fs_law_frac fs_law_rest))
def w_law_int_t11 (fs_law_named fs_law_draw fs_law_number fs_law_int fs_law_row fs_law_poly fs_law_frac fs_law_rest : FS) : WS :=
 (wSeq (wIf (wB (wOp fLt (wVar 4) (wC (.int 3))))
 (wRet (wIfE (wB (wOp fEq (wVar 4) (wC (.int 1)))) (wTup (wCons (wC (.str "neg")) (wCons (wVar 5) wNil))) (wVar 5)))
 wNext)
 (w_law_int_t10 fs_law_named fs_law_draw fs_law_number fs_law_int fs_law_row fs_law_poly fs_law_frac fs_law_rest))
def w_law_int_t12 (fs_law_named fs_law_draw fs_law_number fs_law_int fs_law_row fs_law_poly fs_law_frac fs_law_rest : FS) : WS :=
 (wSeq (wPar 5 6 (wCall fs_law_number (wCons (wVar 0) wNil)) (wCall fs_law_number (wCons (wVar 0) wNil)))
 (w_law_int_t11 fs_law_named fs_law_draw fs_law_number fs_law_int fs_law_row fs_law_poly fs_law_frac fs_law_rest))
def w_law_int_t13 (fs_law_named fs_law_draw fs_law_number fs_law_int fs_law_row fs_law_poly fs_law_frac fs_law_rest : FS) : WS :=
 (wSeq (wSet 4 (wIfE (wB (wOp fGt (wVar 2) (wC (.int 0)))) (wCall fs_law_draw (wCons (wVar 0) (wCons (wC (.int 16)) wNil))) (wC (.int 0))))
 (w_law_int_t12 fs_law_named fs_law_draw fs_law_number fs_law_int fs_law_row fs_law_poly fs_law_frac fs_law_rest))
def w_law_int_t14 (fs_law_named fs_law_draw fs_law_number fs_law_int fs_law_row fs_law_poly fs_law_frac fs_law_rest : FS) : WS :=
 (wSeq (wIf (wB (wOp fNotN (wVar 3) (wC .non)))
 (wRet (wVar 3))
 wNext)
 (w_law_int_t13 fs_law_named fs_law_draw fs_law_number fs_law_int fs_law_row fs_law_poly fs_law_frac fs_law_rest))
def w_law_int (fs_law_named fs_law_draw fs_law_number fs_law_int fs_law_row fs_law_poly fs_law_frac fs_law_rest : FS) : WS :=
 (wSeq (wSet 3 (wCall fs_law_named (wCons (wVar 0) (wCons (wVar 1) (wCons (wTup (wCons (wC (.str "int")) wNil)) wNil)))))
 (w_law_int_t14 fs_law_named fs_law_draw fs_law_number fs_law_int fs_law_row fs_law_poly fs_law_frac fs_law_rest))
theorem sc_law_int : FnScope ["draws", "names", "deep", "found", "kind", "one", "other", "many"] ["draws", "names", "deep"] (defScope (topS 32)) := ⟨rfl, rfl, rfl, by decide +kernel, rfl, by decide +kernel, by decide +kernel⟩
theorem d_law_int {k : Nat} {fs_law_named fs_law_draw fs_law_number fs_law_int fs_law_row fs_law_poly fs_law_frac fs_law_rest : FS} {AD : Ads} (c_law_named : FnAt P w K mg base k 3 "_law_named" fs_law_named) (c_law_draw : FnAt P w K mg base k 2 "_law_draw" fs_law_draw) (c_law_number : FnAt P w K mg base k 1 "_law_number" fs_law_number) (c_law_int : FnAt P w K mg base k 3 "_law_int" fs_law_int) (c_law_row : FnAt P w K mg base k 4 "_law_row" fs_law_row) (c_law_poly : FnAt P w K mg base k 3 "_law_poly" fs_law_poly) (c_law_frac : FnAt P w K mg base k 3 "_law_frac" fs_law_frac) (c_law_rest : FnAt P w K mg base k 4 "_law_rest" fs_law_rest) (f : Addr) (cdv : Value) (A : Around) (outer : List Env) (s : Shared) (H : Hp) (E : XK) (hr0 : Room (k) (A.deeper (envOfC "_law_int" (defScope (topS 32)) s.heap.objs.size f cdv))) :
    QSs (cxOf (L2.CX P w) P w K mg base ["draws", "names", "deep", "found", "kind", "one", "other", "many"] "_law_int" (defScope (topS 32)) f cdv A outer s H E) (fun c d _ H' => E c d H') (defBody (topS 32)) (w_law_int fs_law_named fs_law_draw fs_law_number fs_law_int fs_law_row fs_law_poly fs_law_frac fs_law_rest) := by
  have hN : (["draws", "names", "deep", "found", "kind", "one", "other", "many"] : List Str).Nodup := sc_law_int.nd
  have tk : Takes (cxOf (L2.CX P w) P w K mg base ["draws", "names", "deep", "found", "kind", "one", "other", "many"] "_law_int" (defScope (topS 32)) f cdv A outer s H E) (fun c d _ H' => E c d H') := takes_of rfl rfl rfl rfl
  have hp : PassesOwn (model P w) (cxOf (L2.CX P w) P w K mg base ["draws", "names", "deep", "found", "kind", "one", "other", "many"] "_law_int" (defScope (topS 32)) f cdv A outer s H E).A (cxOf (L2.CX P w) P w K mg base ["draws", "names", "deep", "found", "kind", "one", "other", "many"] "_law_int" (defScope (topS 32)) f cdv A outer s H E).env (cxOf (L2.CX P w) P w K mg base ["draws", "names", "deep", "found", "kind", "one", "other", "many"] "_law_int" (defScope (topS 32)) f cdv A outer s H E).xe := passes_of rfl
  have hr := hr0
  exact (scons (sasg 3 (qcall c_law_named hr tk rfl (acons (qv (pv 0)) (acons (qv (pv 1)) (acons (qtup (acons qstr anil)) anil)))) hN)
 (scons (sif (tnotN (qv (pv 3)) qnon)
 (sone (sret (qv (pv 3))))
 snil)
 (scons (sasg 4 (qif (tgt (qv (pv 2)) qint) (qcall c_law_draw hr tk rfl (acons (qv (pv 0)) (acons qint anil))) qint) hN)
 (scons (spar 5 6 (ps_par rfl hN rfl rfl (by decide) rfl rfl (acons (qcall c_law_number hr tk rfl (acons (qv (pv 0)) anil)) (acons (qcall c_law_number hr tk rfl (acons (qv (pv 0)) anil)) anil)) rfl) (fun _ _ _ h => h))
 (scons (sif (tlt (qv (pv 4)) qint)
 (sone (sret (qif (teq hr (qv (pv 4)) qint) (qtup (acons qstr (acons (qv (pv 5)) anil))) (qv (pv 5)))))
 snil)
 (scons (sif (tlt (qv (pv 4)) qint)
 (sone (sret (qtup (acons (qix (qlst (acons qstr (acons qstr (acons qstr (acons qstr (acons qstr anil)))))) (qsub (qv (pv 4)) qint)) (acons (qcall c_law_int hr tk rfl (acons (qv (pv 0)) (acons (qv (pv 1)) (acons (qsub (qv (pv 2)) qint) anil)))) (acons (qcall c_law_int hr tk rfl (acons (qv (pv 0)) (acons (qv (pv 1)) (acons (qsub (qv (pv 2)) qint) anil)))) anil))))))
 snil)
 (scons (sif (teq hr (qv (pv 4)) qint)
 (sone (sret (qtup (acons qstr (acons (qcall c_law_int hr tk rfl (acons (qv (pv 0)) (acons (qv (pv 1)) (acons (qsub (qv (pv 2)) qint) anil)))) (acons (qcall c_law_draw hr tk rfl (acons (qv (pv 0)) (acons qint anil))) anil))))))
 snil)
 (scons (sif (teq hr (qv (pv 4)) qint)
 (sone (sret (qtup (acons qstr (acons qstr (acons (qtup (acons (qcall c_law_int hr tk rfl (acons (qv (pv 0)) (acons (qv (pv 1)) (acons (qsub (qv (pv 2)) qint) anil)))) (acons (qcall c_law_int hr tk rfl (acons (qv (pv 0)) (acons (qv (pv 1)) (acons (qsub (qv (pv 2)) qint) anil)))) anil))) anil))))))
 snil)
 (scons (sif (teq hr (qv (pv 4)) qint)
 (sone (sret (qtup (acons qstr (acons qstr (acons (qtup (acons (qcall c_law_int hr tk rfl (acons (qv (pv 0)) (acons (qv (pv 1)) (acons (qsub (qv (pv 2)) qint) anil)))) (acons (qtup (acons qstr (acons (qadd qint (qcall c_law_draw hr tk rfl (acons (qv (pv 0)) (acons qint anil)))) anil))) anil))) anil))))))
 snil)
 (scons (sif (teq hr (qv (pv 4)) qint)
 (sone (sret (qtup (acons qstr (acons qstr (acons (qtup (acons (qcall c_law_int hr tk rfl (acons (qv (pv 0)) (acons (qv (pv 1)) (acons (qsub (qv (pv 2)) qint) anil)))) (acons (qtup (acons qstr (acons (qcall c_law_draw hr tk rfl (acons (qv (pv 0)) (acons qint anil))) anil))) (acons (qtup (acons qstr (acons (qv (pv 5)) (acons (qtup (acons qstr (acons qint anil))) anil)))) anil)))) anil))))))
 snil)
 (scons (sasg 7 (qadd qint (qcall c_law_draw hr tk rfl (acons (qv (pv 0)) (acons qint anil)))) hN)
 (scons (sif (teq hr (qv (pv 4)) qint)
 (sone (sret (qtup (acons qstr (acons qstr (acons (qtup (acons (qcall c_law_row hr tk rfl (acons (qv (pv 0)) (acons (qv (pv 1)) (acons (qv (pv 7)) (acons (qsub (qv (pv 2)) qint) anil))))) (acons (qcall c_law_row hr tk rfl (acons (qv (pv 0)) (acons (qv (pv 1)) (acons (qv (pv 7)) (acons (qsub (qv (pv 2)) qint) anil))))) anil))) anil))))))
 snil)
 (scons (sif (teq hr (qv (pv 4)) qint)
 (sone (sret (qtup (acons qstr (acons qstr (acons (qtup (acons (qcall c_law_row hr tk rfl (acons (qv (pv 0)) (acons (qv (pv 1)) (acons (qv (pv 7)) (acons (qsub (qv (pv 2)) qint) anil))))) (acons (qtup (acons qstr (acons (qcall c_law_draw hr tk rfl (acons (qv (pv 0)) (acons (qv (pv 7)) anil))) anil))) anil))) anil))))))
 snil)
 (scons (sif (teq hr (qv (pv 4)) qint)
 (sone (sret (qtup (acons qstr (acons qstr (acons (qtup (acons (qcall c_law_poly hr tk rfl (acons (qv (pv 0)) (acons (qv (pv 1)) (acons (qsub (qv (pv 2)) qint) anil)))) (acons (qtup (acons qstr (acons (qcall c_law_draw hr tk rfl (acons (qv (pv 0)) (acons qint anil))) anil))) anil))) anil))))))
 snil)
 (sone (sret (qif (teq hr (qcall c_law_draw hr tk rfl (acons (qv (pv 0)) (acons qint anil))) qint) (qtup (acons qstr (acons (qix (qlst (acons qstr (acons qstr anil))) (qcall c_law_draw hr tk rfl (acons (qv (pv 0)) (acons qint anil)))) (acons (qtup (acons (qcall c_law_frac hr tk rfl (acons (qv (pv 0)) (acons (qv (pv 1)) (acons (qsub (qv (pv 2)) qint) anil)))) anil)) anil)))) (qtup (acons qstr (acons qstr (acons (qtup (acons (qcall c_law_rest hr tk rfl (acons (qv (pv 0)) (acons (qv (pv 1)) (acons qint (acons (qsub (qv (pv 2)) qint) anil))))) anil)) anil)))))))))))))))))))))
/-! _law_frac ['draws', 'names', 'deep'] ['found', 'kind', 'other', 'pair'] -/
def w_law_frac_t1 (fs_law_named fs_law_draw fs_law_int fs_law_frac : FS) : WS :=
 (wRet (wOp fAdd (wTup (wCons (wOp fIx (wLst (wCons (wC (.str "add")) (wCons (wC (.str "mul")) (wCons (wC (.str "div")) wNil)))) (wOp fSub (wVar 4) (wC (.int 2)))) wNil)) (wVar 6)))
def w_law_frac_t2 (fs_law_named fs_law_draw fs_law_int fs_law_frac : FS) : WS :=
 (wSeq (wSet 6 (wIfE (wB (wOp fEq (wCall fs_law_draw (wCons (wVar 0) (wCons (wC (.int 2)) wNil))) (wC (.int 0)))) (wRev2 (wVar 6)) (wVar 6)))
 (w_law_frac_t1 fs_law_named fs_law_draw fs_law_int fs_law_frac))
def w_law_frac_t3 (fs_law_named fs_law_draw fs_law_int fs_law_frac : FS) : WS :=
 (wSeq (wSet 6 (wTup (wCons (wCall fs_law_frac (wCons (wVar 0) (wCons (wVar 1) (wCons (wOp fSub (wVar 2) (wC (.int 1))) wNil)))) (wCons (wVar 5) wNil))))
 (w_law_frac_t2 fs_law_named fs_law_draw fs_law_int fs_law_frac))
def w_law_frac_t4 (fs_law_named fs_law_draw fs_law_int fs_law_frac : FS) : WS :=
 (wRet (wIfE (wB (wOp fEq (wCall fs_law_draw (wCons (wVar 0) (wCons (wC (.int 2)) wNil))) (wC (.int 0)))) (wTup (wCons (wC (.str "pow")) (wCons (wCall fs_law_frac (wCons (wVar 0) (wCons (wVar 1) (wCons (wOp fSub (wVar 2) (wC (.int 1))) wNil)))) (wCons (wCall fs_law_draw (wCons (wVar 0) (wCons (wC (.int 4)) wNil))) wNil)))) (wTup (wCons (wC (.str "neg")) (wCons (wCall fs_law_frac (wCons (wVar 0) (wCons (wVar 1) (wCons (wOp fSub (wVar 2) (wC (.int 1))) wNil)))) wNil)))))
def w_law_frac_t5 (fs_law_named fs_law_draw fs_law_int fs_law_frac : FS) : WS :=
 (wSeq (wIf (wB (wOp fLt (wVar 4) (wC (.int 5))))
 (wSeq (wSet 5 (wIfE (wB (wOp fEq (wCall fs_law_draw (wCons (wVar 0) (wCons (wC (.int 3)) wNil))) (wC (.int 0)))) (wCall fs_law_int (wCons (wVar 0) (wCons (wVar 1) (wCons (wOp fSub (wVar 2) (wC (.int 1))) wNil)))) (wCall fs_law_frac (wCons (wVar 0) (wCons (wVar 1) (wCons (wOp fSub (wVar 2) (wC (.int 1))) wNil))))))
 (w_law_frac_t3 fs_law_named fs_law_draw fs_law_int fs_law_frac))
 wNext)
 (w_law_frac_t4 fs_law_named fs_law_draw fs_law_int fs_law_frac))
def w_law_frac_t6 (fs_law_named fs_law_draw fs_law_int fs_law_frac : FS) : WS :=
 (wSeq (wIf (wB (wOp fLt (wVar 4) (wC (.int 2))))
 (wRet (wTup (wCons (wC (.str "div")) (wCons (wCall fs_law_int (wCons (wVar 0) (wCons (wVar 1) (wCons (wCB cMaxQ (wCons (wC (.int 0)) (wCons (wOp fSub (wVar 2) (wC (.int 1))) wNil))) wNil)))) (wCons (wCall fs_law_int (wCons (wVar 0) (wCons (wVar 1) (wCons (wCB cMaxQ (wCons (wC (.int 0)) (wCons (wOp fSub (wVar 2) (wC (.int 1))) wNil))) wNil)))) wNil)))))
 wNext)
 (w_law_frac_t5 fs_law_named fs_law_draw fs_law_int fs_law_frac))
def w_law_frac_t7 (fs_law_named fs_law_draw fs_law_int fs_law_frac : FS) : WS :=
 (wSeq (wSet 4 (wIfE (wB (wOp fGt (wVar 2) (wC (.int 0)))) (wCall fs_law_draw (wCons (wVar 0) (wCons (wC (.int 6)) wNil))) (wC (.int 0))))
 (w_law_frac_t6 fs_law_named fs_law_draw fs_law_int fs_law_frac))
def w_law_frac_t8 (fs_law_named fs_law_draw fs_law_int fs_law_frac : FS) : WS :=
 (wSeq (wIf (wB (wOp fNotN (wVar 3) (wC .non)))
 (wRet (wVar 3))
 wNext)
 (w_law_frac_t7 fs_law_named fs_law_draw fs_law_int fs_law_frac))
def w_law_frac (fs_law_named fs_law_draw fs_law_int fs_law_frac : FS) : WS :=
 (wSeq (wSet 3 (wCall fs_law_named (wCons (wVar 0) (wCons (wVar 1) (wCons (wTup (wCons (wC (.str "frac")) wNil)) wNil)))))
 (w_law_frac_t8 fs_law_named fs_law_draw fs_law_int fs_law_frac))
theorem sc_law_frac : FnScope ["draws", "names", "deep", "found", "kind", "other", "pair"] ["draws", "names", "deep"] (defScope (topS 33)) := ⟨rfl, rfl, rfl, by decide +kernel, rfl, by decide +kernel, by decide +kernel⟩
theorem d_law_frac {k : Nat} {fs_law_named fs_law_draw fs_law_int fs_law_frac : FS} {AD : Ads} (Z : Nms w K mg AD) (c_law_named : FnAt P w K mg base k 3 "_law_named" fs_law_named) (c_law_draw : FnAt P w K mg base k 2 "_law_draw" fs_law_draw) (c_law_int : FnAt P w K mg base k 3 "_law_int" fs_law_int) (c_law_frac : FnAt P w K mg base k 3 "_law_frac" fs_law_frac) (f : Addr) (cdv : Value) (A : Around) (outer : List Env) (s : Shared) (H : Hp) (E : XK) (hr0 : Room (k) (A.deeper (envOfC "_law_frac" (defScope (topS 33)) s.heap.objs.size f cdv))) :
    QSs (cxOf (L2.CX P w) P w K mg base ["draws", "names", "deep", "found", "kind", "other", "pair"] "_law_frac" (defScope (topS 33)) f cdv A outer s H E) (fun c d _ H' => E c d H') (defBody (topS 33)) (w_law_frac fs_law_named fs_law_draw fs_law_int fs_law_frac) := by
  have hN : (["draws", "names", "deep", "found", "kind", "other", "pair"] : List Str).Nodup := sc_law_frac.nd
  have tk : Takes (cxOf (L2.CX P w) P w K mg base ["draws", "names", "deep", "found", "kind", "other", "pair"] "_law_frac" (defScope (topS 33)) f cdv A outer s H E) (fun c d _ H' => E c d H') := takes_of rfl rfl rfl rfl
  have hp : PassesOwn (model P w) (cxOf (L2.CX P w) P w K mg base ["draws", "names", "deep", "found", "kind", "other", "pair"] "_law_frac" (defScope (topS 33)) f cdv A outer s H E).A (cxOf (L2.CX P w) P w K mg base ["draws", "names", "deep", "found", "kind", "other", "pair"] "_law_frac" (defScope (topS 33)) f cdv A outer s H E).env (cxOf (L2.CX P w) P w K mg base ["draws", "names", "deep", "found", "kind", "other", "pair"] "_law_frac" (defScope (topS 33)) f cdv A outer s H E).xe := passes_of rfl
  have hr := hr0
  exact (scons (sasg 3 (qcall c_law_named hr tk rfl (acons (qv (pv 0)) (acons (qv (pv 1)) (acons (qtup (acons qstr anil)) anil)))) hN)
 (scons (sif (tnotN (qv (pv 3)) qnon)
 (sone (sret (qv (pv 3))))
 snil)
 (scons (sasg 4 (qif (tgt (qv (pv 2)) qint) (qcall c_law_draw hr tk rfl (acons (qv (pv 0)) (acons qint anil))) qint) hN)
 (scons (sif (tlt (qv (pv 4)) qint)
 (sone (sret (qtup (acons qstr (acons (qcall c_law_int hr tk rfl (acons (qv (pv 0)) (acons (qv (pv 1)) (acons (qcallB (((call_max2 rfl).or (cr_max rfl)).or (cr_maxT rfl)) lMaxQ rfl Z.b_max rfl (acons qint (acons (qsub (qv (pv 2)) qint) anil))) anil)))) (acons (qcall c_law_int hr tk rfl (acons (qv (pv 0)) (acons (qv (pv 1)) (acons (qcallB (((call_max2 rfl).or (cr_max rfl)).or (cr_maxT rfl)) lMaxQ rfl Z.b_max rfl (acons qint (acons (qsub (qv (pv 2)) qint) anil))) anil)))) anil))))))
 snil)
 (scons (sif (tlt (qv (pv 4)) qint)
 (scons (sasg 5 (qif (teq hr (qcall c_law_draw hr tk rfl (acons (qv (pv 0)) (acons qint anil))) qint) (qcall c_law_int hr tk rfl (acons (qv (pv 0)) (acons (qv (pv 1)) (acons (qsub (qv (pv 2)) qint) anil)))) (qcall c_law_frac hr tk rfl (acons (qv (pv 0)) (acons (qv (pv 1)) (acons (qsub (qv (pv 2)) qint) anil))))) hN)
 (scons (sasg 6 (qtup (acons (qcall c_law_frac hr tk rfl (acons (qv (pv 0)) (acons (qv (pv 1)) (acons (qsub (qv (pv 2)) qint) anil)))) (acons (qv (pv 5)) anil))) hN)
 (scons (sasg 6 (qif (teq hr (qcall c_law_draw hr tk rfl (acons (qv (pv 0)) (acons qint anil))) qint) (qrev2 (qv (pv 6))) (qv (pv 6))) hN)
 (sone (sret (qadd (qtup (acons (qix (qlst (acons qstr (acons qstr (acons qstr anil)))) (qsub (qv (pv 4)) qint)) anil)) (qv (pv 6))))))))
 snil)
 (sone (sret (qif (teq hr (qcall c_law_draw hr tk rfl (acons (qv (pv 0)) (acons qint anil))) qint) (qtup (acons qstr (acons (qcall c_law_frac hr tk rfl (acons (qv (pv 0)) (acons (qv (pv 1)) (acons (qsub (qv (pv 2)) qint) anil)))) (acons (qcall c_law_draw hr tk rfl (acons (qv (pv 0)) (acons qint anil))) anil)))) (qtup (acons qstr (acons (qcall c_law_frac hr tk rfl (acons (qv (pv 0)) (acons (qv (pv 1)) (acons (qsub (qv (pv 2)) qint) anil)))) anil)))))))))))
/-! _law_rest ['draws', 'names', 'modulus', 'deep'] ['found', 'kind', 'other', 'pair'] -/
def w_law_rest_t1 (fs_law_named fs_law_draw fs_law_int fs_law_rest : FS) : WS :=
 (wRet (wOp fAdd (wTup (wCons (wOp fIx (wLst (wCons (wC (.str "add")) (wCons (wC (.str "mul")) (wCons (wC (.str "div")) wNil)))) (wOp fSub (wVar 5) (wC (.int 2)))) wNil)) (wIfE (wB (wOp fEq (wCall fs_law_draw (wCons (wVar 0) (wCons (wC (.int 2)) wNil))) (wC (.int 0)))) (wRev2 (wVar 7)) (wVar 7))))
def w_law_rest_t2 (fs_law_named fs_law_draw fs_law_int fs_law_rest : FS) : WS :=
 (wSeq (wSet 7 (wTup (wCons (wCall fs_law_rest (wCons (wVar 0) (wCons (wVar 1) (wCons (wVar 2) (wCons (wOp fSub (wVar 3) (wC (.int 1))) wNil))))) (wCons (wVar 6) wNil))))
 (w_law_rest_t1 fs_law_named fs_law_draw fs_law_int fs_law_rest))
def w_law_rest_t3 (fs_law_named fs_law_draw fs_law_int fs_law_rest : FS) : WS :=
 (wRet (wIfE (wB (wOp fEq (wCall fs_law_draw (wCons (wVar 0) (wCons (wC (.int 2)) wNil))) (wC (.int 0)))) (wTup (wCons (wC (.str "pow")) (wCons (wCall fs_law_rest (wCons (wVar 0) (wCons (wVar 1) (wCons (wVar 2) (wCons (wOp fSub (wVar 3) (wC (.int 1))) wNil))))) (wCons (wCall fs_law_draw (wCons (wVar 0) (wCons (wC (.int 30)) wNil))) wNil)))) (wTup (wCons (wC (.str "neg")) (wCons (wCall fs_law_rest (wCons (wVar 0) (wCons (wVar 1) (wCons (wVar 2) (wCons (wOp fSub (wVar 3) (wC (.int 1))) wNil))))) wNil)))))
def w_law_rest_t4 (fs_law_named fs_law_draw fs_law_int fs_law_rest : FS) : WS :=
 (wSeq (wIf (wB (wOp fLt (wVar 5) (wC (.int 5))))
 (wSeq (wSet 6 (wIfE (wB (wOp fEq (wCall fs_law_draw (wCons (wVar 0) (wCons (wC (.int 3)) wNil))) (wC (.int 0)))) (wCall fs_law_int (wCons (wVar 0) (wCons (wVar 1) (wCons (wOp fSub (wVar 3) (wC (.int 1))) wNil)))) (wCall fs_law_rest (wCons (wVar 0) (wCons (wVar 1) (wCons (wVar 2) (wCons (wOp fSub (wVar 3) (wC (.int 1))) wNil)))))))
 (w_law_rest_t2 fs_law_named fs_law_draw fs_law_int fs_law_rest))
 wNext)
 (w_law_rest_t3 fs_law_named fs_law_draw fs_law_int fs_law_rest))
def w_law_rest_t5 (fs_law_named fs_law_draw fs_law_int fs_law_rest : FS) : WS :=
 (wSeq (wIf (wB (wOp fLt (wVar 5) (wC (.int 2))))
 (wRet (wTup (wCons (wC (.str "call")) (wCons (wC (.str "rest")) (wCons (wTup (wCons (wCall fs_law_int (wCons (wVar 0) (wCons (wVar 1) (wCons (wCB cMaxQ (wCons (wC (.int 0)) (wCons (wOp fSub (wVar 3) (wC (.int 1))) wNil))) wNil)))) (wCons (wTup (wCons (wC (.str "int")) (wCons (wVar 2) wNil))) wNil))) wNil)))))
 wNext)
 (w_law_rest_t4 fs_law_named fs_law_draw fs_law_int fs_law_rest))
def w_law_rest_t6 (fs_law_named fs_law_draw fs_law_int fs_law_rest : FS) : WS :=
 (wSeq (wSet 5 (wIfE (wB (wOp fGt (wVar 3) (wC (.int 0)))) (wCall fs_law_draw (wCons (wVar 0) (wCons (wC (.int 6)) wNil))) (wC (.int 0))))
 (w_law_rest_t5 fs_law_named fs_law_draw fs_law_int fs_law_rest))
def w_law_rest_t7 (fs_law_named fs_law_draw fs_law_int fs_law_rest : FS) : WS :=
 (wSeq (wIf (wB (wOp fNotN (wVar 4) (wC .non)))
 (wRet (wVar 4))
 wNext)
 (w_law_rest_t6 fs_law_named fs_law_draw fs_law_int fs_law_rest))
def w_law_rest (fs_law_named fs_law_draw fs_law_int fs_law_rest : FS) : WS :=
 (wSeq (wSet 4 (wCall fs_law_named (wCons (wVar 0) (wCons (wVar 1) (wCons (wTup (wCons (wC (.str "rest")) (wCons (wVar 2) wNil))) wNil)))))
 (w_law_rest_t7 fs_law_named fs_law_draw fs_law_int fs_law_rest))
theorem sc_law_rest : FnScope ["draws", "names", "modulus", "deep", "found", "kind", "other", "pair"] ["draws", "names", "modulus", "deep"] (defScope (topS 34)) := ⟨rfl, rfl, rfl, by decide +kernel, rfl, by decide +kernel, by decide +kernel⟩
theorem d_law_rest {k : Nat} {fs_law_named fs_law_draw fs_law_int fs_law_rest : FS} {AD : Ads} (Z : Nms w K mg AD) (c_law_named : FnAt P w K mg base k 3 "_law_named" fs_law_named) (c_law_draw : FnAt P w K mg base k 2 "_law_draw" fs_law_draw) (c_law_int : FnAt P w K mg base k 3 "_law_int" fs_law_int) (c_law_rest : FnAt P w K mg base k 4 "_law_rest" fs_law_rest) (f : Addr) (cdv : Value) (A : Around) (outer : List Env) (s : Shared) (H : Hp) (E : XK) (hr0 : Room (k) (A.deeper (envOfC "_law_rest" (defScope (topS 34)) s.heap.objs.size f cdv))) :
    QSs (cxOf (L2.CX P w) P w K mg base ["draws", "names", "modulus", "deep", "found", "kind", "other", "pair"] "_law_rest" (defScope (topS 34)) f cdv A outer s H E) (fun c d _ H' => E c d H') (defBody (topS 34)) (w_law_rest fs_law_named fs_law_draw fs_law_int fs_law_rest) := by
  have hN : (["draws", "names", "modulus", "deep", "found", "kind", "other", "pair"] : List Str).Nodup := sc_law_rest.nd
  have tk : Takes (cxOf (L2.CX P w) P w K mg base ["draws", "names", "modulus", "deep", "found", "kind", "other", "pair"] "_law_rest" (defScope (topS 34)) f cdv A outer s H E) (fun c d _ H' => E c d H') := takes_of rfl rfl rfl rfl
  have hp : PassesOwn (model P w) (cxOf (L2.CX P w) P w K mg base ["draws", "names", "modulus", "deep", "found", "kind", "other", "pair"] "_law_rest" (defScope (topS 34)) f cdv A outer s H E).A (cxOf (L2.CX P w) P w K mg base ["draws", "names", "modulus", "deep", "found", "kind", "other", "pair"] "_law_rest" (defScope (topS 34)) f cdv A outer s H E).env (cxOf (L2.CX P w) P w K mg base ["draws", "names", "modulus", "deep", "found", "kind", "other", "pair"] "_law_rest" (defScope (topS 34)) f cdv A outer s H E).xe := passes_of rfl
  have hr := hr0
  exact (scons (sasg 4 (qcall c_law_named hr tk rfl (acons (qv (pv 0)) (acons (qv (pv 1)) (acons (qtup (acons qstr (acons (qv (pv 2)) anil))) anil)))) hN)
 (scons (sif (tnotN (qv (pv 4)) qnon)
 (sone (sret (qv (pv 4))))
 snil)
 (scons (sasg 5 (qif (tgt (qv (pv 3)) qint) (qcall c_law_draw hr tk rfl (acons (qv (pv 0)) (acons qint anil))) qint) hN)
 (scons (sif (tlt (qv (pv 5)) qint)
 (sone (sret (qtup (acons qstr (acons qstr (acons (qtup (acons (qcall c_law_int hr tk rfl (acons (qv (pv 0)) (acons (qv (pv 1)) (acons (qcallB (((call_max2 rfl).or (cr_max rfl)).or (cr_maxT rfl)) lMaxQ rfl Z.b_max rfl (acons qint (acons (qsub (qv (pv 3)) qint) anil))) anil)))) (acons (qtup (acons qstr (acons (qv (pv 2)) anil))) anil))) anil))))))
 snil)
 (scons (sif (tlt (qv (pv 5)) qint)
 (scons (sasg 6 (qif (teq hr (qcall c_law_draw hr tk rfl (acons (qv (pv 0)) (acons qint anil))) qint) (qcall c_law_int hr tk rfl (acons (qv (pv 0)) (acons (qv (pv 1)) (acons (qsub (qv (pv 3)) qint) anil)))) (qcall c_law_rest hr tk rfl (acons (qv (pv 0)) (acons (qv (pv 1)) (acons (qv (pv 2)) (acons (qsub (qv (pv 3)) qint) anil)))))) hN)
 (scons (sasg 7 (qtup (acons (qcall c_law_rest hr tk rfl (acons (qv (pv 0)) (acons (qv (pv 1)) (acons (qv (pv 2)) (acons (qsub (qv (pv 3)) qint) anil))))) (acons (qv (pv 6)) anil))) hN)
 (sone (sret (qadd (qtup (acons (qix (qlst (acons qstr (acons qstr (acons qstr anil)))) (qsub (qv (pv 5)) qint)) anil)) (qif (teq hr (qcall c_law_draw hr tk rfl (acons (qv (pv 0)) (acons qint anil))) qint) (qrev2 (qv (pv 7))) (qv (pv 7))))))))
 snil)
 (sone (sret (qif (teq hr (qcall c_law_draw hr tk rfl (acons (qv (pv 0)) (acons qint anil))) qint) (qtup (acons qstr (acons (qcall c_law_rest hr tk rfl (acons (qv (pv 0)) (acons (qv (pv 1)) (acons (qv (pv 2)) (acons (qsub (qv (pv 3)) qint) anil))))) (acons (qcall c_law_draw hr tk rfl (acons (qv (pv 0)) (acons qint anil))) anil)))) (qtup (acons qstr (acons (qcall c_law_rest hr tk rfl (acons (qv (pv 0)) (acons (qv (pv 1)) (acons (qv (pv 2)) (acons (qsub (qv (pv 3)) qint) anil))))) anil)))))))))))
/-! _law_poly ['draws', 'names', 'deep'] ['some', 'name', 'kind', 'k', 'other'] -/
def w_law_poly_t1 (fs_law_draw fs_law_int fs_law_poly : FS) : WS :=
 (wRet (wTup (wCons (wOp fIx (wLst (wCons (wC (.str "add")) (wCons (wC (.str "sub")) (wCons (wC (.str "mul")) wNil)))) (wOp fSub (wVar 5) (wC (.int 2)))) (wCons (wCall fs_law_poly (wCons (wVar 0) (wCons (wVar 1) (wCons (wOp fSub (wVar 2) (wC (.int 1))) wNil)))) (wCons (wVar 7) wNil)))))
def w_law_poly_t2 (fs_law_draw fs_law_int fs_law_poly : FS) : WS :=
 (wRet (wTup (wCons (wC (.str "call")) (wCons (wOp fIx (wLst (wCons (wC (.str "polyquo")) (wCons (wC (.str "polymod")) (wCons (wC (.str "polygcd")) wNil)))) (wCall fs_law_draw (wCons (wVar 0) (wCons (wC (.int 3)) wNil)))) (wCons (wTup (wCons (wCall fs_law_poly (wCons (wVar 0) (wCons (wVar 1) (wCons (wOp fSub (wVar 2) (wC (.int 1))) wNil)))) (wCons (wCall fs_law_poly (wCons (wVar 0) (wCons (wVar 1) (wCons (wOp fSub (wVar 2) (wC (.int 1))) wNil)))) wNil))) wNil)))))
def w_law_poly_t3 (fs_law_draw fs_law_int fs_law_poly : FS) : WS :=
 (wSeq (wIf (wB (wOp fEq (wVar 5) (wC (.int 6))))
 (wRet (wTup (wCons (wC (.str "pow")) (wCons (wCall fs_law_poly (wCons (wVar 0) (wCons (wVar 1) (wCons (wOp fSub (wVar 2) (wC (.int 1))) wNil)))) (wCons (wCall fs_law_draw (wCons (wVar 0) (wCons (wC (.int 3)) wNil))) wNil)))))
 wNext)
 (w_law_poly_t2 fs_law_draw fs_law_int fs_law_poly))
def w_law_poly_t4 (fs_law_draw fs_law_int fs_law_poly : FS) : WS :=
 (wSeq (wIf (wB (wOp fEq (wVar 5) (wC (.int 5))))
 (wRet (wTup (wCons (wC (.str "neg")) (wCons (wCall fs_law_poly (wCons (wVar 0) (wCons (wVar 1) (wCons (wOp fSub (wVar 2) (wC (.int 1))) wNil)))) wNil))))
 wNext)
 (w_law_poly_t3 fs_law_draw fs_law_int fs_law_poly))
def w_law_poly_t5 (fs_law_draw fs_law_int fs_law_poly : FS) : WS :=
 (wSeq (wIf (wB (wOp fLt (wVar 5) (wC (.int 5))))
 (wSeq (wSet 7 (wIfE (wB (wOp fEq (wCall fs_law_draw (wCons (wVar 0) (wCons (wC (.int 4)) wNil))) (wC (.int 0)))) (wCall fs_law_int (wCons (wVar 0) (wCons (wVar 1) (wCons (wOp fSub (wVar 2) (wC (.int 1))) wNil)))) (wCall fs_law_poly (wCons (wVar 0) (wCons (wVar 1) (wCons (wOp fSub (wVar 2) (wC (.int 1))) wNil))))))
 (w_law_poly_t1 fs_law_draw fs_law_int fs_law_poly))
 wNext)
 (w_law_poly_t4 fs_law_draw fs_law_int fs_law_poly))
def w_law_poly_t6 (fs_law_draw fs_law_int fs_law_poly : FS) : WS :=
 (wSeq (wIf (wB (wOp fLt (wVar 5) (wC (.int 2))))
 (wRet (wTup (wCons (wC (.str "call")) (wCons (wC (.str "poly")) (wCons (wCB cTuple (wCons (wLcX (bN 6) (wiR1 True (wOp fAdd (wC (.int 1)) (wCall fs_law_draw (wCons (wVar 0) (wCons (wC (.int 4)) wNil))))) wYes (wCall fs_law_int (wCons (wVar 0) (wCons (wVar 1) (wCons (wCB cMaxQ (wCons (wC (.int 0)) (wCons (wOp fSub (wVar 2) (wC (.int 2))) wNil))) wNil))))) wNil)) wNil)))))
 wNext)
 (w_law_poly_t5 fs_law_draw fs_law_int fs_law_poly))
def w_law_poly_t7 (fs_law_draw fs_law_int fs_law_poly : FS) : WS :=
 (wSeq (wSet 5 (wIfE (wB (wOp fGt (wVar 2) (wC (.int 0)))) (wCall fs_law_draw (wCons (wVar 0) (wCons (wC (.int 8)) wNil))) (wC (.int 0))))
 (w_law_poly_t6 fs_law_draw fs_law_int fs_law_poly))
def w_law_poly_t8 (fs_law_draw fs_law_int fs_law_poly : FS) : WS :=
 (wSeq (wIf (wAnd (wB (wOp fGt (wCB cLen (wCons (wVar 3) wNil)) (wC (.int 0)))) (wB (wOp fEq (wCall fs_law_draw (wCons (wVar 0) (wCons (wC (.int 3)) wNil))) (wC (.int 0)))))
 (wRet (wTup (wCons (wC (.str "name")) (wCons (wOp fIx (wVar 3) (wCall fs_law_draw (wCons (wVar 0) (wCons (wCB cLen (wCons (wVar 3) wNil)) wNil)))) wNil))))
 wNext)
 (w_law_poly_t7 fs_law_draw fs_law_int fs_law_poly))
def w_law_poly (fs_law_draw fs_law_int fs_law_poly : FS) : WS :=
 (wSeq (wSet 3 (wLc 4 (wiSeq (wCB cSortS (wCons (wCB cListD (wCons (wVar 1) wNil)) wNil))) (wB (wOp fEq (wOp fIx (wOp fIxG (wVar 1) (wVar 4)) (wC (.int 0))) (wC (.str "poly")))) (wVar 4)))
 (w_law_poly_t8 fs_law_draw fs_law_int fs_law_poly))
theorem sc_law_poly : FnScope ["draws", "names", "deep", "some", "name", "kind", "k", "other"] ["draws", "names", "deep"] (defScope (topS 35)) := ⟨rfl, rfl, rfl, by decide +kernel, rfl, by decide +kernel, by decide +kernel⟩
theorem d_law_poly {k : Nat} {fs_law_draw fs_law_int fs_law_poly : FS} {AD : Ads} (Z : Nms w K mg AD) (c_law_draw : FnAt P w K mg base k 2 "_law_draw" fs_law_draw) (c_law_int : FnAt P w K mg base k 3 "_law_int" fs_law_int) (c_law_poly : FnAt P w K mg base k 3 "_law_poly" fs_law_poly) (f : Addr) (cdv : Value) (A : Around) (outer : List Env) (s : Shared) (H : Hp) (E : XK) (hr0 : Room (k) (A.deeper (envOfC "_law_poly" (defScope (topS 35)) s.heap.objs.size f cdv))) :
    QSs (cxOf (L2.CX P w) P w K mg base ["draws", "names", "deep", "some", "name", "kind", "k", "other"] "_law_poly" (defScope (topS 35)) f cdv A outer s H E) (fun c d _ H' => E c d H') (defBody (topS 35)) (w_law_poly fs_law_draw fs_law_int fs_law_poly) := by
  have hN : (["draws", "names", "deep", "some", "name", "kind", "k", "other"] : List Str).Nodup := sc_law_poly.nd
  have tk : Takes (cxOf (L2.CX P w) P w K mg base ["draws", "names", "deep", "some", "name", "kind", "k", "other"] "_law_poly" (defScope (topS 35)) f cdv A outer s H E) (fun c d _ H' => E c d H') := takes_of rfl rfl rfl rfl
  have hp : PassesOwn (model P w) (cxOf (L2.CX P w) P w K mg base ["draws", "names", "deep", "some", "name", "kind", "k", "other"] "_law_poly" (defScope (topS 35)) f cdv A outer s H E).A (cxOf (L2.CX P w) P w K mg base ["draws", "names", "deep", "some", "name", "kind", "k", "other"] "_law_poly" (defScope (topS 35)) f cdv A outer s H E).env (cxOf (L2.CX P w) P w K mg base ["draws", "names", "deep", "some", "name", "kind", "k", "other"] "_law_poly" (defScope (topS 35)) f cdv A outer s H E).xe := passes_of rfl
  have hr := hr0
  exact (scons (ssetLc (i := 3) (y := "name") hN (show blkC ["draws", "names", "deep", "some", "name", "kind", "k", "other"] (defScope (topS 35)) _ [("name", 4)] = true by decide +kernel) (ilist (qcallB cr_sortedS lSortS rfl Z.b_sorted rfl (acons (qcallTy (call_listD rfl) lListD rfl Z.b_list rfl (acons (qv (pv 1)) anil)) anil))) (fun _ _ _ _ _ => gown 4 hN) (fun _ _ _ _ _ => (ifs1 (teq hr (qix (qixG hr (qv (pv 1)) (qv (pv 4))) qint) qstr))) (fun _ _ _ _ _ => (qv (pv 4))))
 (scons (sif (PW.pt (tand (tgt (qcallB call_lenG lLen rfl Z.b_len rfl (acons (qv (pv 3)) anil)) qint) (tand1 (teq hr (qcall c_law_draw hr tk rfl (acons (qv (pv 0)) (acons qint anil))) qint))))
 (sone (sret (qtup (acons qstr (acons (qix (qv (pv 3)) (qcall c_law_draw hr tk rfl (acons (qv (pv 0)) (acons (qcallB call_lenG lLen rfl Z.b_len rfl (acons (qv (pv 3)) anil)) anil)))) anil)))))
 snil)
 (scons (sasg 5 (qif (tgt (qv (pv 2)) qint) (qcall c_law_draw hr tk rfl (acons (qv (pv 0)) (acons qint anil))) qint) hN)
 (scons (sif (tlt (qv (pv 5)) qint)
 (sone (sret (qtup (acons qstr (acons qstr (acons (qcallTy call_tuple_of lTuple rfl Z.b_tuple rfl (acons (qlcX (own := [("k", 6)]) (tg_name 6) tk hN (show blkC ["draws", "names", "deep", "some", "name", "kind", "k", "other"] (defScope (topS 35)) _ [("k", 6)] = true by decide +kernel) (irange1 rfl Z.b_range (qadd qint (qcall c_law_draw hr tk rfl (acons (qv (pv 0)) (acons qint anil))))) (fun _ _ _ _ _ _ _ _ => gownX 6 hN) (fun _ _ _ _ _ _ _ tk => ifs0) (fun _ _ _ _ _ _ _ tk => (qcall c_law_int hr tk rfl (acons (qv (pv 0)) (acons (qv (pv 1)) (acons (qcallB (((call_max2 rfl).or (cr_max rfl)).or (cr_maxT rfl)) lMaxQ rfl Z.b_max rfl (acons qint (acons (qsub (qv (pv 2)) qint) anil))) anil)))))) anil)) anil))))))
 snil)
 (scons (sif (tlt (qv (pv 5)) qint)
 (scons (sasg 7 (qif (teq hr (qcall c_law_draw hr tk rfl (acons (qv (pv 0)) (acons qint anil))) qint) (qcall c_law_int hr tk rfl (acons (qv (pv 0)) (acons (qv (pv 1)) (acons (qsub (qv (pv 2)) qint) anil)))) (qcall c_law_poly hr tk rfl (acons (qv (pv 0)) (acons (qv (pv 1)) (acons (qsub (qv (pv 2)) qint) anil))))) hN)
 (sone (sret (qtup (acons (qix (qlst (acons qstr (acons qstr (acons qstr anil)))) (qsub (qv (pv 5)) qint)) (acons (qcall c_law_poly hr tk rfl (acons (qv (pv 0)) (acons (qv (pv 1)) (acons (qsub (qv (pv 2)) qint) anil)))) (acons (qv (pv 7)) anil)))))))
 snil)
 (scons (sif (teq hr (qv (pv 5)) qint)
 (sone (sret (qtup (acons qstr (acons (qcall c_law_poly hr tk rfl (acons (qv (pv 0)) (acons (qv (pv 1)) (acons (qsub (qv (pv 2)) qint) anil)))) anil)))))
 snil)
 (scons (sif (teq hr (qv (pv 5)) qint)
 (sone (sret (qtup (acons qstr (acons (qcall c_law_poly hr tk rfl (acons (qv (pv 0)) (acons (qv (pv 1)) (acons (qsub (qv (pv 2)) qint) anil)))) (acons (qcall c_law_draw hr tk rfl (acons (qv (pv 0)) (acons qint anil))) anil))))))
 snil)
 (sone (sret (qtup (acons qstr (acons (qix (qlst (acons qstr (acons qstr (acons qstr anil)))) (qcall c_law_draw hr tk rfl (acons (qv (pv 0)) (acons qint anil)))) (acons (qtup (acons (qcall c_law_poly hr tk rfl (acons (qv (pv 0)) (acons (qv (pv 1)) (acons (qsub (qv (pv 2)) qint) anil)))) (acons (qcall c_law_poly hr tk rfl (acons (qv (pv 0)) (acons (qv (pv 1)) (acons (qsub (qv (pv 2)) qint) anil)))) anil))) anil)))))))))))))
/-! _law_row ['draws', 'names', 'many', 'deep'] ['found', 'kind', 'k', 'other'] -/
def w_law_row_t1 (fs_law_named fs_law_draw fs_law_int fs_law_row fs_law_table : FS) : WS :=
 (wRet (wTup (wCons (wC (.str "mul")) (wCons (wCall fs_law_table (wCons (wVar 0) (wCons (wVar 1) (wCons (wVar 2) (wCons (wVar 7) (wCons (wOp fSub (wVar 3) (wC (.int 1))) wNil)))))) (wCons (wCall fs_law_row (wCons (wVar 0) (wCons (wVar 1) (wCons (wVar 7) (wCons (wOp fSub (wVar 3) (wC (.int 1))) wNil))))) wNil)))))
def w_law_row_t2 (fs_law_named fs_law_draw fs_law_int fs_law_row fs_law_table : FS) : WS :=
 (wSeq (wSet 7 (wOp fAdd (wC (.int 1)) (wCall fs_law_draw (wCons (wVar 0) (wCons (wC (.int 3)) wNil)))))
 (w_law_row_t1 fs_law_named fs_law_draw fs_law_int fs_law_row fs_law_table))
def w_law_row_t3 (fs_law_named fs_law_draw fs_law_int fs_law_row fs_law_table : FS) : WS :=
 (wSeq (wIf (wB (wOp fEq (wVar 5) (wC (.int 4))))
 (wRet (wTup (wCons (wC (.str "mul")) (wCons (wCall fs_law_int (wCons (wVar 0) (wCons (wVar 1) (wCons (wOp fSub (wVar 3) (wC (.int 1))) wNil)))) (wCons (wCall fs_law_row (wCons (wVar 0) (wCons (wVar 1) (wCons (wVar 2) (wCons (wOp fSub (wVar 3) (wC (.int 1))) wNil))))) wNil)))))
 wNext)
 (w_law_row_t2 fs_law_named fs_law_draw fs_law_int fs_law_row fs_law_table))
def w_law_row_t4 (fs_law_named fs_law_draw fs_law_int fs_law_row fs_law_table : FS) : WS :=
 (wSeq (wIf (wB (wOp fLt (wVar 5) (wC (.int 4))))
 (wRet (wTup (wCons (wOp fIx (wLst (wCons (wC (.str "add")) (wCons (wC (.str "sub")) wNil))) (wOp fSub (wVar 5) (wC (.int 2)))) (wCons (wCall fs_law_row (wCons (wVar 0) (wCons (wVar 1) (wCons (wVar 2) (wCons (wOp fSub (wVar 3) (wC (.int 1))) wNil))))) (wCons (wCall fs_law_row (wCons (wVar 0) (wCons (wVar 1) (wCons (wVar 2) (wCons (wOp fSub (wVar 3) (wC (.int 1))) wNil))))) wNil)))))
 wNext)
 (w_law_row_t3 fs_law_named fs_law_draw fs_law_int fs_law_row fs_law_table))
def w_law_row_t5 (fs_law_named fs_law_draw fs_law_int fs_law_row fs_law_table : FS) : WS :=
 (wSeq (wIf (wB (wOp fLt (wVar 5) (wC (.int 2))))
 (wRet (wTup (wCons (wC (.str "call")) (wCons (wC (.str "row")) (wCons (wCB cTuple (wCons (wLcX (bN 6) (wiR1 True (wVar 2)) wYes (wCall fs_law_int (wCons (wVar 0) (wCons (wVar 1) (wCons (wCB cMaxQ (wCons (wC (.int 0)) (wCons (wOp fSub (wVar 3) (wC (.int 2))) wNil))) wNil))))) wNil)) wNil)))))
 wNext)
 (w_law_row_t4 fs_law_named fs_law_draw fs_law_int fs_law_row fs_law_table))
def w_law_row_t6 (fs_law_named fs_law_draw fs_law_int fs_law_row fs_law_table : FS) : WS :=
 (wSeq (wSet 5 (wIfE (wB (wOp fGt (wVar 3) (wC (.int 0)))) (wCall fs_law_draw (wCons (wVar 0) (wCons (wC (.int 6)) wNil))) (wC (.int 0))))
 (w_law_row_t5 fs_law_named fs_law_draw fs_law_int fs_law_row fs_law_table))
def w_law_row_t7 (fs_law_named fs_law_draw fs_law_int fs_law_row fs_law_table : FS) : WS :=
 (wSeq (wIf (wB (wOp fNotN (wVar 4) (wC .non)))
 (wRet (wVar 4))
 wNext)
 (w_law_row_t6 fs_law_named fs_law_draw fs_law_int fs_law_row fs_law_table))
def w_law_row (fs_law_named fs_law_draw fs_law_int fs_law_row fs_law_table : FS) : WS :=
 (wSeq (wSet 4 (wCall fs_law_named (wCons (wVar 0) (wCons (wVar 1) (wCons (wTup (wCons (wC (.str "row")) (wCons (wVar 2) wNil))) wNil)))))
 (w_law_row_t7 fs_law_named fs_law_draw fs_law_int fs_law_row fs_law_table))
theorem sc_law_row : FnScope ["draws", "names", "many", "deep", "found", "kind", "k", "other"] ["draws", "names", "many", "deep"] (defScope (topS 36)) := ⟨rfl, rfl, rfl, by decide +kernel, rfl, by decide +kernel, by decide +kernel⟩
theorem d_law_row {k : Nat} {fs_law_named fs_law_draw fs_law_int fs_law_row fs_law_table : FS} {AD : Ads} (Z : Nms w K mg AD) (c_law_named : FnAt P w K mg base k 3 "_law_named" fs_law_named) (c_law_draw : FnAt P w K mg base k 2 "_law_draw" fs_law_draw) (c_law_int : FnAt P w K mg base k 3 "_law_int" fs_law_int) (c_law_row : FnAt P w K mg base k 4 "_law_row" fs_law_row) (c_law_table : FnAt P w K mg base k 5 "_law_table" fs_law_table) (f : Addr) (cdv : Value) (A : Around) (outer : List Env) (s : Shared) (H : Hp) (E : XK) (hr0 : Room (k) (A.deeper (envOfC "_law_row" (defScope (topS 36)) s.heap.objs.size f cdv))) :
    QSs (cxOf (L2.CX P w) P w K mg base ["draws", "names", "many", "deep", "found", "kind", "k", "other"] "_law_row" (defScope (topS 36)) f cdv A outer s H E) (fun c d _ H' => E c d H') (defBody (topS 36)) (w_law_row fs_law_named fs_law_draw fs_law_int fs_law_row fs_law_table) := by
  have hN : (["draws", "names", "many", "deep", "found", "kind", "k", "other"] : List Str).Nodup := sc_law_row.nd
  have tk : Takes (cxOf (L2.CX P w) P w K mg base ["draws", "names", "many", "deep", "found", "kind", "k", "other"] "_law_row" (defScope (topS 36)) f cdv A outer s H E) (fun c d _ H' => E c d H') := takes_of rfl rfl rfl rfl
  have hp : PassesOwn (model P w) (cxOf (L2.CX P w) P w K mg base ["draws", "names", "many", "deep", "found", "kind", "k", "other"] "_law_row" (defScope (topS 36)) f cdv A outer s H E).A (cxOf (L2.CX P w) P w K mg base ["draws", "names", "many", "deep", "found", "kind", "k", "other"] "_law_row" (defScope (topS 36)) f cdv A outer s H E).env (cxOf (L2.CX P w) P w K mg base ["draws", "names", "many", "deep", "found", "kind", "k", "other"] "_law_row" (defScope (topS 36)) f cdv A outer s H E).xe := passes_of rfl
  have hr := hr0
  exact (scons (sasg 4 (qcall c_law_named hr tk rfl (acons (qv (pv 0)) (acons (qv (pv 1)) (acons (qtup (acons qstr (acons (qv (pv 2)) anil))) anil)))) hN)
 (scons (sif (tnotN (qv (pv 4)) qnon)
 (sone (sret (qv (pv 4))))
 snil)
 (scons (sasg 5 (qif (tgt (qv (pv 3)) qint) (qcall c_law_draw hr tk rfl (acons (qv (pv 0)) (acons qint anil))) qint) hN)
 (scons (sif (tlt (qv (pv 5)) qint)
 (sone (sret (qtup (acons qstr (acons qstr (acons (qcallTy call_tuple_of lTuple rfl Z.b_tuple rfl (acons (qlcX (own := [("k", 6)]) (tg_name 6) tk hN (show blkC ["draws", "names", "many", "deep", "found", "kind", "k", "other"] (defScope (topS 36)) _ [("k", 6)] = true by decide +kernel) (irange1 rfl Z.b_range (qv (pv 2))) (fun _ _ _ _ _ _ _ _ => gownX 6 hN) (fun _ _ _ _ _ _ _ tk => ifs0) (fun _ _ _ _ _ _ _ tk => (qcall c_law_int hr tk rfl (acons (qv (pv 0)) (acons (qv (pv 1)) (acons (qcallB (((call_max2 rfl).or (cr_max rfl)).or (cr_maxT rfl)) lMaxQ rfl Z.b_max rfl (acons qint (acons (qsub (qv (pv 3)) qint) anil))) anil)))))) anil)) anil))))))
 snil)
 (scons (sif (tlt (qv (pv 5)) qint)
 (sone (sret (qtup (acons (qix (qlst (acons qstr (acons qstr anil))) (qsub (qv (pv 5)) qint)) (acons (qcall c_law_row hr tk rfl (acons (qv (pv 0)) (acons (qv (pv 1)) (acons (qv (pv 2)) (acons (qsub (qv (pv 3)) qint) anil))))) (acons (qcall c_law_row hr tk rfl (acons (qv (pv 0)) (acons (qv (pv 1)) (acons (qv (pv 2)) (acons (qsub (qv (pv 3)) qint) anil))))) anil))))))
 snil)
 (scons (sif (teq hr (qv (pv 5)) qint)
 (sone (sret (qtup (acons qstr (acons (qcall c_law_int hr tk rfl (acons (qv (pv 0)) (acons (qv (pv 1)) (acons (qsub (qv (pv 3)) qint) anil)))) (acons (qcall c_law_row hr tk rfl (acons (qv (pv 0)) (acons (qv (pv 1)) (acons (qv (pv 2)) (acons (qsub (qv (pv 3)) qint) anil))))) anil))))))
 snil)
 (scons (sasg 7 (qadd qint (qcall c_law_draw hr tk rfl (acons (qv (pv 0)) (acons qint anil)))) hN)
 (sone (sret (qtup (acons qstr (acons (qcall c_law_table hr tk rfl (acons (qv (pv 0)) (acons (qv (pv 1)) (acons (qv (pv 2)) (acons (qv (pv 7)) (acons (qsub (qv (pv 3)) qint) anil)))))) (acons (qcall c_law_row hr tk rfl (acons (qv (pv 0)) (acons (qv (pv 1)) (acons (qv (pv 7)) (acons (qsub (qv (pv 3)) qint) anil))))) anil)))))))))))))
/-! _law_table ['draws', 'names', 'rows', 'columns', 'deep'] ['found', 'kind', 'k', 'other'] -/
def w_law_table_t1 (fs_law_named fs_law_draw fs_law_row fs_law_table : FS) : WS :=
 (wRet (wTup (wCons (wC (.str "mul")) (wCons (wCall fs_law_table (wCons (wVar 0) (wCons (wVar 1) (wCons (wVar 2) (wCons (wVar 8) (wCons (wOp fSub (wVar 4) (wC (.int 1))) wNil)))))) (wCons (wCall fs_law_table (wCons (wVar 0) (wCons (wVar 1) (wCons (wVar 8) (wCons (wVar 3) (wCons (wOp fSub (wVar 4) (wC (.int 1))) wNil)))))) wNil)))))
def w_law_table_t2 (fs_law_named fs_law_draw fs_law_row fs_law_table : FS) : WS :=
 (wSeq (wSet 8 (wOp fAdd (wC (.int 1)) (wCall fs_law_draw (wCons (wVar 0) (wCons (wC (.int 3)) wNil)))))
 (w_law_table_t1 fs_law_named fs_law_draw fs_law_row fs_law_table))
def w_law_table_t3 (fs_law_named fs_law_draw fs_law_row fs_law_table : FS) : WS :=
 (wSeq (wIf (wAnd (wB (wOp fEq (wVar 6) (wC (.int 5)))) (wB (wOp fEq (wVar 2) (wVar 3))))
 (wRet (wTup (wCons (wC (.str "pow")) (wCons (wCall fs_law_table (wCons (wVar 0) (wCons (wVar 1) (wCons (wVar 2) (wCons (wVar 3) (wCons (wOp fSub (wVar 4) (wC (.int 1))) wNil)))))) (wCons (wCall fs_law_draw (wCons (wVar 0) (wCons (wC (.int 4)) wNil))) wNil)))))
 wNext)
 (w_law_table_t2 fs_law_named fs_law_draw fs_law_row fs_law_table))
def w_law_table_t4 (fs_law_named fs_law_draw fs_law_row fs_law_table : FS) : WS :=
 (wSeq (wIf (wB (wOp fEq (wVar 6) (wC (.int 4))))
 (wRet (wTup (wCons (wC (.str "neg")) (wCons (wCall fs_law_table (wCons (wVar 0) (wCons (wVar 1) (wCons (wVar 2) (wCons (wVar 3) (wCons (wOp fSub (wVar 4) (wC (.int 1))) wNil)))))) wNil))))
 wNext)
 (w_law_table_t3 fs_law_named fs_law_draw fs_law_row fs_law_table))
def w_law_table_t5 (fs_law_named fs_law_draw fs_law_row fs_law_table : FS) : WS :=
 (wSeq (wIf (wB (wOp fEq (wVar 6) (wC (.int 3))))
 (wRet (wTup (wCons (wC (.str "call")) (wCons (wC (.str "turned")) (wCons (wTup (wCons (wCall fs_law_table (wCons (wVar 0) (wCons (wVar 1) (wCons (wVar 3) (wCons (wVar 2) (wCons (wOp fSub (wVar 4) (wC (.int 1))) wNil)))))) wNil)) wNil)))))
 wNext)
 (w_law_table_t4 fs_law_named fs_law_draw fs_law_row fs_law_table))
def w_law_table_t6 (fs_law_named fs_law_draw fs_law_row fs_law_table : FS) : WS :=
 (wSeq (wIf (wB (wOp fEq (wVar 6) (wC (.int 2))))
 (wRet (wTup (wCons (wC (.str "sub")) (wCons (wCall fs_law_table (wCons (wVar 0) (wCons (wVar 1) (wCons (wVar 2) (wCons (wVar 3) (wCons (wOp fSub (wVar 4) (wC (.int 1))) wNil)))))) (wCons (wCall fs_law_table (wCons (wVar 0) (wCons (wVar 1) (wCons (wVar 2) (wCons (wVar 3) (wCons (wOp fSub (wVar 4) (wC (.int 1))) wNil)))))) wNil)))))
 wNext)
 (w_law_table_t5 fs_law_named fs_law_draw fs_law_row fs_law_table))
def w_law_table_t7 (fs_law_named fs_law_draw fs_law_row fs_law_table : FS) : WS :=
 (wSeq (wIf (wB (wOp fLt (wVar 6) (wC (.int 2))))
 (wRet (wTup (wCons (wC (.str "call")) (wCons (wC (.str "table")) (wCons (wCB cTuple (wCons (wLcX (bN 7) (wiR1 True (wVar 2)) wYes (wCall fs_law_row (wCons (wVar 0) (wCons (wVar 1) (wCons (wVar 3) (wCons (wCB cMaxQ (wCons (wC (.int 0)) (wCons (wOp fSub (wVar 4) (wC (.int 1))) wNil))) wNil)))))) wNil)) wNil)))))
 wNext)
 (w_law_table_t6 fs_law_named fs_law_draw fs_law_row fs_law_table))
def w_law_table_t8 (fs_law_named fs_law_draw fs_law_row fs_law_table : FS) : WS :=
 (wSeq (wSet 6 (wIfE (wB (wOp fGt (wVar 4) (wC (.int 0)))) (wCall fs_law_draw (wCons (wVar 0) (wCons (wC (.int 7)) wNil))) (wC (.int 0))))
 (w_law_table_t7 fs_law_named fs_law_draw fs_law_row fs_law_table))
def w_law_table_t9 (fs_law_named fs_law_draw fs_law_row fs_law_table : FS) : WS :=
 (wSeq (wIf (wB (wOp fNotN (wVar 5) (wC .non)))
 (wRet (wVar 5))
 wNext)
 (w_law_table_t8 fs_law_named fs_law_draw fs_law_row fs_law_table))
def w_law_table (fs_law_named fs_law_draw fs_law_row fs_law_table : FS) : WS :=
 (wSeq (wSet 5 (wCall fs_law_named (wCons (wVar 0) (wCons (wVar 1) (wCons (wTup (wCons (wC (.str "table")) (wCons (wVar 2) (wCons (wVar 3) wNil)))) wNil)))))
 (w_law_table_t9 fs_law_named fs_law_draw fs_law_row fs_law_table))
theorem sc_law_table : FnScope ["draws", "names", "rows", "columns", "deep", "found", "kind", "k", "other"] ["draws", "names", "rows", "columns", "deep"] (defScope (topS 37)) := ⟨rfl, rfl, rfl, by decide +kernel, rfl, by decide +kernel, by decide +kernel⟩
theorem d_law_table {k : Nat} {fs_law_named fs_law_draw fs_law_row fs_law_table : FS} {AD : Ads} (Z : Nms w K mg AD) (c_law_named : FnAt P w K mg base k 3 "_law_named" fs_law_named) (c_law_draw : FnAt P w K mg base k 2 "_law_draw" fs_law_draw) (c_law_row : FnAt P w K mg base k 4 "_law_row" fs_law_row) (c_law_table : FnAt P w K mg base k 5 "_law_table" fs_law_table) (f : Addr) (cdv : Value) (A : Around) (outer : List Env) (s : Shared) (H : Hp) (E : XK) (hr0 : Room (k) (A.deeper (envOfC "_law_table" (defScope (topS 37)) s.heap.objs.size f cdv))) :
    QSs (cxOf (L2.CX P w) P w K mg base ["draws", "names", "rows", "columns", "deep", "found", "kind", "k", "other"] "_law_table" (defScope (topS 37)) f cdv A outer s H E) (fun c d _ H' => E c d H') (defBody (topS 37)) (w_law_table fs_law_named fs_law_draw fs_law_row fs_law_table) := by
  have hN : (["draws", "names", "rows", "columns", "deep", "found", "kind", "k", "other"] : List Str).Nodup := sc_law_table.nd
  have tk : Takes (cxOf (L2.CX P w) P w K mg base ["draws", "names", "rows", "columns", "deep", "found", "kind", "k", "other"] "_law_table" (defScope (topS 37)) f cdv A outer s H E) (fun c d _ H' => E c d H') := takes_of rfl rfl rfl rfl
  have hp : PassesOwn (model P w) (cxOf (L2.CX P w) P w K mg base ["draws", "names", "rows", "columns", "deep", "found", "kind", "k", "other"] "_law_table" (defScope (topS 37)) f cdv A outer s H E).A (cxOf (L2.CX P w) P w K mg base ["draws", "names", "rows", "columns", "deep", "found", "kind", "k", "other"] "_law_table" (defScope (topS 37)) f cdv A outer s H E).env (cxOf (L2.CX P w) P w K mg base ["draws", "names", "rows", "columns", "deep", "found", "kind", "k", "other"] "_law_table" (defScope (topS 37)) f cdv A outer s H E).xe := passes_of rfl
  have hr := hr0
  exact (scons (sasg 5 (qcall c_law_named hr tk rfl (acons (qv (pv 0)) (acons (qv (pv 1)) (acons (qtup (acons qstr (acons (qv (pv 2)) (acons (qv (pv 3)) anil)))) anil)))) hN)
 (scons (sif (tnotN (qv (pv 5)) qnon)
 (sone (sret (qv (pv 5))))
 snil)
 (scons (sasg 6 (qif (tgt (qv (pv 4)) qint) (qcall c_law_draw hr tk rfl (acons (qv (pv 0)) (acons qint anil))) qint) hN)
 (scons (sif (tlt (qv (pv 6)) qint)
 (sone (sret (qtup (acons qstr (acons qstr (acons (qcallTy call_tuple_of lTuple rfl Z.b_tuple rfl (acons (qlcX (own := [("k", 7)]) (tg_name 7) tk hN (show blkC ["draws", "names", "rows", "columns", "deep", "found", "kind", "k", "other"] (defScope (topS 37)) _ [("k", 7)] = true by decide +kernel) (irange1 rfl Z.b_range (qv (pv 2))) (fun _ _ _ _ _ _ _ _ => gownX 7 hN) (fun _ _ _ _ _ _ _ tk => ifs0) (fun _ _ _ _ _ _ _ tk => (qcall c_law_row hr tk rfl (acons (qv (pv 0)) (acons (qv (pv 1)) (acons (qv (pv 3)) (acons (qcallB (((call_max2 rfl).or (cr_max rfl)).or (cr_maxT rfl)) lMaxQ rfl Z.b_max rfl (acons qint (acons (qsub (qv (pv 4)) qint) anil))) anil))))))) anil)) anil))))))
 snil)
 (scons (sif (teq hr (qv (pv 6)) qint)
 (sone (sret (qtup (acons qstr (acons (qcall c_law_table hr tk rfl (acons (qv (pv 0)) (acons (qv (pv 1)) (acons (qv (pv 2)) (acons (qv (pv 3)) (acons (qsub (qv (pv 4)) qint) anil)))))) (acons (qcall c_law_table hr tk rfl (acons (qv (pv 0)) (acons (qv (pv 1)) (acons (qv (pv 2)) (acons (qv (pv 3)) (acons (qsub (qv (pv 4)) qint) anil)))))) anil))))))
 snil)
 (scons (sif (teq hr (qv (pv 6)) qint)
 (sone (sret (qtup (acons qstr (acons qstr (acons (qtup (acons (qcall c_law_table hr tk rfl (acons (qv (pv 0)) (acons (qv (pv 1)) (acons (qv (pv 3)) (acons (qv (pv 2)) (acons (qsub (qv (pv 4)) qint) anil)))))) anil)) anil))))))
 snil)
 (scons (sif (teq hr (qv (pv 6)) qint)
 (sone (sret (qtup (acons qstr (acons (qcall c_law_table hr tk rfl (acons (qv (pv 0)) (acons (qv (pv 1)) (acons (qv (pv 2)) (acons (qv (pv 3)) (acons (qsub (qv (pv 4)) qint) anil)))))) anil)))))
 snil)
 (scons (sif (PW.pt (tand (teq hr (qv (pv 6)) qint) (tand1 (teq hr (qv (pv 2)) (qv (pv 3))))))
 (sone (sret (qtup (acons qstr (acons (qcall c_law_table hr tk rfl (acons (qv (pv 0)) (acons (qv (pv 1)) (acons (qv (pv 2)) (acons (qv (pv 3)) (acons (qsub (qv (pv 4)) qint) anil)))))) (acons (qcall c_law_draw hr tk rfl (acons (qv (pv 0)) (acons qint anil))) anil))))))
 snil)
 (scons (sasg 8 (qadd qint (qcall c_law_draw hr tk rfl (acons (qv (pv 0)) (acons qint anil)))) hN)
 (sone (sret (qtup (acons qstr (acons (qcall c_law_table hr tk rfl (acons (qv (pv 0)) (acons (qv (pv 1)) (acons (qv (pv 2)) (acons (qv (pv 8)) (acons (qsub (qv (pv 4)) qint) anil)))))) (acons (qcall c_law_table hr tk rfl (acons (qv (pv 0)) (acons (qv (pv 1)) (acons (qv (pv 8)) (acons (qv (pv 3)) (acons (qsub (qv (pv 4)) qint) anil)))))) anil)))))))))))))))
/-! _law_any ['draws', 'names', 'deep'] ['kind'] -/
def w_law_any_t1 (fs_law_draw fs_law_int fs_law_frac fs_law_rest fs_law_poly fs_law_row fs_law_table : FS) : WS :=
 (wRet (wCall fs_law_table (wCons (wVar 0) (wCons (wVar 1) (wCons (wOp fAdd (wC (.int 1)) (wCall fs_law_draw (wCons (wVar 0) (wCons (wC (.int 3)) wNil)))) (wCons (wOp fAdd (wC (.int 1)) (wCall fs_law_draw (wCons (wVar 0) (wCons (wC (.int 3)) wNil)))) (wCons (wVar 2) wNil)))))))
def w_law_any_t2 (fs_law_draw fs_law_int fs_law_frac fs_law_rest fs_law_poly fs_law_row fs_law_table : FS) : WS :=
 (wSeq (wIf (wB (wOp fEq (wVar 3) (wC (.int 4))))
 (wRet (wCall fs_law_row (wCons (wVar 0) (wCons (wVar 1) (wCons (wOp fAdd (wC (.int 1)) (wCall fs_law_draw (wCons (wVar 0) (wCons (wC (.int 3)) wNil)))) (wCons (wVar 2) wNil))))))
 wNext)
 (w_law_any_t1 fs_law_draw fs_law_int fs_law_frac fs_law_rest fs_law_poly fs_law_row fs_law_table))
def w_law_any_t3 (fs_law_draw fs_law_int fs_law_frac fs_law_rest fs_law_poly fs_law_row fs_law_table : FS) : WS :=
 (wSeq (wIf (wB (wOp fEq (wVar 3) (wC (.int 3))))
 (wRet (wCall fs_law_poly (wCons (wVar 0) (wCons (wVar 1) (wCons (wVar 2) wNil)))))
 wNext)
 (w_law_any_t2 fs_law_draw fs_law_int fs_law_frac fs_law_rest fs_law_poly fs_law_row fs_law_table))
def w_law_any_t4 (fs_law_draw fs_law_int fs_law_frac fs_law_rest fs_law_poly fs_law_row fs_law_table : FS) : WS :=
 (wSeq (wIf (wB (wOp fEq (wVar 3) (wC (.int 2))))
 (wRet (wCall fs_law_rest (wCons (wVar 0) (wCons (wVar 1) (wCons (wOp fIx (wLst (wCons (wC (.int 7)) (wCons (wC (.int 10)) (wCons (wC (.int 97)) wNil)))) (wCall fs_law_draw (wCons (wVar 0) (wCons (wC (.int 3)) wNil)))) (wCons (wVar 2) wNil))))))
 wNext)
 (w_law_any_t3 fs_law_draw fs_law_int fs_law_frac fs_law_rest fs_law_poly fs_law_row fs_law_table))
def w_law_any_t5 (fs_law_draw fs_law_int fs_law_frac fs_law_rest fs_law_poly fs_law_row fs_law_table : FS) : WS :=
 (wSeq (wIf (wB (wOp fLt (wVar 3) (wC (.int 2))))
 (wRet (wIfE (wB (wOp fEq (wVar 3) (wC (.int 0)))) (wCall fs_law_int (wCons (wVar 0) (wCons (wVar 1) (wCons (wVar 2) wNil)))) (wCall fs_law_frac (wCons (wVar 0) (wCons (wVar 1) (wCons (wVar 2) wNil))))))
 wNext)
 (w_law_any_t4 fs_law_draw fs_law_int fs_law_frac fs_law_rest fs_law_poly fs_law_row fs_law_table))
def w_law_any (fs_law_draw fs_law_int fs_law_frac fs_law_rest fs_law_poly fs_law_row fs_law_table : FS) : WS :=
 (wSeq (wSet 3 (wCall fs_law_draw (wCons (wVar 0) (wCons (wC (.int 6)) wNil))))
 (w_law_any_t5 fs_law_draw fs_law_int fs_law_frac fs_law_rest fs_law_poly fs_law_row fs_law_table))
theorem sc_law_any : FnScope ["draws", "names", "deep", "kind"] ["draws", "names", "deep"] (defScope (topS 38)) := ⟨rfl, rfl, rfl, by decide +kernel, rfl, by decide +kernel, by decide +kernel⟩
theorem d_law_any {k : Nat} {fs_law_draw fs_law_int fs_law_frac fs_law_rest fs_law_poly fs_law_row fs_law_table : FS} {AD : Ads} (c_law_draw : FnAt P w K mg base k 2 "_law_draw" fs_law_draw) (c_law_int : FnAt P w K mg base k 3 "_law_int" fs_law_int) (c_law_frac : FnAt P w K mg base k 3 "_law_frac" fs_law_frac) (c_law_rest : FnAt P w K mg base k 4 "_law_rest" fs_law_rest) (c_law_poly : FnAt P w K mg base k 3 "_law_poly" fs_law_poly) (c_law_row : FnAt P w K mg base k 4 "_law_row" fs_law_row) (c_law_table : FnAt P w K mg base k 5 "_law_table" fs_law_table) (f : Addr) (cdv : Value) (A : Around) (outer : List Env) (s : Shared) (H : Hp) (E : XK) (hr0 : Room (k) (A.deeper (envOfC "_law_any" (defScope (topS 38)) s.heap.objs.size f cdv))) :
    QSs (cxOf (L2.CX P w) P w K mg base ["draws", "names", "deep", "kind"] "_law_any" (defScope (topS 38)) f cdv A outer s H E) (fun c d _ H' => E c d H') (defBody (topS 38)) (w_law_any fs_law_draw fs_law_int fs_law_frac fs_law_rest fs_law_poly fs_law_row fs_law_table) := by
  have hN : (["draws", "names", "deep", "kind"] : List Str).Nodup := sc_law_any.nd
  have tk : Takes (cxOf (L2.CX P w) P w K mg base ["draws", "names", "deep", "kind"] "_law_any" (defScope (topS 38)) f cdv A outer s H E) (fun c d _ H' => E c d H') := takes_of rfl rfl rfl rfl
  have hp : PassesOwn (model P w) (cxOf (L2.CX P w) P w K mg base ["draws", "names", "deep", "kind"] "_law_any" (defScope (topS 38)) f cdv A outer s H E).A (cxOf (L2.CX P w) P w K mg base ["draws", "names", "deep", "kind"] "_law_any" (defScope (topS 38)) f cdv A outer s H E).env (cxOf (L2.CX P w) P w K mg base ["draws", "names", "deep", "kind"] "_law_any" (defScope (topS 38)) f cdv A outer s H E).xe := passes_of rfl
  have hr := hr0
  exact (scons (sasg 3 (qcall c_law_draw hr tk rfl (acons (qv (pv 0)) (acons qint anil))) hN)
 (scons (sif (tlt (qv (pv 3)) qint)
 (sone (sret (qif (teq hr (qv (pv 3)) qint) (qcall c_law_int hr tk rfl (acons (qv (pv 0)) (acons (qv (pv 1)) (acons (qv (pv 2)) anil)))) (qcall c_law_frac hr tk rfl (acons (qv (pv 0)) (acons (qv (pv 1)) (acons (qv (pv 2)) anil)))))))
 snil)
 (scons (sif (teq hr (qv (pv 3)) qint)
 (sone (sret (qcall c_law_rest hr tk rfl (acons (qv (pv 0)) (acons (qv (pv 1)) (acons (qix (qlst (acons qint (acons qint (acons qint anil)))) (qcall c_law_draw hr tk rfl (acons (qv (pv 0)) (acons qint anil)))) (acons (qv (pv 2)) anil)))))))
 snil)
 (scons (sif (teq hr (qv (pv 3)) qint)
 (sone (sret (qcall c_law_poly hr tk rfl (acons (qv (pv 0)) (acons (qv (pv 1)) (acons (qv (pv 2)) anil))))))
 snil)
 (scons (sif (teq hr (qv (pv 3)) qint)
 (sone (sret (qcall c_law_row hr tk rfl (acons (qv (pv 0)) (acons (qv (pv 1)) (acons (qadd qint (qcall c_law_draw hr tk rfl (acons (qv (pv 0)) (acons qint anil)))) (acons (qv (pv 2)) anil)))))))
 snil)
 (sone (sret (qcall c_law_table hr tk rfl (acons (qv (pv 0)) (acons (qv (pv 1)) (acons (qadd qint (qcall c_law_draw hr tk rfl (acons (qv (pv 0)) (acons qint anil)))) (acons (qadd qint (qcall c_law_draw hr tk rfl (acons (qv (pv 0)) (acons qint anil)))) (acons (qv (pv 2)) anil)))))))))))))
/-! _law_told ['tree', 'names'] ['e'] -/
def w_law_told (K : PySem.W.Frag) (AD : Ads) (fs_kind_of : FS) : WS :=
 (wTry K AD.errs (.ref AD.Wrong) 2
 (wRet (wTup (wCons (wC (.str "told")) (wCons (wCall fs_kind_of (wCons (wVar 0) (wCons (wVar 1) wNil))) wNil))))
 (fun a dx => (wRet (wTup (wCons (wC (.str "wrong")) (wCons (wXat a dx (wVar 2)) wNil))))))
theorem sc_law_told : FnScope ["tree", "names", "e"] ["tree", "names"] (defScope (topS 39)) := ⟨rfl, rfl, rfl, by decide +kernel, rfl, by decide +kernel, by decide +kernel⟩
theorem d_law_told {k : Nat} {fs_kind_of : FS} {AD : Ads} (Z : Nms w K mg AD) (c_kind_of : FnAt P w K mg base k 2 "kind_of" fs_kind_of) (f : Addr) (cdv : Value) (A : Around) (outer : List Env) (s : Shared) (H : Hp) (E : XK) (hr0 : Room (k) (A.deeper (envOfC "_law_told" (defScope (topS 39)) s.heap.objs.size f cdv))) :
    QSs (cxOf (L2.CX P w) P w K mg base ["tree", "names", "e"] "_law_told" (defScope (topS 39)) f cdv A outer s H E) (fun c d _ H' => E c d H') (defBody (topS 39)) (w_law_told K AD fs_kind_of) := by
  have hN : (["tree", "names", "e"] : List Str).Nodup := sc_law_told.nd
  have tk : Takes (cxOf (L2.CX P w) P w K mg base ["tree", "names", "e"] "_law_told" (defScope (topS 39)) f cdv A outer s H E) (fun c d _ H' => E c d H') := takes_of rfl rfl rfl rfl
  have hp : PassesOwn (model P w) (cxOf (L2.CX P w) P w K mg base ["tree", "names", "e"] "_law_told" (defScope (topS 39)) f cdv A outer s H E).A (cxOf (L2.CX P w) P w K mg base ["tree", "names", "e"] "_law_told" (defScope (topS 39)) f cdv A outer s H E).env (cxOf (L2.CX P w) P w K mg base ["tree", "names", "e"] "_law_told" (defScope (topS 39)) f cdv A outer s H E).xe := passes_of rfl
  have hr := hr0
  exact (sone (stry 2 rfl rfl hN ⟨rfl, rfl, .inl Z.m_Wrong⟩ tk
 (fun W pn xe tk hp => (sone (sret (qtup (acons qstr (acons (qcall c_kind_of hr tk rfl (acons (qv (pv 0)) (acons (qv (pv 1)) anil))) anil))))))
 (fun a dx oe C pn hz hf hX => (sone (sret (qtup (acons qstr (acons (qxat (Z.x_err _ hX).1 (Z.x_err _ hX).2 hz hf (qv (pv 2))) anil))))))))
/-! _law_ones ['word', 'many'] ['k'] -/
def w_law_ones : WS :=
 (wRet (wTup (wCons (wC (.str "call")) (wCons (wVar 0) (wCons (wCB cTuple (wCons (wLc 2 (wiR1 True (wVar 1)) wYes (wTup (wCons (wC (.str "int")) (wCons (wVar 2) wNil)))) wNil)) wNil)))))
theorem sc_law_ones : FnScope ["word", "many", "k"] ["word", "many"] (defScope (topS 40)) := ⟨rfl, rfl, rfl, by decide +kernel, rfl, by decide +kernel, by decide +kernel⟩
theorem d_law_ones {k : Nat} {AD : Ads} (Z : Nms w K mg AD)  (f : Addr) (cdv : Value) (A : Around) (outer : List Env) (s : Shared) (H : Hp) (E : XK) (hr0 : Room (k) (A.deeper (envOfC "_law_ones" (defScope (topS 40)) s.heap.objs.size f cdv))) :
    QSs (cxOf (L2.CX P w) P w K mg base ["word", "many", "k"] "_law_ones" (defScope (topS 40)) f cdv A outer s H E) (fun c d _ H' => E c d H') (defBody (topS 40)) (w_law_ones ) := by
  have hN : (["word", "many", "k"] : List Str).Nodup := sc_law_ones.nd
  have tk : Takes (cxOf (L2.CX P w) P w K mg base ["word", "many", "k"] "_law_ones" (defScope (topS 40)) f cdv A outer s H E) (fun c d _ H' => E c d H') := takes_of rfl rfl rfl rfl
  have hp : PassesOwn (model P w) (cxOf (L2.CX P w) P w K mg base ["word", "many", "k"] "_law_ones" (defScope (topS 40)) f cdv A outer s H E).A (cxOf (L2.CX P w) P w K mg base ["word", "many", "k"] "_law_ones" (defScope (topS 40)) f cdv A outer s H E).env (cxOf (L2.CX P w) P w K mg base ["word", "many", "k"] "_law_ones" (defScope (topS 40)) f cdv A outer s H E).xe := passes_of rfl
  have hr := hr0
  exact (sone (sret (qtup (acons qstr (acons (qv (pv 0)) (acons (qcallTy call_tuple_of lTuple rfl Z.b_tuple rfl (acons (qlc1 (y := "k") rfl hN (show blkC ["word", "many", "k"] (defScope (topS 40)) _ [("k", 2)] = true by decide +kernel) (irange1 rfl Z.b_range (qv (pv 1))) (fun _ _ _ _ _ => gown 2 hN) (fun _ _ _ _ _ => ifs0) (fun _ _ _ _ _ => (qtup (acons qstr (acons (qv (pv 2)) anil))))) anil)) anil))))))
/-! law ['script'] ['draws', 'names', 'turn', 'tree', 'kept', 'many', 'fine', 'told', 'due', 'kind', 'one', 'long', 'power', 'size', 'form', 'some', 'rows', 'columns', 'wide'] -/
def w_law_t1 (fs_law_draws fs_law_draw fs_law_any fs_law_copy fs_law_kind fs_law_told fs_law_same fs_law_ones : FS) : WS :=
 (wIf (wNot (wB (wCall fs_law_same (wCons (wLst (wCons (wCall fs_law_told (wCons (wVar 4) (wCons (wVar 2) wNil))) (wCons (wLst (wCons (wVar 4) (wCons (wVar 2) wNil))) wNil))) (wCons (wLst (wCons (wTup (wCons (wC (.str "told")) (wCons (wCall fs_law_kind (wCons (wVar 4) (wCons (wVar 2) wNil))) wNil))) (wCons (wVar 5) wNil))) wNil)))))
 (wRet (wC (.bl false)))
 wNext)
def w_law_t2 (fs_law_draws fs_law_draw fs_law_any fs_law_copy fs_law_kind fs_law_told fs_law_same fs_law_ones : FS) : WS :=
 (wSeq (wSet 5 (wCall fs_law_copy (wCons (wLst (wCons (wVar 4) (wCons (wVar 2) wNil))) wNil)))
 (w_law_t1 fs_law_draws fs_law_draw fs_law_any fs_law_copy fs_law_kind fs_law_told fs_law_same fs_law_ones))
def w_law_t3 (fs_law_draws fs_law_draw fs_law_any fs_law_copy fs_law_kind fs_law_told fs_law_same fs_law_ones : FS) : WS :=
 (wRet (wCall fs_law_same (wCons (wVar 8) (wCons (wVar 9) wNil))))
def w_law_t4 (fs_law_draws fs_law_draw fs_law_any fs_law_copy fs_law_kind fs_law_told fs_law_same fs_law_ones : FS) : WS :=
 (wSeq (wSet 9 (wLst (wCons (wIfE (wAnd (wB (wOp fLe (wVar 17) (wC (.int 12)))) (wB (wOp fLe (wVar 18) (wC (.int 24))))) (wTup (wCons (wC (.str "told")) (wCons (wOp fIxG (wVar 19) (wC (.str "t"))) wNil))) (wTup (wCons (wC (.str "wrong")) (wCons (wC (.str "long")) wNil)))) (wCons (wIfE (wB (wOp fLe (wVar 17) (wC (.int 12)))) (wTup (wCons (wC (.str "told")) (wCons (wTup (wCons (wC (.str "answer")) (wCons (wVar 17) (wCons (wVar 17) wNil)))) wNil))) (wTup (wCons (wC (.str "wrong")) (wCons (wC (.str "long")) wNil)))) wNil))))
 (w_law_t3 fs_law_draws fs_law_draw fs_law_any fs_law_copy fs_law_kind fs_law_told fs_law_same fs_law_ones))
def w_law_t5 (fs_law_draws fs_law_draw fs_law_any fs_law_copy fs_law_kind fs_law_told fs_law_same fs_law_ones : FS) : WS :=
 (wSeq (wSet 8 (wLst (wCons (wCall fs_law_told (wCons (wTup (wCons (wC (.str "call")) (wCons (wC (.str "reduced")) (wCons (wTup (wCons (wTup (wCons (wC (.str "name")) (wCons (wC (.str "t")) wNil))) wNil)) wNil)))) (wCons (wVar 19) wNil))) (wCons (wCall fs_law_told (wCons (wTup (wCons (wC (.str "call")) (wCons (wC (.str "solved")) (wCons (wTup (wCons (wTup (wCons (wC (.str "name")) (wCons (wC (.str "u")) wNil))) (wCons (wTup (wCons (wC (.str "name")) (wCons (wC (.str "v")) wNil))) wNil))) wNil)))) (wCons (wVar 19) wNil))) wNil))))
 (w_law_t4 fs_law_draws fs_law_draw fs_law_any fs_law_copy fs_law_kind fs_law_told fs_law_same fs_law_ones))
def w_law_t6 (fs_law_draws fs_law_draw fs_law_any fs_law_copy fs_law_kind fs_law_told fs_law_same fs_law_ones : FS) : WS :=
 (wSeq (wSet 19 (wDct ((.inr "t", (wTup (wCons (wC (.str "table")) (wCons (wVar 17) (wCons (wVar 18) wNil))))) :: ((.inr "u", (wTup (wCons (wC (.str "table")) (wCons (wVar 17) (wCons (wVar 17) wNil))))) :: ((.inr "v", (wTup (wCons (wC (.str "row")) (wCons (wVar 17) wNil)))) :: [])))))
 (w_law_t5 fs_law_draws fs_law_draw fs_law_any fs_law_copy fs_law_kind fs_law_told fs_law_same fs_law_ones))
def w_law_t7 (fs_law_draws fs_law_draw fs_law_any fs_law_copy fs_law_kind fs_law_told fs_law_same fs_law_ones : FS) : WS :=
 (wSeq (wPar 17 18 (wOp fAdd (wC (.int 11)) (wCall fs_law_draw (wCons (wVar 1) (wCons (wC (.int 3)) wNil)))) (wOp fAdd (wC (.int 22)) (wCall fs_law_draw (wCons (wVar 1) (wCons (wC (.int 4)) wNil)))))
 (w_law_t6 fs_law_draws fs_law_draw fs_law_any fs_law_copy fs_law_kind fs_law_told fs_law_same fs_law_ones))
def w_law_t8 (fs_law_draws fs_law_draw fs_law_any fs_law_copy fs_law_kind fs_law_told fs_law_same fs_law_ones : FS) : WS :=
 (wSeq (wIf (wNot (wB (wCall fs_law_same (wCons (wVar 8) (wCons (wIfE (wB (wOp fLe (wVar 15) (wC (.int 10)))) (wLst (wCons (wTup (wCons (wC (.str "told")) (wCons (wOp fIxG (wVar 16) (wC (.str "t"))) wNil))) (wCons (wTup (wCons (wC (.str "told")) (wCons (wTup (wCons (wC (.str "answer")) (wCons (wC (.int 2)) (wCons (wVar 15) wNil)))) wNil))) wNil))) (wOp fMul (wLst (wCons (wTup (wCons (wC (.str "wrong")) (wCons (wC (.str "long")) wNil))) wNil)) (wC (.int 2)))) wNil)))))
 (wRet (wC (.bl false)))
 wNext)
 (w_law_t7 fs_law_draws fs_law_draw fs_law_any fs_law_copy fs_law_kind fs_law_told fs_law_same fs_law_ones))
def w_law_t9 (fs_law_draws fs_law_draw fs_law_any fs_law_copy fs_law_kind fs_law_told fs_law_same fs_law_ones : FS) : WS :=
 (wSeq (wSet 8 (wLst (wCons (wCall fs_law_told (wCons (wTup (wCons (wC (.str "call")) (wCons (wC (.str "hermite")) (wCons (wTup (wCons (wTup (wCons (wC (.str "name")) (wCons (wC (.str "t")) wNil))) wNil)) wNil)))) (wCons (wVar 16) wNil))) (wCons (wCall fs_law_told (wCons (wTup (wCons (wC (.str "call")) (wCons (wC (.str "whole")) (wCons (wTup (wCons (wTup (wCons (wC (.str "name")) (wCons (wC (.str "u")) wNil))) (wCons (wTup (wCons (wC (.str "name")) (wCons (wC (.str "v")) wNil))) wNil))) wNil)))) (wCons (wVar 16) wNil))) wNil))))
 (w_law_t8 fs_law_draws fs_law_draw fs_law_any fs_law_copy fs_law_kind fs_law_told fs_law_same fs_law_ones))
def w_law_t10 (fs_law_draws fs_law_draw fs_law_any fs_law_copy fs_law_kind fs_law_told fs_law_same fs_law_ones : FS) : WS :=
 (wSeq (wSet 16 (wDct ((.inr "t", (wTup (wCons (wC (.str "table")) (wCons (wVar 15) (wCons (wC (.int 2)) wNil))))) :: ((.inr "u", (wTup (wCons (wC (.str "table")) (wCons (wC (.int 2)) (wCons (wVar 15) wNil))))) :: ((.inr "v", (wTup (wCons (wC (.str "row")) (wCons (wC (.int 2)) wNil)))) :: [])))))
 (w_law_t9 fs_law_draws fs_law_draw fs_law_any fs_law_copy fs_law_kind fs_law_told fs_law_same fs_law_ones))
def w_law_t11 (fs_law_draws fs_law_draw fs_law_any fs_law_copy fs_law_kind fs_law_told fs_law_same fs_law_ones : FS) : WS :=
 (wSeq (wSet 15 (wOp fAdd (wC (.int 9)) (wCall fs_law_draw (wCons (wVar 1) (wCons (wC (.int 3)) wNil)))))
 (w_law_t10 fs_law_draws fs_law_draw fs_law_any fs_law_copy fs_law_kind fs_law_told fs_law_same fs_law_ones))
def w_law_t12 (fs_law_draws fs_law_draw fs_law_any fs_law_copy fs_law_kind fs_law_told fs_law_same fs_law_ones : FS) : WS :=
 (wSeq (wIf (wNot (wB (wCall fs_law_same (wCons (wVar 8) (wCons (wLst (wCons (wIfE (wB (wVar 7)) (wTup (wCons (wC (.str "told")) (wCons (wTup (wCons (wC (.str "poly")) (wCons (wVar 6) wNil))) wNil))) (wTup (wCons (wC (.str "wrong")) (wCons (wC (.str "long")) wNil)))) (wCons (wIfE (wB (wOp fLe (wVar 14) (wC (.int 40)))) (wTup (wCons (wC (.str "told")) (wCons (wTup (wCons (wC (.str "poly")) (wCons (wVar 14) wNil))) wNil))) (wTup (wCons (wC (.str "wrong")) (wCons (wC (.str "long")) wNil)))) wNil))) wNil)))))
 (wRet (wC (.bl false)))
 wNext)
 (w_law_t11 fs_law_draws fs_law_draw fs_law_any fs_law_copy fs_law_kind fs_law_told fs_law_same fs_law_ones))
def w_law_t13 (fs_law_draws fs_law_draw fs_law_any fs_law_copy fs_law_kind fs_law_told fs_law_same fs_law_ones : FS) : WS :=
 (wSeq (wSet 14 (wOp fAdd (wOp fMul (wOp fSub (wVar 11) (wC (.int 1))) (wVar 13)) (wC (.int 1))))
 (w_law_t12 fs_law_draws fs_law_draw fs_law_any fs_law_copy fs_law_kind fs_law_told fs_law_same fs_law_ones))
def w_law_t14 (fs_law_draws fs_law_draw fs_law_any fs_law_copy fs_law_kind fs_law_told fs_law_same fs_law_ones : FS) : WS :=
 (wSeq (wSet 8 (wLst (wCons (wCall fs_law_told (wCons (wTup (wCons (wC (.str "mul")) (wCons (wTup (wCons (wC (.str "name")) (wCons (wC (.str "a")) wNil))) (wCons (wTup (wCons (wC (.str "name")) (wCons (wC (.str "b")) wNil))) wNil)))) (wCons (wVar 12) wNil))) (wCons (wCall fs_law_told (wCons (wTup (wCons (wC (.str "pow")) (wCons (wTup (wCons (wC (.str "name")) (wCons (wC (.str "a")) wNil))) (wCons (wVar 13) wNil)))) (wCons (wVar 12) wNil))) wNil))))
 (w_law_t13 fs_law_draws fs_law_draw fs_law_any fs_law_copy fs_law_kind fs_law_told fs_law_same fs_law_ones))
def w_law_t15 (fs_law_draws fs_law_draw fs_law_any fs_law_copy fs_law_kind fs_law_told fs_law_same fs_law_ones : FS) : WS :=
 (wSeq (wSet 13 (wOp fAdd (wC (.int 1)) (wCall fs_law_draw (wCons (wVar 1) (wCons (wC (.int 5)) wNil)))))
 (w_law_t14 fs_law_draws fs_law_draw fs_law_any fs_law_copy fs_law_kind fs_law_told fs_law_same fs_law_ones))
def w_law_t16 (fs_law_draws fs_law_draw fs_law_any fs_law_copy fs_law_kind fs_law_told fs_law_same fs_law_ones : FS) : WS :=
 (wSeq (wSet 12 (wDct ((.inr "a", (wTup (wCons (wC (.str "poly")) (wCons (wVar 11) wNil)))) :: ((.inr "b", (wTup (wCons (wC (.str "poly")) (wCons (wOp fSub (wOp fAdd (wVar 6) (wC (.int 1))) (wVar 11)) wNil)))) :: []))))
 (w_law_t15 fs_law_draws fs_law_draw fs_law_any fs_law_copy fs_law_kind fs_law_told fs_law_same fs_law_ones))
def w_law_t17 (fs_law_draws fs_law_draw fs_law_any fs_law_copy fs_law_kind fs_law_told fs_law_same fs_law_ones : FS) : WS :=
 (wSeq (wSet 11 (wOp fAdd (wC (.int 1)) (wCall fs_law_draw (wCons (wVar 1) (wCons (wC (.int 40)) wNil)))))
 (w_law_t16 fs_law_draws fs_law_draw fs_law_any fs_law_copy fs_law_kind fs_law_told fs_law_same fs_law_ones))
def w_law_t18 (fs_law_draws fs_law_draw fs_law_any fs_law_copy fs_law_kind fs_law_told fs_law_same fs_law_ones : FS) : WS :=
 (wSeq (wIf (wNot (wB (wCall fs_law_same (wCons (wVar 8) (wCons (wLc 10 (wiSeq (wVar 9)) wYes (wIfE (wB (wVar 7)) (wTup (wCons (wC (.str "told")) (wCons (wVar 10) wNil))) (wTup (wCons (wC (.str "wrong")) (wCons (wC (.str "long")) wNil))))) wNil)))))
 (wRet (wC (.bl false)))
 wNext)
 (w_law_t17 fs_law_draws fs_law_draw fs_law_any fs_law_copy fs_law_kind fs_law_told fs_law_same fs_law_ones))
def w_law_t19 (fs_law_draws fs_law_draw fs_law_any fs_law_copy fs_law_kind fs_law_told fs_law_same fs_law_ones : FS) : WS :=
 (wSeq (wSet 9 (wLst (wCons (wTup (wCons (wC (.str "row")) (wCons (wVar 6) wNil))) (wCons (wTup (wCons (wC (.str "poly")) (wCons (wVar 6) wNil))) (wCons (wTup (wCons (wC (.str "table")) (wCons (wVar 6) (wCons (wC (.int 2)) wNil)))) wNil)))))
 (w_law_t18 fs_law_draws fs_law_draw fs_law_any fs_law_copy fs_law_kind fs_law_told fs_law_same fs_law_ones))
def w_law_t20 (fs_law_draws fs_law_draw fs_law_any fs_law_copy fs_law_kind fs_law_told fs_law_same fs_law_ones : FS) : WS :=
 (wSeq (wSet 8 (wLst (wCons (wCall fs_law_told (wCons (wCall fs_law_ones (wCons (wC (.str "row")) (wCons (wVar 6) wNil))) (wCons wDNewK wNil))) (wCons (wCall fs_law_told (wCons (wCall fs_law_ones (wCons (wC (.str "poly")) (wCons (wVar 6) wNil))) (wCons wDNewK wNil))) (wCons (wCall fs_law_told (wCons (wTup (wCons (wC (.str "call")) (wCons (wC (.str "table")) (wCons (wOp fMulT (wTup (wCons (wCall fs_law_ones (wCons (wC (.str "row")) (wCons (wC (.int 2)) wNil))) wNil)) (wVar 6)) wNil)))) (wCons wDNewK wNil))) wNil)))))
 (w_law_t19 fs_law_draws fs_law_draw fs_law_any fs_law_copy fs_law_kind fs_law_told fs_law_same fs_law_ones))
def w_law_t21 (fs_law_draws fs_law_draw fs_law_any fs_law_copy fs_law_kind fs_law_told fs_law_same fs_law_ones : FS) : WS :=
 (wSeq (wSet 7 (wOp fLe (wVar 6) (wC (.int 40))))
 (w_law_t20 fs_law_draws fs_law_draw fs_law_any fs_law_copy fs_law_kind fs_law_told fs_law_same fs_law_ones))
def w_law_t22 (fs_law_draws fs_law_draw fs_law_any fs_law_copy fs_law_kind fs_law_told fs_law_same fs_law_ones : FS) : WS :=
 (wSeq (wSet 6 (wOp fAdd (wC (.int 39)) (wCall fs_law_draw (wCons (wVar 1) (wCons (wC (.int 3)) wNil)))))
 (w_law_t21 fs_law_draws fs_law_draw fs_law_any fs_law_copy fs_law_kind fs_law_told fs_law_same fs_law_ones))
def w_law_t23 (fs_law_draws fs_law_draw fs_law_any fs_law_copy fs_law_kind fs_law_told fs_law_same fs_law_ones : FS) : WS :=
 (wSeq (wFor (wiR1 False (wC (.int 6))) (gNm 3)
 (wSeq (wSet 4 (wCall fs_law_any (wCons (wVar 1) (wCons (wVar 2) (wCons (wCall fs_law_draw (wCons (wVar 1) (wCons (wC (.int 4)) wNil))) wNil)))))
 (w_law_t2 fs_law_draws fs_law_draw fs_law_any fs_law_copy fs_law_kind fs_law_told fs_law_same fs_law_ones)))
 (w_law_t22 fs_law_draws fs_law_draw fs_law_any fs_law_copy fs_law_kind fs_law_told fs_law_same fs_law_ones))
def w_law_t24 (fs_law_draws fs_law_draw fs_law_any fs_law_copy fs_law_kind fs_law_told fs_law_same fs_law_ones : FS) : WS :=
 (wSeq (wSet 2 (wDct ((.inr "x", (wTup (wCons (wC (.str "int")) wNil))) :: ((.inr "y", (wTup (wCons (wC (.str "frac")) wNil))) :: ((.inr "z", (wTup (wCons (wC (.str "rest")) (wCons (wC (.int 7)) wNil)))) :: ((.inr "p", (wTup (wCons (wC (.str "poly")) (wCons (wC (.int 3)) wNil)))) :: ((.inr "q", (wTup (wCons (wC (.str "poly")) (wCons (wC (.int 1)) wNil)))) :: ((.inr "r", (wTup (wCons (wC (.str "row")) (wCons (wC (.int 2)) wNil)))) :: ((.inr "s", (wTup (wCons (wC (.str "table")) (wCons (wC (.int 2)) (wCons (wC (.int 3)) wNil))))) :: [])))))))))
 (w_law_t23 fs_law_draws fs_law_draw fs_law_any fs_law_copy fs_law_kind fs_law_told fs_law_same fs_law_ones))
def w_law (fs_law_draws fs_law_draw fs_law_any fs_law_copy fs_law_kind fs_law_told fs_law_same fs_law_ones : FS) : WS :=
 (wSeq (wSet 1 (wCall fs_law_draws (wCons (wVar 0) wNil)))
 (w_law_t24 fs_law_draws fs_law_draw fs_law_any fs_law_copy fs_law_kind fs_law_told fs_law_same fs_law_ones))
theorem sc_law : FnScope ["script", "draws", "names", "turn", "tree", "kept", "many", "fine", "told", "due", "kind", "one", "long", "power", "size", "form", "some", "rows", "columns", "wide"] ["script"] (defScope (topS 41)) := ⟨rfl, rfl, rfl, by decide +kernel, rfl, by decide +kernel, by decide +kernel⟩
theorem d_law {k : Nat} {fs_law_draws fs_law_draw fs_law_any fs_law_copy fs_law_kind fs_law_told fs_law_same fs_law_ones : FS} {AD : Ads} (Z : Nms w K mg AD) (c_law_draws : FnAt P w K mg base k 1 "_law_draws" fs_law_draws) (c_law_draw : FnAt P w K mg base k 2 "_law_draw" fs_law_draw) (c_law_any : FnAt P w K mg base k 3 "_law_any" fs_law_any) (c_law_copy : FnAt P w K mg base k 1 "_law_copy" fs_law_copy) (c_law_kind : FnAt P w K mg base k 2 "_law_kind" fs_law_kind) (c_law_told : FnAt P w K mg base k 2 "_law_told" fs_law_told) (c_law_same : FnAt P w K mg base k 2 "_law_same" fs_law_same) (c_law_ones : FnAt P w K mg base k 2 "_law_ones" fs_law_ones) (f : Addr) (cdv : Value) (A : Around) (outer : List Env) (s : Shared) (H : Hp) (E : XK) (hr0 : Room (k) (A.deeper (envOfC "law" (defScope (topS 41)) s.heap.objs.size f cdv))) :
    QSs (cxOf (L2.CX P w) P w K mg base ["script", "draws", "names", "turn", "tree", "kept", "many", "fine", "told", "due", "kind", "one", "long", "power", "size", "form", "some", "rows", "columns", "wide"] "law" (defScope (topS 41)) f cdv A outer s H E) (fun c d _ H' => E c d H') (defBody (topS 41)) (w_law fs_law_draws fs_law_draw fs_law_any fs_law_copy fs_law_kind fs_law_told fs_law_same fs_law_ones) := by
  have hN : (["script", "draws", "names", "turn", "tree", "kept", "many", "fine", "told", "due", "kind", "one", "long", "power", "size", "form", "some", "rows", "columns", "wide"] : List Str).Nodup := sc_law.nd
  have tk : Takes (cxOf (L2.CX P w) P w K mg base ["script", "draws", "names", "turn", "tree", "kept", "many", "fine", "told", "due", "kind", "one", "long", "power", "size", "form", "some", "rows", "columns", "wide"] "law" (defScope (topS 41)) f cdv A outer s H E) (fun c d _ H' => E c d H') := takes_of rfl rfl rfl rfl
  have hp : PassesOwn (model P w) (cxOf (L2.CX P w) P w K mg base ["script", "draws", "names", "turn", "tree", "kept", "many", "fine", "told", "due", "kind", "one", "long", "power", "size", "form", "some", "rows", "columns", "wide"] "law" (defScope (topS 41)) f cdv A outer s H E).A (cxOf (L2.CX P w) P w K mg base ["script", "draws", "names", "turn", "tree", "kept", "many", "fine", "told", "due", "kind", "one", "long", "power", "size", "form", "some", "rows", "columns", "wide"] "law" (defScope (topS 41)) f cdv A outer s H E).env (cxOf (L2.CX P w) P w K mg base ["script", "draws", "names", "turn", "tree", "kept", "many", "fine", "told", "due", "kind", "one", "long", "power", "size", "form", "some", "rows", "columns", "wide"] "law" (defScope (topS 41)) f cdv A outer s H E).xe := passes_of rfl
  have hr := hr0
  exact (scons (sasg 1 (qcall c_law_draws hr tk rfl (acons (qv (pv 0)) anil)) hN)
 (scons (sasg 2 (qdct (prs_cons (qtup (acons qstr anil)) (prs_cons (qtup (acons qstr anil)) (prs_cons (qtup (acons qstr (acons qint anil))) (prs_cons (qtup (acons qstr (acons qint anil))) (prs_cons (qtup (acons qstr (acons qint anil))) (prs_cons (qtup (acons qstr (acons qint anil))) (prs_cons (qtup (acons qstr (acons qint (acons qint anil)))) prs_nil))))))) (by decide +kernel)) hN)
 (scons (sfor hp rfl (irange1 rfl Z.b_range qint) (gname 3 hN)
 (scons (sasg 4 (qcall c_law_any hr tk rfl (acons (qv (pv 1)) (acons (qv (pv 2)) (acons (qcall c_law_draw hr tk rfl (acons (qv (pv 1)) (acons qint anil))) anil)))) hN)
 (scons (sasg 5 (qcall c_law_copy hr tk rfl (acons (qlst (acons (qv (pv 4)) (acons (qv (pv 2)) anil))) anil)) hN)
 (sone (sif (tnot (tval (qcall c_law_same hr tk rfl (acons (qlst (acons (qcall c_law_told hr tk rfl (acons (qv (pv 4)) (acons (qv (pv 2)) anil))) (acons (qlst (acons (qv (pv 4)) (acons (qv (pv 2)) anil))) anil))) (acons (qlst (acons (qtup (acons qstr (acons (qcall c_law_kind hr tk rfl (acons (qv (pv 4)) (acons (qv (pv 2)) anil))) anil))) (acons (qv (pv 5)) anil))) anil)))))
 (sone (sret qbl))
 snil)))))
 (scons (sasg 6 (qadd qint (qcall c_law_draw hr tk rfl (acons (qv (pv 1)) (acons qint anil)))) hN)
 (scons (sasg 7 (qle (qv (pv 6)) qint) hN)
 (scons (sasg 8 (qlst (acons (qcall c_law_told hr tk rfl (acons (qcall c_law_ones hr tk rfl (acons qstr (acons (qv (pv 6)) anil))) (acons qdnewK anil))) (acons (qcall c_law_told hr tk rfl (acons (qcall c_law_ones hr tk rfl (acons qstr (acons (qv (pv 6)) anil))) (acons qdnewK anil))) (acons (qcall c_law_told hr tk rfl (acons (qtup (acons qstr (acons qstr (acons (qmulT (qtup (acons (qcall c_law_ones hr tk rfl (acons qstr (acons qint anil))) anil)) (qv (pv 6))) anil)))) (acons qdnewK anil))) anil)))) hN)
 (scons (sasg 9 (qlst (acons (qtup (acons qstr (acons (qv (pv 6)) anil))) (acons (qtup (acons qstr (acons (qv (pv 6)) anil))) (acons (qtup (acons qstr (acons (qv (pv 6)) (acons qint anil)))) anil)))) hN)
 (scons (sif (tnot (tval (qcall c_law_same hr tk rfl (acons (qv (pv 8)) (acons (qlc1 (y := "kind") rfl hN (show blkC ["script", "draws", "names", "turn", "tree", "kept", "many", "fine", "told", "due", "kind", "one", "long", "power", "size", "form", "some", "rows", "columns", "wide"] (defScope (topS 41)) _ [("kind", 10)] = true by decide +kernel) (ilist (qv (pv 9))) (fun _ _ _ _ _ => gown 10 hN) (fun _ _ _ _ _ => ifs0) (fun _ _ _ _ _ => (qif (tval (qv (pv 7))) (qtup (acons qstr (acons (qv (pv 10)) anil))) (qtup (acons qstr (acons qstr anil)))))) anil)))))
 (sone (sret qbl))
 snil)
 (scons (sasg 11 (qadd qint (qcall c_law_draw hr tk rfl (acons (qv (pv 1)) (acons qint anil)))) hN)
 (scons (sasg 12 (qdct (prs_cons (qtup (acons qstr (acons (qv (pv 11)) anil))) (prs_cons (qtup (acons qstr (acons (qsub (qadd (qv (pv 6)) qint) (qv (pv 11))) anil))) prs_nil)) (by decide +kernel)) hN)
 (scons (sasg 13 (qadd qint (qcall c_law_draw hr tk rfl (acons (qv (pv 1)) (acons qint anil)))) hN)
 (scons (sasg 8 (qlst (acons (qcall c_law_told hr tk rfl (acons (qtup (acons qstr (acons (qtup (acons qstr (acons qstr anil))) (acons (qtup (acons qstr (acons qstr anil))) anil)))) (acons (qv (pv 12)) anil))) (acons (qcall c_law_told hr tk rfl (acons (qtup (acons qstr (acons (qtup (acons qstr (acons qstr anil))) (acons (qv (pv 13)) anil)))) (acons (qv (pv 12)) anil))) anil))) hN)
 (scons (sasg 14 (qadd (qmul (qsub (qv (pv 11)) qint) (qv (pv 13))) qint) hN)
 (scons (sif (tnot (tval (qcall c_law_same hr tk rfl (acons (qv (pv 8)) (acons (qlst (acons (qif (tval (qv (pv 7))) (qtup (acons qstr (acons (qtup (acons qstr (acons (qv (pv 6)) anil))) anil))) (qtup (acons qstr (acons qstr anil)))) (acons (qif (tle (qv (pv 14)) qint) (qtup (acons qstr (acons (qtup (acons qstr (acons (qv (pv 14)) anil))) anil))) (qtup (acons qstr (acons qstr anil)))) anil))) anil)))))
 (sone (sret qbl))
 snil)
 (scons (sasg 15 (qadd qint (qcall c_law_draw hr tk rfl (acons (qv (pv 1)) (acons qint anil)))) hN)
 (scons (sasg 16 (qdct (prs_cons (qtup (acons qstr (acons (qv (pv 15)) (acons qint anil)))) (prs_cons (qtup (acons qstr (acons qint (acons (qv (pv 15)) anil)))) (prs_cons (qtup (acons qstr (acons qint anil))) prs_nil))) (by decide +kernel)) hN)
 (scons (sasg 8 (qlst (acons (qcall c_law_told hr tk rfl (acons (qtup (acons qstr (acons qstr (acons (qtup (acons (qtup (acons qstr (acons qstr anil))) anil)) anil)))) (acons (qv (pv 16)) anil))) (acons (qcall c_law_told hr tk rfl (acons (qtup (acons qstr (acons qstr (acons (qtup (acons (qtup (acons qstr (acons qstr anil))) (acons (qtup (acons qstr (acons qstr anil))) anil))) anil)))) (acons (qv (pv 16)) anil))) anil))) hN)
 (scons (sif (tnot (tval (qcall c_law_same hr tk rfl (acons (qv (pv 8)) (acons (qif (tle (qv (pv 15)) qint) (qlst (acons (qtup (acons qstr (acons (qixG hr (qv (pv 16)) qstr) anil))) (acons (qtup (acons qstr (acons (qtup (acons qstr (acons qint (acons (qv (pv 15)) anil)))) anil))) anil))) (qmul (qlst (acons (qtup (acons qstr (acons qstr anil))) anil)) qint)) anil)))))
 (sone (sret qbl))
 snil)
 (scons (spar 17 18 (ps_par rfl hN rfl rfl (by decide) rfl rfl (acons (qadd qint (qcall c_law_draw hr tk rfl (acons (qv (pv 1)) (acons qint anil)))) (acons (qadd qint (qcall c_law_draw hr tk rfl (acons (qv (pv 1)) (acons qint anil)))) anil)) rfl) (fun _ _ _ h => h))
 (scons (sasg 19 (qdct (prs_cons (qtup (acons qstr (acons (qv (pv 17)) (acons (qv (pv 18)) anil)))) (prs_cons (qtup (acons qstr (acons (qv (pv 17)) (acons (qv (pv 17)) anil)))) (prs_cons (qtup (acons qstr (acons (qv (pv 17)) anil))) prs_nil))) (by decide +kernel)) hN)
 (scons (sasg 8 (qlst (acons (qcall c_law_told hr tk rfl (acons (qtup (acons qstr (acons qstr (acons (qtup (acons (qtup (acons qstr (acons qstr anil))) anil)) anil)))) (acons (qv (pv 19)) anil))) (acons (qcall c_law_told hr tk rfl (acons (qtup (acons qstr (acons qstr (acons (qtup (acons (qtup (acons qstr (acons qstr anil))) (acons (qtup (acons qstr (acons qstr anil))) anil))) anil)))) (acons (qv (pv 19)) anil))) anil))) hN)
 (scons (sasg 9 (qlst (acons (qif (PW.pt (tand (tle (qv (pv 17)) qint) (tand1 (tle (qv (pv 18)) qint)))) (qtup (acons qstr (acons (qixG hr (qv (pv 19)) qstr) anil))) (qtup (acons qstr (acons qstr anil)))) (acons (qif (tle (qv (pv 17)) qint) (qtup (acons qstr (acons (qtup (acons qstr (acons (qv (pv 17)) (acons (qv (pv 17)) anil)))) anil))) (qtup (acons qstr (acons qstr anil)))) anil))) hN)
 (sone (sret (qcall c_law_same hr tk rfl (acons (qv (pv 8)) (acons (qv (pv 9)) anil)))))))))))))))))))))))))))
end
end K03

set_option linter.all false
set_option maxRecDepth 100000
set_option maxHeartbeats 1000000
set_option hygiene false in
local macro_rules | `(tactic| dsimp? only [$ls,*]) => `(tactic| (simp only [$ls,*, p_s1, p_s2, p_s3, p_s4, p_s5, p_l1, p_l2, p_l3, p_l4, p_l5, p_t1, p_t2, p_t3, p_t4, p_t5, p_b1, p_b2, p_b5, e_some, e_onLst, e_onIns, ↓e_seq, e_seqK, ↓e_set, e_envK, ↓e_next, ↓e_expr, ↓e_ret, ↓e_retN, ↓e_break, ↓e_cont, ↓e_if, ↓e_par, ↓e_aug, e_asg, ↓e_raise, ↓e_gSubD, ↓e_gNm, ↓e_gTpl, ↓e_gNms0, ↓e_gNms, e_var, e_var0, e_varS, ↓e_c, ↓e_op, ↓e_b, ↓e_and, ↓e_or, ↓e_not, ↓e_yes, ↓e_andV, ↓e_orV, ↓e_notV, ↓e_chain, ↓e_ifE, ↓e_neg, ↓e_nil, ↓e_cons, ↓e_tup, ↓e_lst, ↓e_lstM, ↓e_fz, ↓e_fzP, ↓e_cb, ↓e_call, ↓e_meth, ↓e_mDisp, ↓e_make, ↓e_sl, ↓e_noP, ↓e_p, ↓e_fSlL, ↓e_fSlR, ↓e_fSlT, ↓e_rev, ↓e_revPL, ↓e_revPS, ↓e_revPR, ↓e_mt, e_asLx, ↓e_append, ↓e_fld, ↓e_fldP, ↓e_fldSet, ↓e_fsetP, ↓e_fldAug, ↓e_faugP, ↓e_augS, e_ixlM, ↓e_fIxL, ↓e_try, ↓e_xat, ↓e_xatP, ↓e_mkx, ↓e_xvat, ↓e_xvatP, ↓e_int, ↓e_int0, ↓e_addI, ↓e_addS, ↓e_addT, ↓e_addLL, ↓e_addRL, ↓e_addLR, ↓e_catMLL, ↓e_mulI, ↓e_mulL, ↓e_repM, ↓e_isN, ↓e_notN, ↓e_eqI, ↓e_eqS, ↓e_eqB, ↓e_neI, ↓e_neS, ↓e_neB, ↓e_ixL, ↓e_ixT, ↓e_ixS, ↓e_ixR, ↓e_lenL, ↓e_lenT, ↓e_lenSc, e_lenML, ↓e_lenR, ↓e_lenS, ↓e_max, ↓e_min, ↓e_intI, ↓e_intB, ↓e_strI, ↓e_strS, ↓e_listL, ↓e_listT, ↓e_listS, ↓e_listR, ↓e_listML, ↓e_tupleL, ↓e_tupleT, ↓e_tupleR, ↓e_divmod, ↓e_abs, ↓e_isi, e_ty0, e_ty1, e_ty2, e_ty3, e_ty4, e_ty5, e_ty6, e_asPl, e_asLl, e_asLs, e_asQl, e_asQt, e_asQs, e_asT, ↓e_put, e_putML, e_gt0, e_gt, e_st0, e_st, e_unst0, e_unst, e_nN0, e_nN1, e_nN2, e_nN3, e_nN4, e_nN5, ↓e_for, ↓e_iseq, ↓e_seqL, ↓e_seqS, ↓e_seqR, ↓e_itup, ↓e_tupP, ↓e_ir1, ↓e_r1P, ↓e_ir2, ↓e_r2P, ↓e_ir3, ↓e_r3P, ↓e_lc, ↓e_onFK, e_onDK, ↓e_kin, ↓e_kix, p_kinT, p_kinF, p_kix, ↓e_din, p_dinF, p_dinT, ↓e_ixGK, ↓e_dct, e_prs0, e_prsC, ↓e_gTpL, ↓e_lcX, ↓e_lcXM, ↓e_bN, ↓e_bT, ↓e_stN0, ↓e_stN1, ↓e_maxQ2, ↓e_mulT, ↓e_rev2, p_rev2, ↓e_var0, ↓e_varS, mup_same, mup_mup, g0, List.map_cons, List.map_nil, List.length_cons, List.length_nil, List.nil_append, List.cons_append, List.replicate, Nat.reduceSub, Nat.reduceAdd, Nat.sub_self, Nat.zero_add, decide_eq_true_eq, Bool.not_eq_true', decide_eq_false_iff_not, if_true, Bool.false_eq_true, if_false, LeG, and_true, true_and, reduceCtorEq, not_false_eq_true, not_true_eq_false, w_joined_t1, w_joined_t2, w_joined_t3, w_multiplied_t1, w_multiplied_t2, w_multiplied_t3, w_multiplied_t4, w_divided_t1, w_kind_of_two_t1, w_kind_of_call_t1, w_kind_of_call_t2, w_kind_of_call_t3, w_kind_of_call_t4, w_kind_of_call_t5, w_kind_of_call_t6, w_kind_of_call_t7, w_kind_of_call_t8, w_kind_of_form_t1, w_kind_of_form_t2, w_kind_of_form_t3, w_kind_of_form_t4, w_kind_of_form_t5, w_kind_of_form_t6, w_kind_of_form_t7, w_kind_of_form_t8, w_kind_of_form_t9, w_kind_of_t1, w_kind_of_t2, w_kind_of_t3, w_kind_of_t4, w_kind_of_t5, w_kind_of_t6, w_kind_of_t7, w_kind_of_t8, w_kind_of_t9, w_kind_of_t10, w_kind_of_t11, w_law_draw_t1, w_law_draw_t2, w_law_draw_t3, w_law_draw_t4, w_law_draw_t5, w_law_draw_t6, w_law_draw_t7, w_law_same_t1, w_law_same_t2, w_law_same_t3, w_law_same_t4, w_law_same_t5, w_law_same_t6, w_law_same_t7, w_law_copy_t1, w_law_copy_t2, w_law_copy_t3, w_law_kind_two_t1, w_law_kind_two_t2, w_law_kind_two_t3, w_law_kind_two_t4, w_law_kind_t1, w_law_kind_t2, w_law_kind_t3, w_law_kind_t4, w_law_kind_t5, w_law_kind_t6, w_law_kind_t7, w_law_kind_t8, w_law_kind_t9, w_law_kind_t10, w_law_kind_t11, w_law_kind_t12, w_law_kind_t13, w_law_named_t1, w_law_int_t1, w_law_int_t2, w_law_int_t3, w_law_int_t4, w_law_int_t5, w_law_int_t6, w_law_int_t7, w_law_int_t8, w_law_int_t9, w_law_int_t10, w_law_int_t11, w_law_int_t12, w_law_int_t13, w_law_int_t14, w_law_frac_t1, w_law_frac_t2, w_law_frac_t3, w_law_frac_t4, w_law_frac_t5, w_law_frac_t6, w_law_frac_t7, w_law_frac_t8, w_law_rest_t1, w_law_rest_t2, w_law_rest_t3, w_law_rest_t4, w_law_rest_t5, w_law_rest_t6, w_law_rest_t7, w_law_poly_t1, w_law_poly_t2, w_law_poly_t3, w_law_poly_t4, w_law_poly_t5, w_law_poly_t6, w_law_poly_t7, w_law_poly_t8, w_law_row_t1, w_law_row_t2, w_law_row_t3, w_law_row_t4, w_law_row_t5, w_law_row_t6, w_law_row_t7, w_law_table_t1, w_law_table_t2, w_law_table_t3, w_law_table_t4, w_law_table_t5, w_law_table_t6, w_law_table_t7, w_law_table_t8, w_law_table_t9, w_law_any_t1, w_law_any_t2, w_law_any_t3, w_law_any_t4, w_law_any_t5, w_law_t1, w_law_t2, w_law_t3, w_law_t4, w_law_t5, w_law_t6, w_law_t7, w_law_t8, w_law_t9, w_law_t10, w_law_t11, w_law_t12, w_law_t13, w_law_t14, w_law_t15, w_law_t16, w_law_t17, w_law_t18, w_law_t19, w_law_t20, w_law_t21, w_law_t22, w_law_t23, w_law_t24]))
set_option hygiene false in
local macro_rules | `(tactic| dsimp? only) => `(tactic| (simp only [p_s1, p_s2, p_s3, p_s4, p_s5, p_l1, p_l2, p_l3, p_l4, p_l5, p_t1, p_t2, p_t3, p_t4, p_t5, p_b1, p_b2, p_b5, e_some, e_onLst, e_onIns, ↓e_seq, e_seqK, ↓e_set, e_envK, ↓e_next, ↓e_expr, ↓e_ret, ↓e_retN, ↓e_break, ↓e_cont, ↓e_if, ↓e_par, ↓e_aug, e_asg, ↓e_raise, ↓e_gSubD, ↓e_gNm, ↓e_gTpl, ↓e_gNms0, ↓e_gNms, e_var, e_var0, e_varS, ↓e_c, ↓e_op, ↓e_b, ↓e_and, ↓e_or, ↓e_not, ↓e_yes, ↓e_andV, ↓e_orV, ↓e_notV, ↓e_chain, ↓e_ifE, ↓e_neg, ↓e_nil, ↓e_cons, ↓e_tup, ↓e_lst, ↓e_lstM, ↓e_fz, ↓e_fzP, ↓e_cb, ↓e_call, ↓e_meth, ↓e_mDisp, ↓e_make, ↓e_sl, ↓e_noP, ↓e_p, ↓e_fSlL, ↓e_fSlR, ↓e_fSlT, ↓e_rev, ↓e_revPL, ↓e_revPS, ↓e_revPR, ↓e_mt, e_asLx, ↓e_append, ↓e_fld, ↓e_fldP, ↓e_fldSet, ↓e_fsetP, ↓e_fldAug, ↓e_faugP, ↓e_augS, e_ixlM, ↓e_fIxL, ↓e_try, ↓e_xat, ↓e_xatP, ↓e_mkx, ↓e_xvat, ↓e_xvatP, ↓e_int, ↓e_int0, ↓e_addI, ↓e_addS, ↓e_addT, ↓e_addLL, ↓e_addRL, ↓e_addLR, ↓e_catMLL, ↓e_mulI, ↓e_mulL, ↓e_repM, ↓e_isN, ↓e_notN, ↓e_eqI, ↓e_eqS, ↓e_eqB, ↓e_neI, ↓e_neS, ↓e_neB, ↓e_ixL, ↓e_ixT, ↓e_ixS, ↓e_ixR, ↓e_lenL, ↓e_lenT, ↓e_lenSc, e_lenML, ↓e_lenR, ↓e_lenS, ↓e_max, ↓e_min, ↓e_intI, ↓e_intB, ↓e_strI, ↓e_strS, ↓e_listL, ↓e_listT, ↓e_listS, ↓e_listR, ↓e_listML, ↓e_tupleL, ↓e_tupleT, ↓e_tupleR, ↓e_divmod, ↓e_abs, ↓e_isi, e_ty0, e_ty1, e_ty2, e_ty3, e_ty4, e_ty5, e_ty6, e_asPl, e_asLl, e_asLs, e_asQl, e_asQt, e_asQs, e_asT, ↓e_put, e_putML, e_gt0, e_gt, e_st0, e_st, e_unst0, e_unst, e_nN0, e_nN1, e_nN2, e_nN3, e_nN4, e_nN5, ↓e_for, ↓e_iseq, ↓e_seqL, ↓e_seqS, ↓e_seqR, ↓e_itup, ↓e_tupP, ↓e_ir1, ↓e_r1P, ↓e_ir2, ↓e_r2P, ↓e_ir3, ↓e_r3P, ↓e_lc, ↓e_onFK, e_onDK, ↓e_kin, ↓e_kix, p_kinT, p_kinF, p_kix, ↓e_din, p_dinF, p_dinT, ↓e_ixGK, ↓e_dct, e_prs0, e_prsC, ↓e_gTpL, ↓e_lcX, ↓e_lcXM, ↓e_bN, ↓e_bT, ↓e_stN0, ↓e_stN1, ↓e_maxQ2, ↓e_mulT, ↓e_rev2, p_rev2, ↓e_var0, ↓e_varS, mup_same, mup_mup, g0, List.map_cons, List.map_nil, List.length_cons, List.length_nil, List.nil_append, List.cons_append, List.replicate, Nat.reduceSub, Nat.reduceAdd, Nat.sub_self, Nat.zero_add, decide_eq_true_eq, Bool.not_eq_true', decide_eq_false_iff_not, if_true, Bool.false_eq_true, if_false, LeG, and_true, true_and, reduceCtorEq, not_false_eq_true, not_true_eq_false, w_joined_t1, w_joined_t2, w_joined_t3, w_multiplied_t1, w_multiplied_t2, w_multiplied_t3, w_multiplied_t4, w_divided_t1, w_kind_of_two_t1, w_kind_of_call_t1, w_kind_of_call_t2, w_kind_of_call_t3, w_kind_of_call_t4, w_kind_of_call_t5, w_kind_of_call_t6, w_kind_of_call_t7, w_kind_of_call_t8, w_kind_of_form_t1, w_kind_of_form_t2, w_kind_of_form_t3, w_kind_of_form_t4, w_kind_of_form_t5, w_kind_of_form_t6, w_kind_of_form_t7, w_kind_of_form_t8, w_kind_of_form_t9, w_kind_of_t1, w_kind_of_t2, w_kind_of_t3, w_kind_of_t4, w_kind_of_t5, w_kind_of_t6, w_kind_of_t7, w_kind_of_t8, w_kind_of_t9, w_kind_of_t10, w_kind_of_t11, w_law_draw_t1, w_law_draw_t2, w_law_draw_t3, w_law_draw_t4, w_law_draw_t5, w_law_draw_t6, w_law_draw_t7, w_law_same_t1, w_law_same_t2, w_law_same_t3, w_law_same_t4, w_law_same_t5, w_law_same_t6, w_law_same_t7, w_law_copy_t1, w_law_copy_t2, w_law_copy_t3, w_law_kind_two_t1, w_law_kind_two_t2, w_law_kind_two_t3, w_law_kind_two_t4, w_law_kind_t1, w_law_kind_t2, w_law_kind_t3, w_law_kind_t4, w_law_kind_t5, w_law_kind_t6, w_law_kind_t7, w_law_kind_t8, w_law_kind_t9, w_law_kind_t10, w_law_kind_t11, w_law_kind_t12, w_law_kind_t13, w_law_named_t1, w_law_int_t1, w_law_int_t2, w_law_int_t3, w_law_int_t4, w_law_int_t5, w_law_int_t6, w_law_int_t7, w_law_int_t8, w_law_int_t9, w_law_int_t10, w_law_int_t11, w_law_int_t12, w_law_int_t13, w_law_int_t14, w_law_frac_t1, w_law_frac_t2, w_law_frac_t3, w_law_frac_t4, w_law_frac_t5, w_law_frac_t6, w_law_frac_t7, w_law_frac_t8, w_law_rest_t1, w_law_rest_t2, w_law_rest_t3, w_law_rest_t4, w_law_rest_t5, w_law_rest_t6, w_law_rest_t7, w_law_poly_t1, w_law_poly_t2, w_law_poly_t3, w_law_poly_t4, w_law_poly_t5, w_law_poly_t6, w_law_poly_t7, w_law_poly_t8, w_law_row_t1, w_law_row_t2, w_law_row_t3, w_law_row_t4, w_law_row_t5, w_law_row_t6, w_law_row_t7, w_law_table_t1, w_law_table_t2, w_law_table_t3, w_law_table_t4, w_law_table_t5, w_law_table_t6, w_law_table_t7, w_law_table_t8, w_law_table_t9, w_law_any_t1, w_law_any_t2, w_law_any_t3, w_law_any_t4, w_law_any_t5, w_law_t1, w_law_t2, w_law_t3, w_law_t4, w_law_t5, w_law_t6, w_law_t7, w_law_t8, w_law_t9, w_law_t10, w_law_t11, w_law_t12, w_law_t13, w_law_t14, w_law_t15, w_law_t16, w_law_t17, w_law_t18, w_law_t19, w_law_t20, w_law_t21, w_law_t22, w_law_t23, w_law_t24]))
set_option hygiene false in
local macro_rules | `(tactic| simp? only [$ls,*]) => `(tactic| (simp only [$ls,*, p_s1, p_s2, p_s3, p_s4, p_s5, p_l1, p_l2, p_l3, p_l4, p_l5, p_t1, p_t2, p_t3, p_t4, p_t5, p_b1, p_b2, p_b5, e_some, e_onLst, e_onIns, ↓e_seq, ↓e_set, e_envK, ↓e_next, ↓e_expr, ↓e_ret, ↓e_retN, ↓e_break, ↓e_cont, ↓e_if, ↓e_par, ↓e_aug, e_asg, ↓e_raise, ↓e_gSubD, ↓e_gNm, ↓e_gTpl, ↓e_gNms0, ↓e_gNms, e_var, e_var0, e_varS, ↓e_c, ↓e_op, ↓e_b, ↓e_and, ↓e_or, ↓e_not, ↓e_yes, ↓e_andV, ↓e_orV, ↓e_notV, ↓e_chain, ↓e_ifE, ↓e_neg, ↓e_nil, ↓e_cons, ↓e_tup, ↓e_lst, ↓e_lstM, ↓e_fz, ↓e_fzP, ↓e_cb, ↓e_call, ↓e_meth, ↓e_mDisp, ↓e_make, ↓e_sl, ↓e_noP, ↓e_p, ↓e_fSlL, ↓e_fSlR, ↓e_fSlT, ↓e_rev, ↓e_revPL, ↓e_revPS, ↓e_revPR, ↓e_mt, e_asLx, ↓e_append, ↓e_fld, ↓e_fldP, ↓e_fldSet, ↓e_fsetP, ↓e_fldAug, ↓e_faugP, ↓e_augS, e_ixlM, ↓e_fIxL, ↓e_try, ↓e_xat, ↓e_xatP, ↓e_mkx, ↓e_xvat, ↓e_xvatP, ↓e_int, ↓e_int0, ↓e_addI, ↓e_addS, ↓e_addT, ↓e_addLL, ↓e_addRL, ↓e_addLR, ↓e_catMLL, ↓e_mulI, ↓e_mulL, ↓e_repM, ↓e_isN, ↓e_notN, ↓e_eqI, ↓e_eqS, ↓e_eqB, ↓e_neI, ↓e_neS, ↓e_neB, ↓e_ixL, ↓e_ixT, ↓e_ixS, ↓e_ixR, ↓e_lenL, ↓e_lenT, ↓e_lenSc, e_lenML, ↓e_lenR, ↓e_lenS, ↓e_max, ↓e_min, ↓e_intI, ↓e_intB, ↓e_strI, ↓e_strS, ↓e_listL, ↓e_listT, ↓e_listS, ↓e_listR, ↓e_listML, ↓e_tupleL, ↓e_tupleT, ↓e_tupleR, ↓e_divmod, ↓e_abs, ↓e_isi, e_ty0, e_ty1, e_ty2, e_ty3, e_ty4, e_ty5, e_ty6, e_asPl, e_asLl, e_asLs, e_asQl, e_asQt, e_asQs, e_asT, ↓e_put, e_putML, e_gt0, e_gt, e_st0, e_st, e_unst0, e_unst, e_nN0, e_nN1, e_nN2, e_nN3, e_nN4, e_nN5, ↓e_for, ↓e_iseq, ↓e_seqL, ↓e_seqS, ↓e_seqR, ↓e_itup, ↓e_tupP, ↓e_ir1, ↓e_r1P, ↓e_ir2, ↓e_r2P, ↓e_ir3, ↓e_r3P, ↓e_lc, ↓e_onFK, e_onDK, ↓e_kin, ↓e_kix, p_kinT, p_kinF, p_kix, ↓e_din, p_dinF, p_dinT, ↓e_ixGK, ↓e_dct, e_prs0, e_prsC, ↓e_gTpL, ↓e_lcX, ↓e_lcXM, ↓e_bN, ↓e_bT, ↓e_stN0, ↓e_stN1, ↓e_maxQ2, ↓e_mulT, ↓e_rev2, p_rev2, ↓e_var0, ↓e_varS, mup_same, mup_mup, g0, List.map_cons, List.map_nil, List.length_cons, List.length_nil, List.nil_append, List.cons_append, List.replicate, Nat.reduceSub, Nat.reduceAdd, Nat.sub_self, Nat.zero_add, decide_eq_true_eq, Bool.not_eq_true', decide_eq_false_iff_not, if_true, Bool.false_eq_true, if_false, LeG, and_true, true_and, reduceCtorEq, not_false_eq_true, not_true_eq_false]))
set_option hygiene false in
local macro_rules | `(tactic| simp? only) => `(tactic| (simp only [p_s1, p_s2, p_s3, p_s4, p_s5, p_l1, p_l2, p_l3, p_l4, p_l5, p_t1, p_t2, p_t3, p_t4, p_t5, p_b1, p_b2, p_b5, e_some, e_onLst, e_onIns, ↓e_seq, ↓e_set, e_envK, ↓e_next, ↓e_expr, ↓e_ret, ↓e_retN, ↓e_break, ↓e_cont, ↓e_if, ↓e_par, ↓e_aug, e_asg, ↓e_raise, ↓e_gSubD, ↓e_gNm, ↓e_gTpl, ↓e_gNms0, ↓e_gNms, e_var, e_var0, e_varS, ↓e_c, ↓e_op, ↓e_b, ↓e_and, ↓e_or, ↓e_not, ↓e_yes, ↓e_andV, ↓e_orV, ↓e_notV, ↓e_chain, ↓e_ifE, ↓e_neg, ↓e_nil, ↓e_cons, ↓e_tup, ↓e_lst, ↓e_lstM, ↓e_fz, ↓e_fzP, ↓e_cb, ↓e_call, ↓e_meth, ↓e_mDisp, ↓e_make, ↓e_sl, ↓e_noP, ↓e_p, ↓e_fSlL, ↓e_fSlR, ↓e_fSlT, ↓e_rev, ↓e_revPL, ↓e_revPS, ↓e_revPR, ↓e_mt, e_asLx, ↓e_append, ↓e_fld, ↓e_fldP, ↓e_fldSet, ↓e_fsetP, ↓e_fldAug, ↓e_faugP, ↓e_augS, e_ixlM, ↓e_fIxL, ↓e_try, ↓e_xat, ↓e_xatP, ↓e_mkx, ↓e_xvat, ↓e_xvatP, ↓e_int, ↓e_int0, ↓e_addI, ↓e_addS, ↓e_addT, ↓e_addLL, ↓e_addRL, ↓e_addLR, ↓e_catMLL, ↓e_mulI, ↓e_mulL, ↓e_repM, ↓e_isN, ↓e_notN, ↓e_eqI, ↓e_eqS, ↓e_eqB, ↓e_neI, ↓e_neS, ↓e_neB, ↓e_ixL, ↓e_ixT, ↓e_ixS, ↓e_ixR, ↓e_lenL, ↓e_lenT, ↓e_lenSc, e_lenML, ↓e_lenR, ↓e_lenS, ↓e_max, ↓e_min, ↓e_intI, ↓e_intB, ↓e_strI, ↓e_strS, ↓e_listL, ↓e_listT, ↓e_listS, ↓e_listR, ↓e_listML, ↓e_tupleL, ↓e_tupleT, ↓e_tupleR, ↓e_divmod, ↓e_abs, ↓e_isi, e_ty0, e_ty1, e_ty2, e_ty3, e_ty4, e_ty5, e_ty6, e_asPl, e_asLl, e_asLs, e_asQl, e_asQt, e_asQs, e_asT, ↓e_put, e_putML, e_gt0, e_gt, e_st0, e_st, e_unst0, e_unst, e_nN0, e_nN1, e_nN2, e_nN3, e_nN4, e_nN5, ↓e_for, ↓e_iseq, ↓e_seqL, ↓e_seqS, ↓e_seqR, ↓e_itup, ↓e_tupP, ↓e_ir1, ↓e_r1P, ↓e_ir2, ↓e_r2P, ↓e_ir3, ↓e_r3P, ↓e_lc, ↓e_onFK, e_onDK, ↓e_kin, ↓e_kix, p_kinT, p_kinF, p_kix, ↓e_din, p_dinF, p_dinT, ↓e_ixGK, ↓e_dct, e_prs0, e_prsC, ↓e_gTpL, ↓e_lcX, ↓e_lcXM, ↓e_bN, ↓e_bT, ↓e_stN0, ↓e_stN1, ↓e_maxQ2, ↓e_mulT, ↓e_rev2, p_rev2, ↓e_var0, ↓e_varS, mup_same, mup_mup, g0, List.map_cons, List.map_nil, List.length_cons, List.length_nil, List.nil_append, List.cons_append, List.replicate, Nat.reduceSub, Nat.reduceAdd, Nat.sub_self, Nat.zero_add, decide_eq_true_eq, Bool.not_eq_true', decide_eq_false_iff_not, if_true, Bool.false_eq_true, if_false, LeG, and_true, true_and, reduceCtorEq, not_false_eq_true, not_true_eq_false]))
set_option hygiene false in
local macro_rules | `(tactic| simp_all? only [$ls,*]) => `(tactic| ((try subst hu); show seqK _ _ _ _; rw [e_seqK]; (first | (show wSeq _ _ _ _ _; refine gen_u fun u hu => ?_) | (show wRet _ _ _ _) | (show wIf _ _ _ _ _ _) | skip); simp only [$ls,*, p_s1, p_s2, p_s3, p_s4, p_s5, p_l1, p_l2, p_l3, p_l4, p_l5, p_t1, p_t2, p_t3, p_t4, p_t5, p_b1, p_b2, p_b5, e_some, e_onLst, e_onIns, ↓e_seq, ↓e_set, e_envK, ↓e_next, ↓e_expr, ↓e_ret, ↓e_retN, ↓e_break, ↓e_cont, ↓e_if, ↓e_par, ↓e_aug, e_asg, ↓e_raise, ↓e_gSubD, ↓e_gNm, ↓e_gTpl, ↓e_gNms0, ↓e_gNms, e_var, e_var0, e_varS, ↓e_c, ↓e_op, ↓e_b, ↓e_and, ↓e_or, ↓e_not, ↓e_yes, ↓e_andV, ↓e_orV, ↓e_notV, ↓e_chain, ↓e_ifE, ↓e_neg, ↓e_nil, ↓e_cons, ↓e_tup, ↓e_lst, ↓e_lstM, ↓e_fz, ↓e_fzP, ↓e_cb, ↓e_call, ↓e_meth, ↓e_mDisp, ↓e_make, ↓e_sl, ↓e_noP, ↓e_p, ↓e_fSlL, ↓e_fSlR, ↓e_fSlT, ↓e_rev, ↓e_revPL, ↓e_revPS, ↓e_revPR, ↓e_mt, e_asLx, ↓e_append, ↓e_fld, ↓e_fldP, ↓e_fldSet, ↓e_fsetP, ↓e_fldAug, ↓e_faugP, ↓e_augS, e_ixlM, ↓e_fIxL, ↓e_try, ↓e_xat, ↓e_xatP, ↓e_mkx, ↓e_xvat, ↓e_xvatP, ↓e_int, ↓e_int0, ↓e_addI, ↓e_addS, ↓e_addT, ↓e_addLL, ↓e_addRL, ↓e_addLR, ↓e_catMLL, ↓e_mulI, ↓e_mulL, ↓e_repM, ↓e_isN, ↓e_notN, ↓e_eqI, ↓e_eqS, ↓e_eqB, ↓e_neI, ↓e_neS, ↓e_neB, ↓e_ixL, ↓e_ixT, ↓e_ixS, ↓e_ixR, ↓e_lenL, ↓e_lenT, ↓e_lenSc, e_lenML, ↓e_lenR, ↓e_lenS, ↓e_max, ↓e_min, ↓e_intI, ↓e_intB, ↓e_strI, ↓e_strS, ↓e_listL, ↓e_listT, ↓e_listS, ↓e_listR, ↓e_listML, ↓e_tupleL, ↓e_tupleT, ↓e_tupleR, ↓e_divmod, ↓e_abs, ↓e_isi, e_ty0, e_ty1, e_ty2, e_ty3, e_ty4, e_ty5, e_ty6, e_asPl, e_asLl, e_asLs, e_asQl, e_asQt, e_asQs, e_asT, ↓e_put, e_putML, e_gt0, e_gt, e_st0, e_st, e_unst0, e_unst, e_nN0, e_nN1, e_nN2, e_nN3, e_nN4, e_nN5, ↓e_for, ↓e_iseq, ↓e_seqL, ↓e_seqS, ↓e_seqR, ↓e_itup, ↓e_tupP, ↓e_ir1, ↓e_r1P, ↓e_ir2, ↓e_r2P, ↓e_ir3, ↓e_r3P, ↓e_lc, ↓e_onFK, e_onDK, ↓e_kin, ↓e_kix, p_kinT, p_kinF, p_kix, ↓e_din, p_dinF, p_dinT, ↓e_ixGK, ↓e_dct, e_prs0, e_prsC, ↓e_gTpL, ↓e_lcX, ↓e_lcXM, ↓e_bN, ↓e_bT, ↓e_stN0, ↓e_stN1, ↓e_maxQ2, ↓e_mulT, ↓e_rev2, p_rev2, ↓e_var0, ↓e_varS, mup_same, mup_mup, g0, List.map_cons, List.map_nil, List.length_cons, List.length_nil, List.nil_append, List.cons_append, List.replicate, Nat.reduceSub, Nat.reduceAdd, Nat.sub_self, Nat.zero_add, decide_eq_true_eq, Bool.not_eq_true', decide_eq_false_iff_not, if_true, Bool.false_eq_true, if_false, LeG, and_true, true_and, reduceCtorEq, not_false_eq_true, not_true_eq_false]))
set_option hygiene false in
local macro_rules | `(tactic| simp_all? only) => `(tactic| ((try subst hu); show seqK _ _ _ _; rw [e_seqK]; (first | (show wSeq _ _ _ _ _; refine gen_u fun u hu => ?_) | (show wRet _ _ _ _) | (show wIf _ _ _ _ _ _) | skip); simp only [p_s1, p_s2, p_s3, p_s4, p_s5, p_l1, p_l2, p_l3, p_l4, p_l5, p_t1, p_t2, p_t3, p_t4, p_t5, p_b1, p_b2, p_b5, e_some, e_onLst, e_onIns, ↓e_seq, ↓e_set, e_envK, ↓e_next, ↓e_expr, ↓e_ret, ↓e_retN, ↓e_break, ↓e_cont, ↓e_if, ↓e_par, ↓e_aug, e_asg, ↓e_raise, ↓e_gSubD, ↓e_gNm, ↓e_gTpl, ↓e_gNms0, ↓e_gNms, e_var, e_var0, e_varS, ↓e_c, ↓e_op, ↓e_b, ↓e_and, ↓e_or, ↓e_not, ↓e_yes, ↓e_andV, ↓e_orV, ↓e_notV, ↓e_chain, ↓e_ifE, ↓e_neg, ↓e_nil, ↓e_cons, ↓e_tup, ↓e_lst, ↓e_lstM, ↓e_fz, ↓e_fzP, ↓e_cb, ↓e_call, ↓e_meth, ↓e_mDisp, ↓e_make, ↓e_sl, ↓e_noP, ↓e_p, ↓e_fSlL, ↓e_fSlR, ↓e_fSlT, ↓e_rev, ↓e_revPL, ↓e_revPS, ↓e_revPR, ↓e_mt, e_asLx, ↓e_append, ↓e_fld, ↓e_fldP, ↓e_fldSet, ↓e_fsetP, ↓e_fldAug, ↓e_faugP, ↓e_augS, e_ixlM, ↓e_fIxL, ↓e_try, ↓e_xat, ↓e_xatP, ↓e_mkx, ↓e_xvat, ↓e_xvatP, ↓e_int, ↓e_int0, ↓e_addI, ↓e_addS, ↓e_addT, ↓e_addLL, ↓e_addRL, ↓e_addLR, ↓e_catMLL, ↓e_mulI, ↓e_mulL, ↓e_repM, ↓e_isN, ↓e_notN, ↓e_eqI, ↓e_eqS, ↓e_eqB, ↓e_neI, ↓e_neS, ↓e_neB, ↓e_ixL, ↓e_ixT, ↓e_ixS, ↓e_ixR, ↓e_lenL, ↓e_lenT, ↓e_lenSc, e_lenML, ↓e_lenR, ↓e_lenS, ↓e_max, ↓e_min, ↓e_intI, ↓e_intB, ↓e_strI, ↓e_strS, ↓e_listL, ↓e_listT, ↓e_listS, ↓e_listR, ↓e_listML, ↓e_tupleL, ↓e_tupleT, ↓e_tupleR, ↓e_divmod, ↓e_abs, ↓e_isi, e_ty0, e_ty1, e_ty2, e_ty3, e_ty4, e_ty5, e_ty6, e_asPl, e_asLl, e_asLs, e_asQl, e_asQt, e_asQs, e_asT, ↓e_put, e_putML, e_gt0, e_gt, e_st0, e_st, e_unst0, e_unst, e_nN0, e_nN1, e_nN2, e_nN3, e_nN4, e_nN5, ↓e_for, ↓e_iseq, ↓e_seqL, ↓e_seqS, ↓e_seqR, ↓e_itup, ↓e_tupP, ↓e_ir1, ↓e_r1P, ↓e_ir2, ↓e_r2P, ↓e_ir3, ↓e_r3P, ↓e_lc, ↓e_onFK, e_onDK, ↓e_kin, ↓e_kix, p_kinT, p_kinF, p_kix, ↓e_din, p_dinF, p_dinT, ↓e_ixGK, ↓e_dct, e_prs0, e_prsC, ↓e_gTpL, ↓e_lcX, ↓e_lcXM, ↓e_bN, ↓e_bT, ↓e_stN0, ↓e_stN1, ↓e_maxQ2, ↓e_mulT, ↓e_rev2, p_rev2, ↓e_var0, ↓e_varS, mup_same, mup_mup, g0, List.map_cons, List.map_nil, List.length_cons, List.length_nil, List.nil_append, List.cons_append, List.replicate, Nat.reduceSub, Nat.reduceAdd, Nat.sub_self, Nat.zero_add, decide_eq_true_eq, Bool.not_eq_true', decide_eq_false_iff_not, if_true, Bool.false_eq_true, if_false, LeG, and_true, true_and, reduceCtorEq, not_false_eq_true, not_true_eq_false]))
namespace K03
open PySem PySem.Spec PyProof.Rows L2 DL K04
section
variable {AD : Ads} {ds : List D} {M : Mem} {R : DK} {RX : DX}
/-- an answer of the kinds: told, or refused with its word -/
def onX (AD : Ads) (x : Ex Kd) (M : Mem) (R : DK) (RX : DX) : Prop := match x with
  | .ok k => R k.d M
  | .error e => RX AD.Wrong (.str e) M
def fs_need (AD : Ads) : FS := fun ds M R RX => ∃ b : Bool, ds = [.bl b] ∧ if b = true then R .non M else RX AD.Wrong (.str "kind") M
theorem ok_need (h : fs_need AD ds M R RX) : w_need AD (bodyEnds R RX) (g0 1 ds) M := by
  obtain ⟨b, rfl, h⟩ := h
  dsimp? only [w_need]
  cases b with
  | true => simp at h ⊢; exact Up.of h
  | false => simp at h ⊢; exact Up.of h
def fs_long_enough (AD : Ads) : FS := fun ds M R RX => ∃ m : Int, ds = [.int m] ∧ if 1 ≤ m ∧ m ≤ 40 then R (.int m) M else RX AD.Wrong (.str "long") M
theorem ok_long_enough (h : fs_long_enough AD ds M R RX) : w_long_enough AD (bodyEnds R RX) (g0 1 ds) M := by
  obtain ⟨m, rfl, h⟩ := h
  dsimp? only [w_long_enough]
  by_cases h1 : 1 ≤ m <;> by_cases h2 : m ≤ 40 <;> simp [h1, h2] at h ⊢ <;> exact Up.of h
def fs_written (AD : Ads) : FS := fun ds M R RX => ∃ (t : Tr) (lo hi : Int), ds = [t.d, .int lo, .int hi] ∧ match writtenT t lo hi with
  | .ok n => R (.int n) M
  | .error e => RX AD.Wrong (.str e) M
theorem ok_written (h : fs_written AD ds M R RX) : w_written AD (bodyEnds R RX) (g0 3 ds) M := by
  obtain ⟨t, lo, hi, rfl, h⟩ := h
  cases t
  all_goals
    simp only [Tr.d]
    dsimp? only [w_written, e_at0, e_at1, e_neS, e_ofStr, String.reduceEq, decide_true, decide_false, Bool.not_true, Bool.not_false]
  case int n => by_cases h1 : lo ≤ n <;> by_cases h2 : n ≤ hi <;> simp [writtenT, h1, h2] at h ⊢ <;> exact Up.of h
  case two o a b =>
    rw [if_pos (by rw [K04.op_ne (by simp)]; simp)]
    exact Up.of h
  all_goals exact Up.of h
def fs_joined : FS := fun ds M R RX => ∃ a b : Kd, ds = [a.d, b.d] ∧ R (od (joined a b)) M
theorem ok_joined (h : fs_joined ds M R RX) : w_joined (bodyEnds R RX) (g0 3 ds) M := by
  obtain ⟨a, b, rfl, h⟩ := h
  dsimp? only [w_joined, e_eqK, e_k0, e_k1, e_k2, e_inS3, k_int, k_frac]
  revert h
  cases a <;> cases b <;> simp [joined, Kd.w, e_ofStr, Kd.i1, e_some, od_ite, od_some, od_none] <;> intro h <;> first | exact Up.of h | (split <;> rename_i hc <;> first | (rw [if_pos hc] at h; exact Up.of h) | (rw [if_neg hc] at h; exact Up.of h))
def fs_multiplied (AD : Ads) : FS := fun ds M R RX => ∃ a b : Kd, ds = [a.d, b.d] ∧ match multiplied a b with
  | .ok r => R (od r) M
  | .error e => RX AD.Wrong (.str e) M
theorem ok_multiplied (h : fs_multiplied AD ds M R RX) : w_multiplied (fs_long_enough AD) fs_joined (bodyEnds R RX) (g0 2 ds) M := by
  obtain ⟨a, b, rfl, h⟩ := h
  dsimp? only [w_multiplied, e_eqK, e_k0, e_k1, e_k2, e_inS2, k_int, k_frac, k_row]
  cases a <;> cases b <;> simp [multiplied, Kd.w, e_ofStr, Kd.i1, Kd.i2, e_some, od_ite, od_some, od_none] at h ⊢
  all_goals first
    | exact Up.of h
    | exact ⟨_, _, rfl, Up.of h⟩
    | (refine ⟨_, rfl, ?_⟩; split <;> rename_i hc <;> first | (rw [if_pos hc] at h; exact Up.of h) | (rw [if_neg hc] at h; exact Up.of h))
    | (split <;> rename_i hc <;> first | (rw [if_pos hc] at h; exact Up.of h) | (rw [if_neg hc] at h; exact Up.of h))
    | trace_state
def fs_divided : FS := fun ds M R RX => ∃ a b : Kd, ds = [a.d, b.d] ∧ R (od (divided a b)) M
theorem ok_divided (h : fs_divided ds M R RX) : w_divided fs_joined (bodyEnds R RX) (g0 2 ds) M := by
  obtain ⟨a, b, rfl, h⟩ := h
  dsimp? only [w_divided, e_eqK, e_k0, e_k1, e_k2, e_inS2, e_inK2, k_int, k_frac]
  cases a <;> cases b <;> simp [divided, Kd.w, e_ofStr, od_some, od_none] at h ⊢
  all_goals first
    | exact Up.of h
    | exact ⟨_, _, rfl, Up.of h⟩
    | trace_state
theorem need_t {Q : DK} {QX : DX} (h : Q .non M) : fs_need AD [.bl true] M Q QX := ⟨true, rfl, by simpa using h⟩
theorem need_f {Q : DK} {QX : DX} (h : QX AD.Wrong (.str "kind") M) : fs_need AD [.bl false] M Q QX := ⟨false, rfl, by simpa using h⟩
theorem need_d {Q : DK} {QX : DX} {c : Prop} [Decidable c] (h1 : c → Q .non M) (h2 : ¬c → QX AD.Wrong (.str "kind") M) : fs_need AD [.bl (decide c)] M Q QX := by
  by_cases hc : c
  · rw [decide_eq_true hc]; exact need_t (h1 hc)
  · rw [decide_eq_false hc]; exact need_f (h2 hc)
theorem isNon_kd (k : Kd) : DL.isNon k.d = false := by cases k <;> rfl
theorem needO_ok {r : Option Kd} (h : onX AD (needO r) M R RX) : fs_need AD [.bl (!DL.isNon (od r))] M (fun _ M1 => Up (R (od r)) M1) (fun c d M1 => Up (RX c d) M1) := by
  cases r with
  | none => exact need_f (Up.of h)
  | some k => rw [od_some, isNon_kd]; exact need_t (Up.of h)
theorem if_split {c : Prop} [Decidable c] {P Q : Prop} (h1 : c → P) (h2 : ¬c → Q) : if c then P else Q := by split; exact h1 ‹_›; exact h2 ‹_›
def fs_kind_of_two (AD : Ads) : FS := fun ds M R RX => ∃ (o : Op) (a b : Kd), ds = [.str o.w, a.d, b.d] ∧ onX AD (twoK o a b) M R RX
theorem ok_kind_of_two (h : fs_kind_of_two AD ds M R RX) : w_kind_of_two fs_joined (fs_multiplied AD) fs_divided (fs_need AD) (bodyEnds R RX) (g0 4 ds) M := by
  obtain ⟨o, a, b, rfl, h⟩ := h
  cases o
  all_goals
    dsimp? only [w_kind_of_two, e_eqK, e_inS2, k_int, Op.w, e_ofStr, String.reduceEq, decide_true, decide_false, Bool.or_false, Bool.or_true, Bool.true_or, Bool.false_or]
  case add => exact ⟨a, b, rfl, needO_ok h⟩
  case sub => exact ⟨a, b, rfl, needO_ok h⟩
  case div => exact ⟨a, b, rfl, needO_ok h⟩
  case mul =>
    refine ⟨a, b, rfl, ?_⟩
    unfold twoK at h
    split
    · rename_i r e
      rw [e] at h
      exact needO_ok h
    · rename_i e1 e
      rw [e] at h
      exact Up.of h
  all_goals
    unfold twoK at h
    by_cases h1 : a = .int
    · by_cases h2 : b = .int
      · simp [h1, h2, isNon_kd] at h ⊢
        exact need_t (Up.of h)
      · simp [h1, h2] at h ⊢
        exact need_f (Up.of h)
    · simp [h1] at h ⊢
      exact need_f (Up.of h)
def fs_short_enough (AD : Ads) : FS := fun ds M R RX => ∃ (r c most : Int) (k : Kd), ds = [k.d, .int most] ∧ k.i1 = some r ∧ k.i2 = some c ∧ onX AD (shortK r c most k) M R RX
theorem ok_short_enough (h : fs_short_enough AD ds M R RX) : w_short_enough AD (bodyEnds R RX) (g0 2 ds) M := by
  obtain ⟨r, c, most, k, rfl, h1, h2, h⟩ := h
  dsimp? only [w_short_enough, e_k1, e_k2, h1, h2]
  unfold shortK at h
  by_cases g1 : most < r <;> by_cases g2 : most < c <;> simp [g1, g2] at h ⊢ <;> exact Up.of h
/-- a form with kinds of its row -/
inductive FormOk : Str → List Tr → List Kd → Prop
  | gcd (t u) : FormOk "gcd" [t, u] [.int, .int] | root (t u) : FormOk "root" [t, u] [.int, .int] | power (t u v) : FormOk "power" [t, u, v] [.int, .int, .int]
  | dot (t u n m) : FormOk "dot" [t, u] [.row n, .row m] | item (t u n) : FormOk "item" [t, u] [.row n, .int] | at_ (t u n) : FormOk "at" [t, u] [.poly n, .int]
  | polyquo (t u n m) : FormOk "polyquo" [t, u] [.poly n, .poly m] | polymod (t u n m) : FormOk "polymod" [t, u] [.poly n, .poly m] | polygcd (t u n m) : FormOk "polygcd" [t, u] [.poly n, .poly m]
  | reduced (t r c) : FormOk "reduced" [t] [.table r c] | solved (t u r c n) : FormOk "solved" [t, u] [.table r c, .row n] | top (t) : FormOk "top" [t] [.frac] | bottom (t) : FormOk "bottom" [t] [.frac]
  | lift (t m) : FormOk "lift" [t] [.rest m] | turned (t r c) : FormOk "turned" [t] [.table r c] | hermite (t r c) : FormOk "hermite" [t] [.table r c] | whole (t u r c n) : FormOk "whole" [t, u] [.table r c, .row n]
theorem writ_ok {u : Tr} {lo hi : Int} (h : onX AD (match writtenT u lo hi with
    | .ok _ => .ok Kd.int
    | .error e => .error e) M R RX) : fs_written AD [u.d, .int lo, .int hi] M (fun _ M1 => Up (R Kd.int.d) M1) (fun c d M1 => Up (RX c d) M1) := by
  refine ⟨u, lo, hi, rfl, ?_⟩
  cases e : writtenT u lo hi with
  | ok n => rw [e] at h; exact Up.of h
  | error x => rw [e] at h; exact Up.of h
theorem short_ok {r c most : Int} {k : Kd} {Q : DK} (h : onX AD (shortK r c most k) M R RX) (hq : R k.d M → Q (Kd.table r c).d M) : fs_short_enough AD [(Kd.table r c).d, .int most] M Q (fun c d M1 => Up (RX c d) M1) := by
  refine ⟨r, c, most, .table r c, rfl, rfl, rfl, ?_⟩
  unfold shortK at h ⊢
  by_cases g : r > most ∨ c > most
  · rw [if_pos g] at h ⊢; exact Up.of h
  · rw [if_neg g] at h ⊢; exact hq h
theorem needK_ok {b : Bool} {x : Ex Kd} {Q : DK} (h : onX AD (needK b x) M R RX) (hq : onX AD x M R RX → Q .non M) : fs_need AD [.bl b] M Q (fun c d M1 => Up (RX c d) M1) := by
  cases b with
  | true => exact need_t (hq h)
  | false => exact need_f (Up.of h)
theorem cut1 {r c : Int} {Q : DK} (h : Q (Kd.answer r c).d M) : fSl (Kd.table r c).d (some 1) none M (fun y M2 => fAdd (.tup [.str "answer"]) y M2 Q) := by
  have e : cutD [D.str "table", D.int r, D.int c] (some 1) none = [D.int r, D.int c] := cut_from _ 1
  simp only [Kd.d]
  dsimp? only [e]
  exact ⟨by decide +kernel, h⟩
def fs_kind_of_form (AD : Ads) : FS := fun ds M R RX => ∃ (w : Str) (ts : List Tr) (ks : List Kd), ds = [.str w, .tup (Tr.ds ts), .lst (ks.map Kd.d)] ∧ FormOk w ts ks ∧ onX AD (formK w ts ks) M R RX
theorem ok_kind_of_form (h : fs_kind_of_form AD ds M R RX) : w_kind_of_form AD (fs_written AD) (fs_need AD) (fs_short_enough AD) (bodyEnds R RX) (g0 3 ds) M := by
  obtain ⟨w, ts, ks, rfl, hf, h⟩ := h
  cases hf
  all_goals
    simp only [Tr.ds, List.map_cons, List.map_nil]
    dsimp? only [w_kind_of_form, e_eqK, e_k0, e_k1, e_k2, Kd.i1, Kd.i2, e_at0, e_at1, e_at2, e_inS2, e_inS3, k_int, e_ofStr, String.reduceEq, decide_true, decide_false, Bool.or_false, Bool.or_true, Bool.true_or, Bool.false_or]
    simp [formK, e_ofStr] at h
  case root => exact writ_ok h
  case item => exact writ_ok h
  case dot n m =>
    have h : onX AD (needK (decide (Kd.row n = Kd.row m)) (.ok .int)) M R RX := by simpa using h
    exact needK_ok h fun h => Up.of h
  case reduced r c =>
    refine needK_ok h fun h => ?_
    by_cases g1 : 12 < r <;> by_cases g2 : 24 < c <;> simp [g1, g2] at h ⊢ <;> exact Up.of h
  case solved => exact needK_ok h fun h => short_ok h fun h => cut1 (Up.of h)
  case whole => exact needK_ok h fun h => short_ok h fun h => cut1 (Up.of h)
  case hermite => exact short_ok h fun h => Up.of h
  all_goals exact Up.of h
end
end K03

set_option linter.all false
set_option maxRecDepth 100000
set_option maxHeartbeats 1000000
namespace K03
open PySem PySem.Spec PyProof.Rows L2 DL K04
section
variable {AD : Ads} {ds : List D} {M : Mem} {R : DK} {RX : DX}
theorem kd_inj {a b : Kd} (h : a.d = b.d) : a = b := by
  have e := deq_kd a b
  rw [h, deq_kd] at e
  simpa using e.symm
theorem fun_kd (f : Kd → D) : ∃ g : D → D, ∀ k : Kd, g k.d = f k := by
  classical
  refine ⟨fun d => if h : ∃ k : Kd, k.d = d then f h.choose else .non, fun k => ?_⟩
  have h : ∃ k' : Kd, k'.d = k.d := ⟨k, rfl⟩
  show (if h : ∃ k' : Kd, k'.d = k.d then f h.choose else .non) = _
  rw [dif_pos h, kd_inj h.choose_spec]
theorem all_kd {Γ : GE} {j : Nat} {we : WE} {ks : List Kd} {Q : DK} (f : Kd → Bool) (hw : ∀ k, k ∈ ks → ∀ (R' : DK) (M1 : Mem), R' (.bl (f k)) M1 → we (st Γ j k.d) M1 R' FX) (h : Q (.bl (ks.all f)) M) :
    ∀ p, M p = none → lcTurns Γ j wYes we (ks.map Kd.d) (fun _ => True) p M (fun out M' => cAll [.lst out] (mdel M' p) Q) := fun p hp => by
  obtain ⟨g, hg⟩ := fun_kd fun k => .bl (f k)
  refine lc_mapZ (C := fun _ => True) g (fun _ => trivial) (fun x hx R' out h' => ?_) ?_
  · obtain ⟨k, hk, rfl⟩ := List.mem_map.mp hx
    rw [hg] at h'
    exact hw k hk R' _ h'
  · rw [mdel_mup hp]
    have e : (ks.map Kd.d).map g = (ks.map f).map D.bl := by
      rw [List.map_map, List.map_map]; exact List.map_congr_left fun k _ => hg k
    rw [e]
    exact cAll_of (by rw [List.all_map]; exact h)
theorem all_up {Γ : GE} {j n : Nat} {we : WE} {Q : DK} (f : Nat → Bool) (hw : ∀ k, k < n → ∀ (R' : DK) (M1 : Mem), R' (.bl (f k)) M1 → we (st Γ j (.int k)) M1 R' FX) (h : Q (.bl ((List.range n).all f)) M) :
    ∀ p, M p = none → lcTurns Γ j wYes we (upto 0 1 n) (fun _ => True) p M (fun out M' => cAll [.lst out] (mdel M' p) Q) := fun p hp => by
  have eu : upto 0 1 n = (List.range n).map fun (i : Nat) => D.int (i : Int) := by
    unfold upto; exact List.map_congr_left fun i _ => by simp
  rw [eu]
  refine lc_mapZ (C := fun _ => True) (fun d => match d with | .int i => .bl (f i.toNat) | _ => .non) (fun _ => trivial) (fun x hx R' out h' => ?_) ?_
  · obtain ⟨k, hk, rfl⟩ := List.mem_map.mp hx
    exact hw k (List.mem_range.mp hk) R' _ (by simpa using h')
  · rw [mdel_mup hp]
    have e : ((List.range n).map fun (i : Nat) => D.int (i : Int)).map (fun d => match d with | .int i => .bl (f i.toNat) | _ => .non) = ((List.range n).map f).map D.bl := by
      rw [List.map_map, List.map_map]; exact List.map_congr_left fun k _ => by simp
    rw [e]
    exact cAll_of (by rw [List.all_map]; exact h)
theorem long_ok {m : Int} {x : Ex Kd} {Q : DK} (h : onX AD (longK m x) M R RX) (hq : onX AD x M R RX → Q (.int m) M) : fs_long_enough AD [.int m] M Q (fun c d M1 => Up (RX c d) M1) := by
  refine ⟨m, rfl, ?_⟩
  unfold longK at h
  by_cases g : 1 ≤ m ∧ m ≤ 40
  · rw [if_pos g] at h ⊢; exact hq h
  · rw [if_neg g] at h ⊢; exact Up.of h
theorem w_int {k : Kd} (h : k.w = "int") : k = .int := by cases k <;> simp [Kd.w, e_ofStr] at h ⊢
theorem w_frac {k : Kd} (h : k.w = "frac") : k = .frac := by cases k <;> simp [Kd.w, e_ofStr] at h ⊢
theorem w_rest {k : Kd} (h : k.w = "rest") : ∃ n, k = .rest n := by cases k <;> simp [Kd.w, e_ofStr] at h ⊢
theorem w_row {k : Kd} (h : k.w = "row") : ∃ n, k = .row n := by cases k <;> simp [Kd.w, e_ofStr] at h ⊢
theorem w_poly {k : Kd} (h : k.w = "poly") : ∃ n, k = .poly n := by cases k <;> simp [Kd.w, e_ofStr] at h ⊢
theorem w_table {k : Kd} (h : k.w = "table") : ∃ r c, k = .table r c := by cases k <;> simp [Kd.w, e_ofStr] at h ⊢
theorem tab_forms (w : Str) : tget tab_FORMS w = (forms formsT w).map fun fs => .tup (fs.map .str) := by
  have e : tab_FORMS = formsT.map fun p => (p.1, D.tup (p.2.map .str)) := rfl
  rw [e]
  generalize formsT = l
  induction l with
  | nil => rfl
  | cons p r ih =>
    obtain ⟨k, v⟩ := p
    show (if w = k then some (D.tup (v.map .str)) else tget (r.map fun p => (p.1, D.tup (p.2.map .str))) w) = (if w = k then some v else forms r w).map _
    by_cases h : w = k
    · rw [if_pos h, if_pos h]; rfl
    · rw [if_neg h, if_neg h, ih]
theorem map2 {ks : List Kd} {a b : Str} (h : ks.map Kd.w = [a, b]) : ∃ x y, ks = [x, y] ∧ x.w = a ∧ y.w = b := by
  match ks, h with
  | [x, y], h => simp at h; exact ⟨x, y, rfl, h.1, h.2⟩
theorem map1 {ks : List Kd} {a : Str} (h : ks.map Kd.w = [a]) : ∃ x, ks = [x] ∧ x.w = a := by
  match ks, h with
  | [x], h => simp at h; exact ⟨x, rfl, h⟩
theorem map3 {ks : List Kd} {a b c : Str} (h : ks.map Kd.w = [a, b, c]) : ∃ x y z, ks = [x, y, z] ∧ x.w = a ∧ y.w = b ∧ z.w = c := by
  match ks, h with
  | [x, y, z], h => simp at h; exact ⟨x, y, z, rfl, h.1, h.2.1, h.2.2⟩
theorem len2 {ts : List Tr} (h : ts.length = 2) : ∃ t u, ts = [t, u] := by
  match ts, h with
  | [t, u], _ => exact ⟨t, u, rfl⟩
theorem len1 {ts : List Tr} (h : ts.length = 1) : ∃ t, ts = [t] := by
  match ts, h with
  | [t], _ => exact ⟨t, rfl⟩
theorem len3 {ts : List Tr} (h : ts.length = 3) : ∃ t u v, ts = [t, u, v] := by
  match ts, h with
  | [t, u, v], _ => exact ⟨t, u, v, rfl⟩
theorem forms_ok {w : Str} {fs : List Str} {ts : List Tr} {ks : List Kd} (h : forms formsT w = some fs) (hk : ks.map Kd.w = fs) (hl : ts.length = ks.length) : FormOk w ts ks := by
  simp only [forms, formsT] at h
  by_cases e0 : w = "gcd"
  · rw [if_pos e0] at h; cases h; subst e0
    obtain ⟨x, y, rfl, hx, hy⟩ := map2 hk
    obtain ⟨t, u, rfl⟩ := len2 hl
    cases w_int hx
    cases w_int hy
    constructor
  rw [if_neg e0] at h
  by_cases e1 : w = "root"
  · rw [if_pos e1] at h; cases h; subst e1
    obtain ⟨x, y, rfl, hx, hy⟩ := map2 hk
    obtain ⟨t, u, rfl⟩ := len2 hl
    cases w_int hx
    cases w_int hy
    constructor
  rw [if_neg e1] at h
  by_cases e2 : w = "power"
  · rw [if_pos e2] at h; cases h; subst e2
    obtain ⟨x, y, z, rfl, hx, hy, hz⟩ := map3 hk
    obtain ⟨t, u, v, rfl⟩ := len3 hl
    cases w_int hx
    cases w_int hy
    cases w_int hz
    constructor
  rw [if_neg e2] at h
  by_cases e3 : w = "dot"
  · rw [if_pos e3] at h; cases h; subst e3
    obtain ⟨x, y, rfl, hx, hy⟩ := map2 hk
    obtain ⟨t, u, rfl⟩ := len2 hl
    obtain ⟨nx, rfl⟩ := w_row hx
    obtain ⟨ny, rfl⟩ := w_row hy
    constructor
  rw [if_neg e3] at h
  by_cases e4 : w = "item"
  · rw [if_pos e4] at h; cases h; subst e4
    obtain ⟨x, y, rfl, hx, hy⟩ := map2 hk
    obtain ⟨t, u, rfl⟩ := len2 hl
    obtain ⟨nx, rfl⟩ := w_row hx
    cases w_int hy
    constructor
  rw [if_neg e4] at h
  by_cases e5 : w = "at"
  · rw [if_pos e5] at h; cases h; subst e5
    obtain ⟨x, y, rfl, hx, hy⟩ := map2 hk
    obtain ⟨t, u, rfl⟩ := len2 hl
    obtain ⟨nx, rfl⟩ := w_poly hx
    cases w_int hy
    constructor
  rw [if_neg e5] at h
  by_cases e6 : w = "polyquo"
  · rw [if_pos e6] at h; cases h; subst e6
    obtain ⟨x, y, rfl, hx, hy⟩ := map2 hk
    obtain ⟨t, u, rfl⟩ := len2 hl
    obtain ⟨nx, rfl⟩ := w_poly hx
    obtain ⟨ny, rfl⟩ := w_poly hy
    constructor
  rw [if_neg e6] at h
  by_cases e7 : w = "polymod"
  · rw [if_pos e7] at h; cases h; subst e7
    obtain ⟨x, y, rfl, hx, hy⟩ := map2 hk
    obtain ⟨t, u, rfl⟩ := len2 hl
    obtain ⟨nx, rfl⟩ := w_poly hx
    obtain ⟨ny, rfl⟩ := w_poly hy
    constructor
  rw [if_neg e7] at h
  by_cases e8 : w = "polygcd"
  · rw [if_pos e8] at h; cases h; subst e8
    obtain ⟨x, y, rfl, hx, hy⟩ := map2 hk
    obtain ⟨t, u, rfl⟩ := len2 hl
    obtain ⟨nx, rfl⟩ := w_poly hx
    obtain ⟨ny, rfl⟩ := w_poly hy
    constructor
  rw [if_neg e8] at h
  by_cases e9 : w = "reduced"
  · rw [if_pos e9] at h; cases h; subst e9
    obtain ⟨x, rfl, hx⟩ := map1 hk
    obtain ⟨t, rfl⟩ := len1 hl
    obtain ⟨rx, cx, rfl⟩ := w_table hx
    constructor
  rw [if_neg e9] at h
  by_cases e10 : w = "solved"
  · rw [if_pos e10] at h; cases h; subst e10
    obtain ⟨x, y, rfl, hx, hy⟩ := map2 hk
    obtain ⟨t, u, rfl⟩ := len2 hl
    obtain ⟨rx, cx, rfl⟩ := w_table hx
    obtain ⟨ny, rfl⟩ := w_row hy
    constructor
  rw [if_neg e10] at h
  by_cases e11 : w = "top"
  · rw [if_pos e11] at h; cases h; subst e11
    obtain ⟨x, rfl, hx⟩ := map1 hk
    obtain ⟨t, rfl⟩ := len1 hl
    cases w_frac hx
    constructor
  rw [if_neg e11] at h
  by_cases e12 : w = "bottom"
  · rw [if_pos e12] at h; cases h; subst e12
    obtain ⟨x, rfl, hx⟩ := map1 hk
    obtain ⟨t, rfl⟩ := len1 hl
    cases w_frac hx
    constructor
  rw [if_neg e12] at h
  by_cases e13 : w = "lift"
  · rw [if_pos e13] at h; cases h; subst e13
    obtain ⟨x, rfl, hx⟩ := map1 hk
    obtain ⟨t, rfl⟩ := len1 hl
    obtain ⟨nx, rfl⟩ := w_rest hx
    constructor
  rw [if_neg e13] at h
  by_cases e14 : w = "turned"
  · rw [if_pos e14] at h; cases h; subst e14
    obtain ⟨x, rfl, hx⟩ := map1 hk
    obtain ⟨t, rfl⟩ := len1 hl
    obtain ⟨rx, cx, rfl⟩ := w_table hx
    constructor
  rw [if_neg e14] at h
  by_cases e15 : w = "hermite"
  · rw [if_pos e15] at h; cases h; subst e15
    obtain ⟨x, rfl, hx⟩ := map1 hk
    obtain ⟨t, rfl⟩ := len1 hl
    obtain ⟨rx, cx, rfl⟩ := w_table hx
    constructor
  rw [if_neg e15] at h
  by_cases e16 : w = "whole"
  · rw [if_pos e16] at h; cases h; subst e16
    obtain ⟨x, y, rfl, hx, hy⟩ := map2 hk
    obtain ⟨t, u, rfl⟩ := len2 hl
    obtain ⟨rx, cx, rfl⟩ := w_table hx
    obtain ⟨ny, rfl⟩ := w_row hy
    constructor
  rw [if_neg e16] at h
  cases h
def fs_kind_of_call (AD : Ads) : FS := fun ds M R RX => ∃ (w : Str) (ts : List Tr) (ks : List Kd), ds = [.str w, .tup (Tr.ds ts), .lst (ks.map Kd.d)] ∧ ts.length = ks.length ∧ (w = "table" → ks ≠ []) ∧ ks.length ≤ 1000 ∧ onX AD (callK w ts ks) M R RX
theorem ok_kind_of_call (h : fs_kind_of_call AD ds M R RX) : w_kind_of_call AD (fs_need AD) (fs_long_enough AD) (fs_written AD) (fs_kind_of_form AD) (bodyEnds R RX) (g0 5 ds) M := by
  obtain ⟨w, ts, ks, rfl, hl, ht, hk, h⟩ := h
  by_cases h1 : w = "row"
  · subst h1
    dsimp? only [w_kind_of_call, e_inS2, e_ofStr, String.reduceEq, decide_true, decide_false, Bool.true_or, k_int]
    simp only [callK, e_ofStr, String.reduceEq, if_true, if_false] at h
    refine all_kd (fun k => decide (k = .int)) (fun k _ R' M1 h' => ?_) (needK_ok h fun h => ?_)
    · dsimp? only [e_eqK]
      exact h'
    · rw [List.length_map]
      exact long_ok h fun h => Up.of h
  by_cases h2 : w = "poly"
  · subst h2
    dsimp? only [w_kind_of_call, e_inS2, e_ofStr, String.reduceEq, decide_true, decide_false, Bool.true_or, Bool.or_true, k_int]
    simp only [callK, e_ofStr, String.reduceEq, if_true, if_false] at h
    refine all_kd (fun k => decide (k = .int)) (fun k _ R' M1 h' => ?_) (needK_ok h fun h => ?_)
    · dsimp? only [e_eqK]
      exact h'
    · rw [List.length_map]
      exact long_ok h fun h => Up.of h
  have n1 : ¬ Str.ofString "row" = w := fun e => h1 e.symm
  have n2 : ¬ Str.ofString "poly" = w := fun e => h2 e.symm
  by_cases h3 : w = "table"
  · subst h3
    dsimp? only [w_kind_of_call, e_inS2, e_ofStr, String.reduceEq, decide_true, decide_false, Bool.or_false, k_int]
    match ks, ht rfl with
    | k0 :: r, _ =>
    simp only [callK, e_ofStr, String.reduceEq, if_true, if_false] at h
    dsimp? only [e_at0, e_k0, e_eqS]
    by_cases hr : k0.w = "row"
    · obtain ⟨n, rfl⟩ := w_row hr
      simp only [Kd.w, decide_true]
      dsimp only at h
      have ea : ((Kd.row n :: r).all fun k => decide (k = .row n)) = r.all fun k => decide (k = .row n) := by simp
      refine all_kd (ks := .row n :: r) (fun k => decide (k = .row n)) (fun k _ R' M1 h' => ?_) ?_
      · dsimp? only [e_eqK, e_at0]
        exact h'
      · rw [ea]
        refine needK_ok h fun h => ?_
        have el : ((List.map Kd.d r).length + 1 : Nat) = r.length + 1 := by simp
        rw [el]
        refine long_ok h fun h => ?_
        dsimp? only [e_k1, Kd.i1]
        exact Up.of h
    · simp only [hr, decide_false]
      refine need_f ?_
      cases k0 <;> first | exact Up.of h | exact absurd rfl hr
  by_cases h4 : w = "rest"
  · subst h4
    dsimp? only [w_kind_of_call, e_inS2, e_ofStr, String.reduceEq, decide_true, decide_false, Bool.or_false, k_int, List.length_map]
    simp only [callK, e_ofStr, String.reduceEq, if_true, if_false] at h
    by_cases hz : ks.length = 2
    · match ks, ts, hz, hl with
      | [a, b], [t, u], _, _ =>
      simp only [List.length_cons, List.length_nil, Tr.ds, List.map_cons, List.map_nil]
      have e2 : decide (((0 + 1 + 1 : Nat) : Int) = 2) = true := by decide
      rw [e2]
      dsimp? only [e_at0, e_at1, e_eqK]
      by_cases ha : a = .int
      · subst ha
        simp only [decide_true]
        dsimp only at h
        refine need_t ⟨u, 2, 1000000000, rfl, ?_⟩
        cases e : writtenT u 2 1000000000 with
        | ok n => rw [e] at h; exact Up.of h
        | error x => rw [e] at h; exact Up.of h
      · simp only [ha, decide_false]
        refine need_f ?_
        cases a <;> first | exact Up.of h | exact absurd rfl ha
    · have e2 : decide ((ks.length : Int) = 2) = false := by simp; omega
      rw [e2]
      refine need_f ?_
      match ks, ts, hz with
      | [], [], _ => exact Up.of h
      | [], _ :: _, _ => exact Up.of h
      | [a], _, _ => cases a <;> exact Up.of h
      | a :: b :: c :: r, _, _ => cases a <;> exact Up.of h
  dsimp? only [w_kind_of_call, e_inS2, n1, n2, h3, h4, decide_true, decide_false, Bool.or_false, k_int, List.length_map]
  simp only [callK, h1, h2, h3, h4, if_false] at h
  rw [tab_forms]
  cases ef : forms formsT w with
  | none =>
    rw [ef] at h
    simp only [Option.map_none, Option.isSome_none, Bool.false_eq_true, if_false]
    exact Up.of h
  | some fs =>
    rw [ef] at h
    simp only [Option.map_some, Option.isSome_some, if_true]
    dsimp only at h
    dsimp? only [List.length_map]
    by_cases hz : ks.length = fs.length
    · refine need_d (fun _ => ?_) fun hn => absurd (by rw [hz]) hn
      refine ⟨⟨by omega, by omega⟩, fun _ => by omega, ?_⟩
      have ez : ((ks.length : Int)).toNat = ks.length := by simp
      rw [ez]
      refine all_up (fun i => decide ((ks.map Kd.w)[i]? = fs[i]?)) (fun i hi R' M1 h' => ?_) ?_
      · have hf : i < fs.length := by omega
        have q1 : atI (ks.map Kd.d) (i : Int) = some (ks[i].d) := atI_lt (by simp [hi])
        have q2 : atI (fs.map D.str) (i : Int) = some (.str fs[i]) := atI_lt (by simp [hf])
        dsimp? only [q1, q2, e_k0, tab_forms, ef, Option.map_some]
        have e1 : ((ks.map Kd.w)[i]? = fs[i]?) = (ks[i].w = fs[i]) := by simp [hi, hf]
        simp only [e1] at h'
        exact h'
      · by_cases hm : ks.map Kd.w = fs
        · have ea : ((List.range ks.length).all fun i => decide ((ks.map Kd.w)[i]? = fs[i]?)) = true := by
            rw [hm]; simp
          rw [ea]
          rw [if_pos hm] at h
          exact need_t ⟨w, ts, ks, rfl, forms_ok ef hm hl, by
            cases e : formK w ts ks with
            | ok k => rw [e] at h; exact Up.of h
            | error x => rw [e] at h; exact Up.of h⟩
        · have ea : ((List.range ks.length).all fun i => decide ((ks.map Kd.w)[i]? = fs[i]?)) = false := by
            rw [Bool.eq_false_iff]
            intro hall
            refine hm (List.ext_getElem? fun i => ?_)
            simp only [List.all_eq_true, List.mem_range, decide_eq_true_eq] at hall
            by_cases hi : i < ks.length
            · exact hall i hi
            · rw [List.getElem?_eq_none (by simp; omega), List.getElem?_eq_none (by omega)]
          rw [ea]
          rw [if_neg hm] at h
          exact need_f (Up.of h)
    · refine need_d (fun hn => absurd (by omega) hz) fun _ => ?_
      rw [if_neg fun e => hz (by rw [← e, List.length_map])] at h
      exact Up.of h
end
end K03

set_option linter.all false
set_option maxRecDepth 100000
set_option maxHeartbeats 1000000
namespace K03
open PySem PySem.Spec PyProof.Rows L2 DL K04
section
variable {AD : Ads} {ds : List D} {M : Mem} {R : DK} {RX : DX}
def Names (nm : Str → Option Kd) (kvs : List (Key × D)) : Prop := ∀ x, vget kvs (.inr x) = (nm x).map Kd.d
theorem onX_ok {k : Kd} : onX AD (.ok k) M R RX = R k.d M := rfl
def fs_kind_of (AD : Ads) (N : Nat) : FS := fun ds M R RX => ∃ (t : Tr) (a : Addr) (nm : Str → Option Kd) (kvs : List (Key × D)), ds = [t.d, .ref a] ∧ M a = some (.dK kvs) ∧ Names nm kvs ∧ t.ht ≤ N ∧ t.ok nm ∧ onX AD (K04.kindOf nm t) M R RX
theorem ok_kind_of {N : Nat} (h : fs_kind_of AD (N + 1) ds M R RX) : w_kind_of AD (fs_kind_of AD N) (fs_need AD) (fs_long_enough AD) (fs_kind_of_call AD) (fs_kind_of_two AD) (bodyEnds R RX) (g0 7 ds) M := by
  obtain ⟨t, a, nm, kvs, rfl, ha, hn, ht, hok, h⟩ := h
  cases t with
  | int n =>
    simp only [Tr.d]
    dsimp? only [w_kind_of, e_at0, e_at1, e_at2, e_eqS, e_ofStr, String.reduceEq, decide_true, decide_false, k_int]
    exact Up.of h
  | name x =>
    simp only [Tr.d]
    dsimp? only [w_kind_of, e_at0, e_at1, e_at2, e_eqS, e_ofStr, String.reduceEq, decide_true, decide_false, k_int, ha, hn x]
    simp only [K04.kindOf] at h
    cases e : nm x with
    | none =>
      rw [e] at h
      simp only [Option.map_none, Option.isSome_none, Bool.not_false, if_true]
      exact Up.of h
    | some k =>
      rw [e] at h
      simp only [Option.map_some, Option.isSome_some, Bool.not_true, Bool.false_eq_true, if_false]
      exact Up.of h
  | neg t =>
    simp only [Tr.d]
    dsimp? only [w_kind_of, e_at0, e_at1, e_at2, e_eqS, e_ofStr, String.reduceEq, decide_true, decide_false, k_int, ha]
    simp only [Tr.ht] at ht
    simp only [Tr.ok] at hok
    refine ⟨t, a, nm, kvs, rfl, ha, hn, by omega, hok, ?_⟩
    simp only [K04.kindOf] at h
    cases e : K04.kindOf nm t with
    | error x => rw [e] at h; exact Up.of h
    | ok k =>
      rw [e] at h
      dsimp only at h
      rw [onX_ok]
      dsimp? only [e_k0, e_neS]
      have eb : (!decide (k.w = Str.ofString "answer")) = decide (k.w ≠ "answer") := by simp
      rw [eb]
      exact needK_ok h fun h => Up.of h
  | pow t e =>
    simp only [Tr.d]
    dsimp? only [w_kind_of, e_at0, e_at1, e_at2, e_eqS, e_ofStr, String.reduceEq, decide_true, decide_false, k_int, ha]
    simp only [Tr.ht] at ht
    simp only [Tr.ok] at hok
    obtain ⟨hok, hs, he1, he2⟩ := hok
    refine ⟨t, a, nm, kvs, rfl, ha, hn, by omega, hok, ?_⟩
    simp only [K04.kindOf] at h
    cases ek : K04.kindOf nm t with
    | error x => rw [ek] at h; exact Up.of h
    | ok k =>
      rw [ek] at h
      dsimp only at h
      rw [onX_ok]
      dsimp? only [e_k0, e_inS4]
      have hp := hs
      rw [ek] at hp
      cases k with
      | poly n =>
        obtain ⟨b1, b2⟩ := hp n rfl
        simp only [Kd.w, e_ofStr, String.reduceEq, decide_true, decide_false, Bool.or_true, Bool.or_false]
        refine need_t ?_
        dsimp? only [e_k0, e_k1, Kd.w, Kd.i1]
        refine ⟨mulOk_of (m := 40) (n := 20) (by omega) (by omega) (by decide), long_ok h fun h => Up.of h⟩
      | table r c =>
        simp only [Kd.w, e_ofStr, String.reduceEq, decide_true, decide_false, Bool.or_true, Bool.or_false]
        dsimp? only [e_k0, e_k1, e_k2, Kd.w, Kd.i1, Kd.i2, e_ofStr, String.reduceEq, decide_true, decide_false]
        refine needK_ok h fun h => Up.of h
      | row n =>
        simp only [Kd.w, e_ofStr, String.reduceEq, decide_true, decide_false, Bool.or_true, Bool.or_false]
        dsimp? only [e_k0, e_k1, e_k2, Kd.w, Kd.i1, Kd.i2, e_ofStr, String.reduceEq, decide_true, decide_false]
        exact need_f (Up.of h)
      | answer r c =>
        simp only [Kd.w, e_ofStr, String.reduceEq, decide_true, decide_false, Bool.or_true, Bool.or_false]
        dsimp? only [e_k0, e_k1, e_k2, Kd.w, Kd.i1, Kd.i2, e_ofStr, String.reduceEq, decide_true, decide_false]
        exact need_f (Up.of h)
      | _ =>
        simp only [Kd.w, e_ofStr, String.reduceEq, decide_true, decide_false, Bool.or_true, Bool.or_false, Bool.true_or]
        refine need_t ?_
        dsimp? only [e_k0, Kd.w, e_ofStr, String.reduceEq, decide_true, decide_false]
        exact Up.of h
  | call w ts =>
    simp only [Tr.d]
    dsimp? only [w_kind_of, e_at0, e_at1, e_at2, e_eqS, e_ofStr, String.reduceEq, decide_true, decide_false, k_int, ha, e_lcX]
    simp only [Tr.ht] at ht
    simp only [Tr.ok] at hok
    obtain ⟨hoks, hl, hw⟩ := hok
    simp only [K04.kindOf] at h
    intro p hp
    have hap : a ≠ p := fun z => by rw [z, hp] at ha; cases ha
    rw [ds_map]
    refine lcX_mapA (kindD nm) (fun _ => trivial) (fun k t out R' htk hpre hR => ?_) fun out hout => ?_
    · dsimp? only [e_bN]
      have hm : t ∈ ts := List.mem_of_getElem? htk
      refine ⟨t, a, nm, kvs, rfl, by rw [mup_ne hap]; exact ha, hn, by have := ht_mem hm; omega, ok_mem hoks hm, ?_⟩
      cases e : K04.kindOf nm t with
      | ok k => exact hR k.d (by unfold kindD; rw [e])
      | error x =>
        rw [kinds_err hpre htk e] at h
        dsimp only at h
        show Up (RX AD.Wrong (.str x)) (mdel (mup M p (.lst out)) p)
        rw [mdel_mup hp]
        exact Up.of h
    · obtain ⟨ks, e1, e2, e3⟩ := kinds_ok hout
      rw [e1] at h
      dsimp only at h
      subst e2
      show fs_kind_of_call AD _ (mdel (mup M p _) p) _ _
      rw [mdel_mup hp]
      refine ⟨w, ts, ks, by rw [ds_map], e3.symm, fun z => ?_, by omega, ?_⟩
      · have := hw z
        intro q
        rw [q] at e3
        exact this (List.length_eq_zero_iff.mp e3.symm)
      · cases e : callK w ts ks with
        | ok k => rw [e] at h; exact Up.of h
        | error x => rw [e] at h; exact Up.of h
  | two o t u =>
    simp only [Tr.d]
    dsimp? only [w_kind_of, e_at0, e_at1, e_at2, e_eqS, e_ofStr, String.reduceEq, decide_true, decide_false, k_int, ha, o1, o2, o3, o4, o5]
    simp only [Tr.ht] at ht
    simp only [Tr.ok] at hok
    simp only [K04.kindOf] at h
    refine ⟨t, a, nm, kvs, rfl, ha, hn, by omega, hok.1, ?_⟩
    cases e : K04.kindOf nm t with
    | error x => rw [e] at h; exact Up.of h
    | ok k =>
      rw [e] at h
      dsimp only at h
      refine ⟨u, a, nm, kvs, rfl, ha, hn, by omega, hok.2, ?_⟩
      cases e2 : K04.kindOf nm u with
      | error x => rw [e2] at h; exact Up.of h
      | ok k2 =>
        rw [e2] at h
        dsimp only at h
        refine ⟨o, k, k2, rfl, ?_⟩
        cases e3 : twoK o k k2 with
        | ok k => rw [e3] at h; exact Up.of h
        | error x => rw [e3] at h; exact Up.of h
end
end K03

set_option linter.all false
set_option maxRecDepth 100000
set_option maxHeartbeats 1000000
namespace K03
open PySem PySem.Spec L2 DL K04
theorem atI_ints {xs : List Int} {k : Nat} {d : Int} (h : xs[k]? = some d) : atI (xs.map D.int) (k : Int) = some (.int d) := atI_nat (by rw [List.getElem?_map, h]; rfl)
theorem inl_nat {n : Nat} (h : n ≤ 1000000000) : inLine (n : Int) := by unfold inLine; omega
theorem e_isT1 : isT "int" "int" = true := by decide
theorem e_isT2 : isT "int" "bool" = false := by decide
theorem e_isT3 : isT "bool" "int" = true := by decide
theorem e_isT4 : isT "bool" "bool" = true := by decide
theorem e_isT5 : isT "NoneType" "int" = false := by decide
theorem e_isT6 : isT "str" "int" = false := by decide
theorem e_isT7 : isT "list" "list" = true := by decide
theorem e_isT8 : isT "tuple" "list" = false := by decide
theorem e_isT9 : isT "NoneType" "list" = false := by decide
theorem e_isT10 : isT "str" "list" = false := by decide
theorem e_isT11 : isT "int" "list" = false := by decide
theorem e_isT12 : isT "bool" "list" = false := by decide
theorem e_in1 : "int" ∈ ["bool", "int", "str", "list", "tuple", "dict"] := by decide
theorem e_in2 : "bool" ∈ ["bool", "int", "str", "list", "tuple", "dict"] := by decide
theorem e_in3 : "list" ∈ ["bool", "int", "str", "list", "tuple", "dict"] := by decide
theorem log_small {j : Int} (h : 0 < j) (g : j < 2 ^ 64) : j.natAbs.log2 < 9000 := by
  have : j.natAbs.log2 < 64 := (Nat.log2_lt (by omega)).mpr (by omega)
  omega
structure Drw where
  ns : List Int
  i : Nat
  held : Int
  mix : Int
def Drw.D (s : Drw) : List D := [.lst (s.ns.map .int), .int (s.i : Int), .int s.held, .int s.mix]
structure Drw.Ok (s : Drw) : Prop where
  len : s.ns.length ≤ 63
  ix : s.i ≤ s.ns.length
  held : 0 ≤ s.held
  mix : 0 ≤ s.mix ∧ s.mix < 2147483647
def fs_law_draws : FS := fun ds M R _ => ∃ ns : List Int, ds = [.scr ns] ∧ ∀ p, M p = none → R (.ref p) (mup M p (.lst (Drw.D ⟨ns, 0, 0, 1⟩)))
theorem ok_law_draws {ds : List D} {M : Mem} {R : DK} {RX : DX} (h : fs_law_draws ds M R RX) : w_law_draws (bodyEnds R RX) (g0 1 ds) M := by
  obtain ⟨ns, rfl, h⟩ := h
  dsimp? only [w_law_draws]
  intro p hp
  exact Up.of (h p hp)
/-- a draw -/
def fs_law_draw : FS := fun ds M R _ => ∃ (p : Addr) (s : Drw) (l : Int), ds = [.ref p, .int l] ∧ M p = some (.lst s.D) ∧ s.Ok ∧ 0 < l ∧ l < 2 ^ 64 ∧ ∀ v s', Drw.Ok s' → 0 ≤ v → v < l → R (.int v) (mup M p (.lst s'.D))
theorem d_at0 (s : Drw) : atI s.D 0 = some (.lst (s.ns.map .int)) := rfl
theorem d_at1 (s : Drw) : atI s.D 1 = some (.int (s.i : Int)) := rfl
theorem d_at2 (s : Drw) : atI s.D 2 = some (.int s.held) := rfl
theorem d_at3 (s : Drw) : atI s.D 3 = some (.int s.mix) := rfl
theorem d_ix1 (s : Drw) : ixN s.D.length 1 = some 1 := rfl
theorem d_ix2 (s : Drw) : ixN s.D.length 2 = some 2 := rfl
theorem d_ix3 (s : Drw) : ixN s.D.length 3 = some 3 := rfl
theorem d_set1 (s : Drw) (n : Nat) : s.D.set 1 (.int ((s.i : Int) + 1)) = Drw.D { s with i := s.i + 1 } := rfl
theorem d_set2 (s : Drw) (v : Int) : s.D.set 2 (.int v) = Drw.D { s with held := v } := rfl
theorem d_set3 (s : Drw) (v : Int) : s.D.set 3 (.int v) = Drw.D { s with mix := v } := rfl
/-- the second half of a draw -/
theorem draw_end {p : Addr} {s : Drw} {l : Int} {M : Mem} {R : DK} {RX : DX} {o : Option D} (hs : s.Ok) (l0 : 0 < l) (l1 : l < 2 ^ 64) (h : ∀ v s', Drw.Ok s' → 0 ≤ v → v < l → R (.int v) (mup M p (.lst s'.D))) :
    wSeq (wIf (wB (wOp fGt (wOp fIx (wVar 0) (wC (.int 2))) (wC (.int 0))))
 (wSeq (wSet 3 (wOp fMod (wCB cInt (wCons (wOp fIx (wVar 0) (wC (.int 2))) wNil)) (wVar 1)))
 (wSeq (wAsg (gSubD (wVar 0) (wC (.int 2))) (wOp fDiv (wOp fIx (wVar 0) (wC (.int 2))) (wVar 1)))
 (wRet (wVar 3))))
 wNext)
 (wSeq (wAsg (gSubD (wVar 0) (wC (.int 3))) (wOp fMod (wCB cInt (wCons (wOp fAdd (wOp fMul (wOp fIx (wVar 0) (wC (.int 3))) (wC (.int 69621))) (wC (.int 7))) wNil)) (wC (.int 2147483629))))
 (wRet (wOp fMod (wCB cInt (wCons (wOp fDiv (wOp fIx (wVar 0) (wC (.int 3))) (wC (.int 11))) wNil)) (wVar 1)))) (bodyEnds R RX) [some (.ref p), some (.int l), o, none] (mup M p (.lst s.D)) := by
  by_cases hh : 0 < s.held
  · dsimp? only [d_at2, d_ix2, hh, d_set2]
    refine ⟨l0, ⟨l0, log_small l0 l1⟩, Up.of (h _ _ ⟨hs.len, hs.ix, Int.ediv_nonneg hs.held (by omega), hs.mix⟩ (Int.emod_nonneg _ (by omega)) (Int.emod_lt_of_pos _ l0))⟩
  · dsimp? only [d_at2, d_at3, d_ix3, hh, d_set3]
    have b := hs.mix
    exact ⟨mulOk_of (m := 32) (n := 20) (by omega) (by decide) (by decide), by decide, ⟨by decide, by decide +kernel⟩, l0, Up.of (h _ _ ⟨hs.len, hs.ix, hs.held, Int.emod_nonneg _ (by decide), by have := Int.emod_lt_of_pos (s.mix * 69621 + 7) (b := 2147483629) (by decide); show _ % _ < _; omega⟩ (Int.emod_nonneg _ (by omega)) (Int.emod_lt_of_pos _ l0))⟩
theorem draw_first {p : Addr} {s : Drw} {l : Int} {M : Mem} {E : EndsD} (hs : s.Ok) (h : ∀ s' o, Drw.Ok s' → E.nx [some (.ref p), some (.int l), o, none] (mup M p (.lst s'.D))) :
    wIf (wAnd (wB (wOp fEq (wOp fIx (wVar 0) (wC (.int 2))) (wC (.int 0)))) (wB (wOp fLt (wOp fIx (wVar 0) (wC (.int 1))) (wCB cLen (wCons (wOp fIx (wVar 0) (wC (.int 0))) wNil)))))
 (wSeq (wSet 2 (wOp fIx (wOp fIx (wVar 0) (wC (.int 0))) (wOp fIx (wVar 0) (wC (.int 1)))))
 (wSeq (wAsg (gSubD (wVar 0) (wC (.int 1))) (wOp fAdd (wOp fIx (wVar 0) (wC (.int 1))) (wC (.int 1))))
 (wSeq (wIf (wB (wOp fGe (wVar 2) (wOp fPow (wC (.int 10)) (wC (.int 18)))))
 (wAsg (gSubD (wVar 0) (wC (.int 2))) (wVar 2))
 wNext)
 (wAsg (gSubD (wVar 0) (wC (.int 3))) (wOp fMod (wCB cInt (wCons (wOp fAdd (wOp fAdd (wOp fMul (wOp fIx (wVar 0) (wC (.int 3))) (wC (.int 48271))) (wVar 2)) (wC (.int 13))) wNil)) (wC (.int 2147483647)))))))
 wNext E [some (.ref p), some (.int l), none, none] (mup M p (.lst s.D)) := by
  have hm := hs.mix
  have mk : mulOk s.mix 48271 := mulOk_of (m := 32) (n := 20) (by omega) (by decide) (by decide)
  by_cases c1 : s.held = 0
  · by_cases c2 : s.i < s.ns.length
    · have c3 : (s.i : Int) < ((s.ns.map D.int).length : Int) := by rw [List.length_map]; omega
      obtain ⟨cell, hcell⟩ : ∃ c, s.ns[s.i]? = some c := ⟨s.ns[s.i], List.getElem?_eq_getElem c2⟩
      dsimp? only [d_at0, d_at1, d_at2, d_at3, d_ix1, d_ix2, d_ix3, c1, c3, atI_ints hcell, d_set1, d_set2, d_set3]
      refine ⟨⟨by decide, by decide, by decide⟩, ?_⟩
      split
      · rename_i hc
        refine ⟨mk, by decide, h _ _ ⟨hs.len, c2, ?_, Int.emod_nonneg _ (by decide), Int.emod_lt_of_pos _ (by decide)⟩⟩
        show 0 ≤ cell
        have : (0 : Int) ≤ 10 ^ Int.toNat 18 := by decide
        omega
      · exact ⟨mk, by decide, h _ _ ⟨hs.len, c2, Int.le_refl 0, Int.emod_nonneg _ (by decide), Int.emod_lt_of_pos _ (by decide)⟩⟩
    · have c3 : ¬ (s.i : Int) < ((s.ns.map D.int).length : Int) := by rw [List.length_map]; omega
      dsimp? only [d_at0, d_at1, d_at2, c1, c3]
      exact h s none hs
  · dsimp? only [d_at0, d_at1, d_at2, c1]
    exact h s none hs
theorem mup_id {M : Mem} {p : Addr} {o : MO} (h : M p = some o) : mup M p o = M := by
  funext b
  unfold mup
  split
  · rename_i e; rw [e, h]
  · rfl
theorem ok_law_draw {ds : List D} {M : Mem} {R : DK} {RX : DX} (h : fs_law_draw ds M R RX) : w_law_draw (bodyEnds R RX) (g0 4 ds) M := by
  obtain ⟨p, s, l, rfl, hp, hs, l0, l1, h⟩ := h
  rw [← mup_id hp]
  unfold w_law_draw
  rw [e_seq]
  exact draw_first hs fun s' o hs' => draw_end hs' l0 l1 h
end K03

set_option linter.all false
set_option maxRecDepth 100000
set_option maxHeartbeats 4000000
namespace K03
open PySem PySem.Spec PyProof.Rows L2 DL K04
section
variable {AD : Ads} {ds : List D} {M : Mem} {R : DK} {RX : DX} {p q : Addr} {s s' : Drw} {nl : NL}
theorem atI_mem {ds : List D} {v : Int} {n : Nat} (hn : n = ds.length) (h0 : 0 ≤ v) (h1 : v < (n : Int)) : ∃ d, atI ds v = some d ∧ d ∈ ds := by
  obtain ⟨k, rfl⟩ := Int.eq_ofNat_of_zero_le h0
  have hk : k < ds.length := by omega
  exact ⟨ds[k], atI_lt (by simp [hk]), List.getElem_mem hk⟩
/-- the draws at p in the state s, over the store M -/
def DM (M : Mem) (p : Addr) (s : Drw) : Mem := mup M p (.lst s.D)
structure DC (M : Mem) (p q : Addr) (nl : NL) : Prop where
  ne : q ≠ p
  at_ : M q = some (.dK (kvN nl))
  len : nl.length < 64
  ok : NlOk nl
theorem DM_p : DM M p s p = some (.lst s.D) := mup_same
theorem DM_up : mup (DM M p s) p (.lst s'.D) = DM M p s' := mup_mup
theorem DC.at (h : DC M p q nl) : DM M p s q = some (.dK (kvN nl)) := by unfold DM; rw [mup_ne h.ne]; exact h.at_
theorem dr {l : Int} {Q : DK} {QX : DX} (hs : s.Ok) (l0 : 0 < l) (l1 : l < 2 ^ 64) (h : ∀ v s', Drw.Ok s' → 0 ≤ v → v < l → Q (.int v) (DM M p s')) : fs_law_draw [.ref p, .int l] (DM M p s) Q QX :=
  ⟨p, s, l, rfl, DM_p, hs, l0, l1, fun v s' h' a b => by rw [DM_up]; exact h v s' h' a b⟩
def fs_law_number : FS := fun ds M R _ => ∃ (M0 : Mem) (p : Addr) (s : Drw), ds = [.ref p] ∧ M = DM M0 p s ∧ s.Ok ∧ ∀ n s', NumOk n → Drw.Ok s' → R (.tup [.str "int", .int n]) (DM M0 p s')
theorem ok_law_number (h : fs_law_number ds M R RX) : w_law_number fs_law_draw (bodyEnds R RX) (g0 1 ds) M := by
  obtain ⟨M0, p, s, rfl, rfl, hs, h⟩ := h
  dsimp? only [w_law_number]
  refine dr hs (by decide) (by decide) fun v1 s1 k1 a1 b1 => ?_
  refine dr k1 (by decide) (by decide) fun v2 s2 k2 a2 b2 => ?_
  refine ⟨by decide, by decide, by decide, ?_⟩
  refine dr k2 (by decide) (by decide) fun v3 s3 k3 a3 b3 => ?_
  obtain ⟨d, hd, hm⟩ := atI_mem (ds := [D.int 1, .int (10 ^ Int.toNat 5), .int (10 ^ Int.toNat 12), .int (10 ^ Int.toNat 29)]) (n := 4) rfl a3 b3
  have hb : ∃ b : Int, d = .int b ∧ 0 ≤ b ∧ b ≤ 10 ^ 29 := by
    simp only [List.mem_cons, List.not_mem_nil, or_false] at hm
    rcases hm with rfl | rfl | rfl | rfl <;> exact ⟨_, rfl, by decide +kernel, by decide +kernel⟩
  obtain ⟨b, rfl, hb0, hb1⟩ := hb
  simp? only [hd]
  refine dr k3 (by decide) (by decide) fun v4 s4 k4 a4 b4 => ?_
  (try simp? only)
  refine dr k4 (by decide) (by decide) fun v5 s5 k5 a5 b5 => ?_
  obtain ⟨d, hd, hm⟩ := atI_mem (ds := [D.int v1, .int v2, .int (b + v4)]) (n := 3) rfl a5 b5
  have hn : ∃ n : Int, d = .int n ∧ NumOk n := by
    have z : (1000 : Int) ≤ 10 ^ 29 := by decide +kernel
    simp only [List.mem_cons, List.not_mem_nil, or_false] at hm
    rcases hm with rfl | rfl | rfl
    · exact ⟨_, rfl, a1, by omega⟩
    · exact ⟨_, rfl, a2, by omega⟩
    · exact ⟨_, rfl, by omega, by omega⟩
  obtain ⟨n, rfl, hn⟩ := hn
  simp? only [hd]
  exact Up.of (h n s5 hn k5)
theorem names_n : ∀ (l : NL) (x : Str), vget (kvN l) (.inr x) = (nget l x).map Kd.d
  | [], x => rfl
  | (k, v) :: r, x => by
    have ih := names_n r x
    show vget ((.inr k, v.d) :: kvN r) (.inr x) = (if x = k then some v else nget r x).map Kd.d
    rw [vget_cons, ih]
    by_cases e : x = k
    · subst e; simp
    · rw [if_neg e, if_neg (fun z => e (Sum.inr.inj z).symm)]
theorem nget_mem : ∀ {l : NL} {x : Str} {k : Kd}, nget l x = some k → (x, k) ∈ l
  | (k, v) :: r, x, kd, h => by
    unfold nget at h
    by_cases e : x = k
    · rw [if_pos e] at h; cases h; subst e; exact List.mem_cons_self
    · rw [if_neg e] at h; exact List.mem_cons_of_mem _ (nget_mem h)
def fs_law_named : FS := fun ds M R _ => ∃ (M0 : Mem) (p q : Addr) (s : Drw) (nl : NL) (k : Kd), ds = [.ref p, .ref q, k.d] ∧ M = DM M0 p s ∧ DC M0 p q nl ∧ s.Ok ∧ (∀ s', Drw.Ok s' → R .non (DM M0 p s')) ∧ ∀ x s', (x, k) ∈ nl → Drw.Ok s' → R (.tup [.str "name", .str x]) (DM M0 p s')
theorem ok_law_named (h : fs_law_named ds M R RX) : w_law_named fs_law_draw (bodyEnds R RX) (g0 5 ds) M := by
  obtain ⟨M0, p, q, s, nl, k, rfl, rfl, hc, hs, h1, h2⟩ := h
  show wSeq _ _ _ _ _
  refine gen_u fun u hu => ?_
  simp? only
  show onDKo (DM M0 p s q) _
  rw [hc.at]
  refine ⟨by unfold kvN; rw [List.length_map]; have := hc.len; omega, ?_⟩
  have ek : (kvN nl).map (fun kv => kD kv.1) = (nl.map (·.1)).map D.str := by unfold kvN; rw [List.map_map, List.map_map]; rfl
  rw [ek]
  refine ⟨nl.map (·.1), rfl, by rw [List.length_map]; exact hc.len, fun ys hy => ?_⟩
  show ∀ pp, _ → _
  intro pp hpp
  refine lc_filt (f := D.str) (l := ys) (fun x => decide (nget nl x = some k)) D.str (fun _ => trivial) (fun x R' out hx hR => ?_) (fun x R' out hx hR => ?_) ?_
  · have hq : mup (DM M0 p s) pp (.lst out) q = some (.dK (kvN nl)) := by rw [mup_ne (fun e => by rw [← e, hc.at] at hpp; cases hpp)]; exact hc.at
    obtain ⟨pr, hpm, e⟩ := List.mem_map.mp (hy.mem_iff.mp hx)
    subst e
    have hg := hc.ok.get _ hpm
    simp? only [hq, names_n, hg, Option.map_some, e_eqK]
    rw [hg] at hR
    simpa using hR
  · simp? only
    exact hR
  · rw [mdel_mup hpp]
    have hxs : ∀ x ∈ ys.filter (fun x => decide (nget nl x = some k)), (x, k) ∈ nl := fun x hx => by
      have := (List.mem_filter.mp hx).2
      exact nget_mem (by simpa using this)
    have hln : (ys.filter (fun x => decide (nget nl x = some k))).length < 64 := by
      have a := List.length_filter_le (fun x => decide (nget nl x = some k)) ys
      have b := hy.length_eq
      rw [List.length_map] at b
      have := hc.len
      omega
    generalize ys.filter (fun x => decide (nget nl x = some k)) = xs at hxs hln
    cases xs with
    | nil =>
      simp_all? only
      rw [if_neg (by simp)]
      exact Up.of (h1 _ hs)
    | cons x r =>
      simp_all? only
      rw [if_pos (by omega)]
      refine dr hs (by decide) (by decide) fun v s1 k1 a1 b1 => ?_
      simp? only
      by_cases hv : 0 < v
      · rw [if_pos hv]
        have el : (((List.map D.str r).length + 1 : Nat) : Int) = ((x :: r).length : Nat) := by simp
        refine dr k1 (by omega) (by rw [el]; omega) fun j s2 k2 a2 b2 => ?_
        obtain ⟨d, hd, hm⟩ := atI_mem (ds := (x :: r).map D.str) (n := (x :: r).length) (by simp) a2 (by rw [← el]; exact b2)
        obtain ⟨y, hy, rfl⟩ := List.mem_map.mp hm
        simp? only [show atI (D.str x :: List.map D.str r) j = _ from hd]
        exact Up.of (h2 _ _ (hxs _ hy) k2)
      · rw [if_neg hv]
        exact Up.of (h1 _ k1)
end
end K03

set_option linter.all false
set_option maxRecDepth 100000
set_option maxHeartbeats 4000000
namespace K03
open PySem PySem.Spec PyProof.Rows L2 DL K04
def GS (nl : NL) (M0 : Mem) (p : Addr) (R : DK) (k : Kd) (d : Nat) : Prop := ∀ t s', Gen nl k d t → Drw.Ok s' → R t.d (DM M0 p s')
def fs_law_int (N : Nat) : FS := fun ds M R _ => ∃ (M0 : Mem) (p q : Addr) (s : Drw) (nl : NL) (d : Nat), ds = [.ref p, .ref q, .int (d : Int)] ∧ d < N ∧ M = DM M0 p s ∧ DC M0 p q nl ∧ s.Ok ∧ GS nl M0 p R .int d
def fs_law_frac (N : Nat) : FS := fun ds M R _ => ∃ (M0 : Mem) (p q : Addr) (s : Drw) (nl : NL) (d : Nat), ds = [.ref p, .ref q, .int (d : Int)] ∧ d < N ∧ M = DM M0 p s ∧ DC M0 p q nl ∧ s.Ok ∧ GS nl M0 p R .frac d
def fs_law_rest (N : Nat) : FS := fun ds M R _ => ∃ (M0 : Mem) (p q : Addr) (s : Drw) (nl : NL) (d : Nat) (m : Int), ds = [.ref p, .ref q, .int m, .int (d : Int)] ∧ d < N ∧ M = DM M0 p s ∧ DC M0 p q nl ∧ s.Ok ∧ (2 ≤ m ∧ m ≤ 97) ∧ GS nl M0 p R (.rest m) d
def fs_law_poly (N : Nat) : FS := fun ds M R _ => ∃ (M0 : Mem) (p q : Addr) (s : Drw) (nl : NL) (d : Nat), ds = [.ref p, .ref q, .int (d : Int)] ∧ d < N ∧ M = DM M0 p s ∧ DC M0 p q nl ∧ s.Ok ∧ ∀ n, GS nl M0 p R (.poly n) d
def fs_law_row (N : Nat) : FS := fun ds M R _ => ∃ (M0 : Mem) (p q : Addr) (s : Drw) (nl : NL) (d : Nat) (m : Int), ds = [.ref p, .ref q, .int m, .int (d : Int)] ∧ d < N ∧ M = DM M0 p s ∧ DC M0 p q nl ∧ s.Ok ∧ (1 ≤ m ∧ m ≤ 3) ∧ GS nl M0 p R (.row m) d
def fs_law_table (N : Nat) : FS := fun ds M R _ => ∃ (M0 : Mem) (p q : Addr) (s : Drw) (nl : NL) (d : Nat) (r c : Int), ds = [.ref p, .ref q, .int r, .int c, .int (d : Int)] ∧ d < N ∧ M = DM M0 p s ∧ DC M0 p q nl ∧ s.Ok ∧ (1 ≤ r ∧ r ≤ 3) ∧ (1 ≤ c ∧ c ≤ 3) ∧ GS nl M0 p R (.table r c) d
section
variable {ds : List D} {M M0 : Mem} {R : DK} {RX : DX} {p q : Addr} {s s' : Drw} {nl : NL} {Q : DK} {QX : DX} {N d : Nat} {e m r c : Int}
theorem g_int (hc : DC M0 p q nl) (hs : s.Ok) (hd : d < N) (he : e = (d : Int)) (h : ∀ t s', Gen nl .int d t → Drw.Ok s' → Q t.d (DM M0 p s')) : fs_law_int N [.ref p, .ref q, .int e] (DM M0 p s) Q QX := ⟨M0, p, q, s, nl, d, by rw [he], hd, rfl, hc, hs, h⟩
theorem g_frac (hc : DC M0 p q nl) (hs : s.Ok) (hd : d < N) (he : e = (d : Int)) (h : ∀ t s', Gen nl .frac d t → Drw.Ok s' → Q t.d (DM M0 p s')) : fs_law_frac N [.ref p, .ref q, .int e] (DM M0 p s) Q QX := ⟨M0, p, q, s, nl, d, by rw [he], hd, rfl, hc, hs, h⟩
theorem g_rest (hc : DC M0 p q nl) (hs : s.Ok) (hd : d < N) (he : e = (d : Int)) (h1 : 2 ≤ m) (h2 : m ≤ 97) (h : ∀ t s', Gen nl (.rest m) d t → Drw.Ok s' → Q t.d (DM M0 p s')) : fs_law_rest N [.ref p, .ref q, .int m, .int e] (DM M0 p s) Q QX := ⟨M0, p, q, s, nl, d, m, by rw [he], hd, rfl, hc, hs, ⟨h1, h2⟩, h⟩
theorem g_poly (hc : DC M0 p q nl) (hs : s.Ok) (hd : d < N) (he : e = (d : Int)) (h : ∀ n t s', Gen nl (.poly n) d t → Drw.Ok s' → Q t.d (DM M0 p s')) : fs_law_poly N [.ref p, .ref q, .int e] (DM M0 p s) Q QX := ⟨M0, p, q, s, nl, d, by rw [he], hd, rfl, hc, hs, fun n => h n⟩
theorem g_row (hc : DC M0 p q nl) (hs : s.Ok) (hd : d < N) (he : e = (d : Int)) (h1 : 1 ≤ m) (h2 : m ≤ 3) (h : ∀ t s', Gen nl (.row m) d t → Drw.Ok s' → Q t.d (DM M0 p s')) : fs_law_row N [.ref p, .ref q, .int m, .int e] (DM M0 p s) Q QX := ⟨M0, p, q, s, nl, d, m, by rw [he], hd, rfl, hc, hs, ⟨h1, h2⟩, h⟩
theorem g_table (hc : DC M0 p q nl) (hs : s.Ok) (hd : d < N) (he : e = (d : Int)) (h1 : 1 ≤ r ∧ r ≤ 3) (h2 : 1 ≤ c ∧ c ≤ 3) (h : ∀ t s', Gen nl (.table r c) d t → Drw.Ok s' → Q t.d (DM M0 p s')) : fs_law_table N [.ref p, .ref q, .int r, .int c, .int e] (DM M0 p s) Q QX := ⟨M0, p, q, s, nl, d, r, c, by rw [he], hd, rfl, hc, hs, h1, h2, h⟩
theorem g_num (hs : s.Ok) (h : ∀ n s', NumOk n → Drw.Ok s' → Q (.tup [.str "int", .int n]) (DM M0 p s')) : fs_law_number [.ref p] (DM M0 p s) Q QX := ⟨M0, p, s, rfl, rfl, hs, h⟩
theorem g_named (k : Kd) {kd : D} (hk : kd = k.d) (hc : DC M0 p q nl) (hs : s.Ok) (h1 : ∀ s', Drw.Ok s' → Q .non (DM M0 p s')) (h2 : ∀ x s', (x, k) ∈ nl → Drw.Ok s' → Q (.tup [.str "name", .str x]) (DM M0 p s')) : fs_law_named [.ref p, .ref q, kd] (DM M0 p s) Q QX := ⟨M0, p, q, s, nl, k, by rw [hk], rfl, hc, hs, h1, h2⟩
theorem ok_law_int (h : fs_law_int (N + 1) ds M R RX) : w_law_int fs_law_named fs_law_draw fs_law_number (fs_law_int N) (fs_law_row N) (fs_law_poly N) (fs_law_frac N) (fs_law_rest N) (bodyEnds R RX) (g0 8 ds) M := by
  obtain ⟨M0, p, q, s, nl, d, rfl, hd, rfl, hc, hs, h⟩ := h
  show wSeq _ _ _ _ _
  refine gen_u fun u hu => ?_
  simp? only
  refine g_named .int rfl hc hs (fun s1 k1 => ?_) fun x s1 hx k1 => ?_
  rotate_left
  · simp_all? only
    exact Up.of (h _ _ (.name hx) k1)
  have tail : ∀ (v : Int) (s2 : Drw), s2.Ok → 0 ≤ v → v < 16 → (0 < d ∨ v = 0) → w_law_int_t12 fs_law_named fs_law_draw fs_law_number (fs_law_int N) (fs_law_row N) (fs_law_poly N) (fs_law_frac N) (fs_law_rest N) (bodyEnds R RX) [some (D.ref p), some (D.ref q), some (D.int d), some D.non, some (D.int v), none, none, none] (DM M0 p s2) := by
    intro v s2 k2 v0 v1 hv
    show wSeq _ _ _ _ _
    refine gen_u fun u hu => ?_
    simp? only
    refine g_num k2 fun n1 s3 n1k k3 => ?_
    (try simp? only)
    refine g_num k3 fun n2 s4 n2k k4 => ?_
    (try simp? only)
    by_cases c1 : v < 3
    · simp_all? only [c1]
      by_cases c2 : v = 1
      · rw [if_pos c2]
        exact Up.of (h _ _ (.negn n1k) k4)
      · rw [if_neg c2]
        exact Up.of (h _ _ (.num n1k) k4)
    obtain ⟨d, rfl⟩ : ∃ e, d = e + 1 := ⟨d - 1, by omega⟩
    have he : ((d + 1 : Nat) : Int) - 1 = (d : Int) := by omega
    have hd : d < N := by omega
    simp_all? only [c1]
    by_cases c3 : v < 8
    · simp_all? only [c3]
      obtain ⟨x, hx, hm⟩ := atI_mem (ds := [Op.add, .sub, .mul, .quo, .mod].map fun o => D.str o.w) (v := v - 3) (n := 5) rfl (by omega) (by omega)
      obtain ⟨o, ho, rfl⟩ := List.mem_map.mp hm
      have ho : o ≠ .div := by intro z; subst z; simp at ho
      have hx : atI [D.str (Str.ofString "add"), D.str (Str.ofString "sub"), D.str (Str.ofString "mul"), D.str (Str.ofString "quo"), D.str (Str.ofString "mod")] (v - 3) = some (D.str o.w) := hx
      simp? only [hx]
      refine g_int hc k4 hd he fun a s5 ga k5 => ?_
      (try simp? only)
      refine g_int hc k5 hd he fun b s6 gb k6 => ?_
      (try simp? only)
      exact Up.of (h _ _ (.itwo ho ga gb) k6)
    simp_all? only [c3]
    by_cases c4 : v = 8
    · simp_all? only [c4]
      refine g_int hc k4 hd he fun a s5 ga k5 => ?_
      (try simp? only)
      refine dr k5 (by decide) (by decide) fun w s6 k6 w0 w1 => ?_
      (try simp? only)
      exact Up.of (h _ _ (.ipow ga w0 w1) k6)
    simp_all? only [c4]
    by_cases c5 : v = 9
    · simp_all? only [c5]
      refine g_int hc k4 hd he fun a s5 ga k5 => ?_
      (try simp? only)
      refine g_int hc k5 hd he fun b s6 gb k6 => ?_
      (try simp? only)
      exact Up.of (h _ _ (.gcd ga gb) k6)
    simp_all? only [c5]
    by_cases c6 : v = 10
    · simp_all? only [c6]
      refine g_int hc k4 hd he fun a s5 ga k5 => ?_
      (try simp? only)
      refine dr k5 (by decide) (by decide) fun w s6 k6 w0 w1 => ?_
      (try simp? only)
      exact Up.of (h _ _ (.root ga (by omega) (by omega)) k6)
    simp_all? only [c6]
    by_cases c7 : v = 11
    · simp_all? only [c7]
      refine g_int hc k4 hd he fun a s5 ga k5 => ?_
      (try simp? only)
      refine dr k5 (by decide) (by decide) fun w s6 k6 w0 w1 => ?_
      (try simp? only)
      exact Up.of (h _ _ (.power ga w0 w1 n1k) k6)
    simp_all? only [c7]
    simp_all? only
    refine dr k4 (by decide) (by decide) fun w s5 k5 w0 w1 => ?_
    (try simp? only)
    by_cases c8 : v = 12
    · simp_all? only [c8]
      refine g_row hc k5 hd he (by omega) (by omega) fun a s6 ga k6 => ?_
      (try simp? only)
      refine g_row hc k6 hd he (by omega) (by omega) fun b s7 gb k7 => ?_
      (try simp? only)
      exact Up.of (h _ _ (.dot (by omega) (by omega) ga gb) k7)
    simp_all? only [c8]
    by_cases c9 : v = 13
    · simp_all? only [c9]
      refine g_row hc k5 hd he (by omega) (by omega) fun a s6 ga k6 => ?_
      (try simp? only)
      refine dr k6 (by omega) (by omega) fun i s7 k7 i0 i1 => ?_
      (try simp? only)
      exact Up.of (h _ _ (.item (by omega) (by omega) ga i0 i1) k7)
    simp_all? only [c9]
    by_cases c10 : v = 14
    · simp_all? only [c10]
      refine g_poly hc k5 hd he fun n a s6 ga k6 => ?_
      (try simp? only)
      refine dr k6 (by decide) (by decide) fun i s7 k7 i0 i1 => ?_
      (try simp? only)
      exact Up.of (h _ _ (.pat ga i0 i1) k7)
    simp_all? only [c10]
    simp_all? only
    refine dr k5 (by decide) (by decide) fun x s6 k6 x0 x1 => ?_
    (try simp? only)
    by_cases c11 : x = 0
    · rw [if_pos c11]
      refine dr k6 (by decide) (by decide) fun y s7 k7 y0 y1 => ?_
      have hy : y = 0 ∨ y = 1 := by omega
      rcases hy with rfl | rfl
      · simp? only [e_at0]
        refine g_frac hc k7 hd he fun a s8 ga k8 => ?_
        (try simp? only)
        exact Up.of (h _ _ (.top ga) k8)
      · simp? only [e_at1]
        refine g_frac hc k7 hd he fun a s8 ga k8 => ?_
        (try simp? only)
        exact Up.of (h _ _ (.bottom ga) k8)
    · rw [if_neg c11]
      refine g_rest hc k6 hd he (by decide) (by decide) fun a s7 ga k7 => ?_
      (try simp? only)
      exact Up.of (h _ _ (.lift ga) k7)
  simp_all? only
  simp_all? only
  subst hu
  by_cases c0 : 0 < d
  · rw [if_pos (by omega)]
    refine dr k1 (by decide) (by decide) fun v s2 k2 v0 v1 => ?_
    show seqK _ _ _ _
    rw [e_seqK]
    exact tail v s2 k2 v0 v1 (.inl c0)
  · rw [if_neg (by omega)]
    show seqK _ _ _ _
    rw [e_seqK]
    exact tail 0 s1 k1 (by decide) (by decide) (.inr rfl)
end
end K03

set_option linter.all false
set_option maxRecDepth 100000
set_option maxHeartbeats 4000000
namespace K03
open PySem PySem.Spec PyProof.Rows L2 DL K04
section
variable {ds : List D} {M M0 : Mem} {R : DK} {RX : DX} {p q : Addr} {s s' : Drw} {nl : NL} {Q : DK} {QX : DX} {N d : Nat} {e m r c : Int}
theorem e_dm {d : Nat} : max (0 : Int) ((d : Int) - 1) = ((d - 1 : Nat) : Int) := by omega
theorem e_dm2 {d : Nat} : max (0 : Int) ((d : Int) - 2) = ((d - 2 : Nat) : Int) := by omega
theorem ok_law_frac (h : fs_law_frac (N + 1) ds M R RX) : w_law_frac fs_law_named fs_law_draw (fs_law_int (N + 1)) (fs_law_frac N) (bodyEnds R RX) (g0 7 ds) M := by
  obtain ⟨M0, p, q, s, nl, d, rfl, hd, rfl, hc, hs, h⟩ := h
  show wSeq _ _ _ _ _
  refine gen_u fun u hu => ?_
  simp? only
  refine g_named .frac rfl hc hs (fun s1 k1 => ?_) fun x s1 hx k1 => ?_
  rotate_left
  · simp_all? only
    exact Up.of (h _ _ (.name hx) k1)
  have tail : ∀ (v : Int) (s2 : Drw), s2.Ok → 0 ≤ v → v < 6 → (0 < d ∨ v = 0) → w_law_frac_t6 fs_law_named fs_law_draw (fs_law_int (N + 1)) (fs_law_frac N) (bodyEnds R RX) [some (D.ref p), some (D.ref q), some (D.int d), some D.non, some (D.int v), none, none] (DM M0 p s2) := by
    intro v s2 k2 v0 v1 hv
    show wSeq _ _ _ _ _
    refine gen_u fun u hu => ?_
    by_cases c1 : v < 2
    · simp? only [c1, e_maxQ2, e_dm]
      refine g_int hc k2 (d := d - 1) (by omega) rfl fun a s3 ga k3 => ?_
      (try simp? only [e_maxQ2, e_dm])
      refine g_int hc k3 (d := d - 1) (by omega) rfl fun b s4 gb k4 => ?_
      (try simp? only)
      exact Up.of (h _ _ (.fdiv ga gb) k4)
    obtain ⟨d, rfl⟩ : ∃ e, d = e + 1 := ⟨d - 1, by omega⟩
    have he : ((d + 1 : Nat) : Int) - 1 = (d : Int) := by omega
    have hd : d < N := by omega
    simp? only [c1]
    by_cases c2 : v < 5
    · have fin : ∀ (k : Kd) (b : Tr) (s5 : Drw) (E : EndsD), (k = .frac ∨ k = .int) → Gen nl k d b → s5.Ok → (E.rt = (bodyEnds R RX).rt) → (E.ex = (bodyEnds R RX).ex) → seqK (w_law_frac_t3 fs_law_named fs_law_draw (fs_law_int (N + 1)) (fs_law_frac N)) E [some (D.ref p), some (D.ref q), some (D.int ↑(d + 1)), some D.non, some (D.int v), some b.d, none] (DM M0 p s5) := by
        intro k b s5 E hk gb k5 er ex
        simp_all? only
        refine g_frac hc k5 hd he fun a s6 ga k6 => ?_
        (try simp? only)
        simp_all? only
        refine dr k6 (by decide) (by decide) fun x s7 k7 x0 x1 => ?_
        (try simp? only)
        obtain ⟨w, hw, hm⟩ := atI_mem (ds := [Op.add, .mul, .div].map fun o => D.str o.w) (v := v - 2) (n := 3) rfl (by omega) (by omega)
        obtain ⟨o, ho, rfl⟩ := List.mem_map.mp hm
        have ho : o = .add ∨ o = .mul ∨ o = .div := by simpa using ho
        have hw : atI [D.str (Str.ofString "add"), D.str (Str.ofString "mul"), D.str (Str.ofString "div")] (v - 2) = some (D.str o.w) := hw
        by_cases c4 : x = 0
        · rw [if_pos c4]
          simp_all? only [hw]
          refine ⟨by decide +kernel, ?_⟩
          rw [er]
          exact Up.of (h _ _ (.ftwo (a := b) (b := a) ho (by rcases hk with rfl | rfl <;> simp) gb ga) k7)
        · rw [if_neg c4]
          simp_all? only [hw]
          refine ⟨by decide +kernel, ?_⟩
          rw [er]
          exact Up.of (h _ _ (.ftwo (a := a) (b := b) ho (by rcases hk with rfl | rfl <;> simp) ga gb) k7)
      simp_all? only [c2]
      refine dr k2 (by decide) (by decide) fun w s3 k3 w0 w1 => ?_
      (try simp? only)
      by_cases c3 : w = 0
      · rw [if_pos c3]
        refine g_int hc k3 (d := d) (by omega) he fun b s4 gb k4 => ?_
        exact fin _ b s4 _ (.inr rfl) gb k4 rfl rfl
      · rw [if_neg c3]
        refine g_frac hc k3 (d := d) (by omega) he fun b s4 gb k4 => ?_
        exact fin _ b s4 _ (.inl rfl) gb k4 rfl rfl
    simp_all? only [c2]
    simp_all? only
    refine dr k2 (by decide) (by decide) fun w s3 k3 w0 w1 => ?_
    (try simp? only)
    by_cases c3 : w = 0
    · rw [if_pos c3]
      refine g_frac hc k3 hd he fun a s4 ga k4 => ?_
      (try simp? only)
      refine dr k4 (by decide) (by decide) fun x s5 k5 x0 x1 => ?_
      (try simp? only)
      exact Up.of (h _ _ (.fpow ga x0 x1) k5)
    · rw [if_neg c3]
      refine g_frac hc k3 hd he fun a s4 ga k4 => ?_
      (try simp? only)
      exact Up.of (h _ _ (.fneg ga) k4)
  simp_all? only
  simp_all? only
  subst hu
  by_cases c0 : 0 < d
  · rw [if_pos (by omega)]
    refine dr k1 (by decide) (by decide) fun v s2 k2 v0 v1 => ?_
    show seqK _ _ _ _
    rw [e_seqK]
    exact tail v s2 k2 v0 v1 (.inl c0)
  · rw [if_neg (by omega)]
    show seqK _ _ _ _
    rw [e_seqK]
    exact tail 0 s1 k1 (by decide) (by decide) (.inr rfl)
theorem ok_law_rest (h : fs_law_rest (N + 1) ds M R RX) : w_law_rest fs_law_named fs_law_draw (fs_law_int (N + 1)) (fs_law_rest N) (bodyEnds R RX) (g0 8 ds) M := by
  obtain ⟨M0, p, q, s, nl, d, m, rfl, hd, rfl, hc, hs, ⟨m2, m97⟩, h⟩ := h
  show wSeq _ _ _ _ _
  refine gen_u fun u hu => ?_
  simp? only
  refine g_named (.rest m) rfl hc hs (fun s1 k1 => ?_) fun x s1 hx k1 => ?_
  rotate_left
  · simp_all? only
    exact Up.of (h _ _ (.name hx) k1)
  have tail : ∀ (v : Int) (s2 : Drw), s2.Ok → 0 ≤ v → v < 6 → (0 < d ∨ v = 0) → w_law_rest_t5 fs_law_named fs_law_draw (fs_law_int (N + 1)) (fs_law_rest N) (bodyEnds R RX) [some (D.ref p), some (D.ref q), some (D.int m), some (D.int d), some D.non, some (D.int v), none, none] (DM M0 p s2) := by
    intro v s2 k2 v0 v1 hv
    show wSeq _ _ _ _ _
    refine gen_u fun u hu => ?_
    by_cases c1 : v < 2
    · simp? only [c1, e_maxQ2, e_dm]
      refine g_int hc k2 (d := d - 1) (by omega) rfl fun a s3 ga k3 => ?_
      (try simp? only)
      exact Up.of (h _ _ (.rlit m2 m97 ga) k3)
    obtain ⟨d, rfl⟩ : ∃ e, d = e + 1 := ⟨d - 1, by omega⟩
    have he : ((d + 1 : Nat) : Int) - 1 = (d : Int) := by omega
    have hd : d < N := by omega
    simp? only [c1]
    by_cases c2 : v < 5
    · have fin : ∀ (k : Kd) (b : Tr) (s5 : Drw) (E : EndsD), (k = .rest m ∨ k = .int) → Gen nl k d b → s5.Ok → (E.rt = (bodyEnds R RX).rt) → (E.ex = (bodyEnds R RX).ex) → seqK (w_law_rest_t2 fs_law_named fs_law_draw (fs_law_int (N + 1)) (fs_law_rest N)) E [some (D.ref p), some (D.ref q), some (D.int m), some (D.int ↑(d + 1)), some D.non, some (D.int v), some b.d, none] (DM M0 p s5) := by
        intro k b s5 E hk gb k5 er ex
        obtain ⟨w, hw, hm⟩ := atI_mem (ds := [Op.add, .mul, .div].map fun o => D.str o.w) (v := v - 2) (n := 3) rfl (by omega) (by omega)
        obtain ⟨o, ho, rfl⟩ := List.mem_map.mp hm
        have ho : o = .add ∨ o = .mul ∨ o = .div := by simpa using ho
        have hw : atI [D.str (Str.ofString "add"), D.str (Str.ofString "mul"), D.str (Str.ofString "div")] (v - 2) = some (D.str o.w) := hw
        simp_all? only
        refine g_rest hc k5 hd he m2 m97 fun a s6 ga k6 => ?_
        (try simp? only)
        simp_all? only [hw]
        refine dr k6 (by decide) (by decide) fun x s7 k7 x0 x1 => ?_
        (try simp? only)
        by_cases c4 : x = 0
        · rw [if_pos c4]
          refine ⟨by decide +kernel, ?_⟩
          rw [er]
          exact Up.of (h _ _ (.rtwo (a := b) (b := a) m2 m97 ho (by rcases hk with rfl | rfl <;> simp) gb ga) k7)
        · rw [if_neg c4]
          refine ⟨by decide +kernel, ?_⟩
          rw [er]
          exact Up.of (h _ _ (.rtwo (a := a) (b := b) m2 m97 ho (by rcases hk with rfl | rfl <;> simp) ga gb) k7)
      simp_all? only [c2]
      refine dr k2 (by decide) (by decide) fun w s3 k3 w0 w1 => ?_
      (try simp? only)
      by_cases c3 : w = 0
      · rw [if_pos c3]
        refine g_int hc k3 (d := d) (by omega) he fun b s4 gb k4 => ?_
        exact fin _ b s4 _ (.inr rfl) gb k4 rfl rfl
      · rw [if_neg c3]
        refine g_rest hc k3 (d := d) (by omega) he m2 m97 fun b s4 gb k4 => ?_
        exact fin _ b s4 _ (.inl rfl) gb k4 rfl rfl
    simp_all? only [c2]
    simp_all? only
    refine dr k2 (by decide) (by decide) fun w s3 k3 w0 w1 => ?_
    (try simp? only)
    by_cases c3 : w = 0
    · rw [if_pos c3]
      refine g_rest hc k3 hd he m2 m97 fun a s4 ga k4 => ?_
      (try simp? only)
      refine dr k4 (by decide) (by decide) fun x s5 k5 x0 x1 => ?_
      (try simp? only)
      exact Up.of (h _ _ (.rpow m2 m97 ga x0 x1) k5)
    · rw [if_neg c3]
      refine g_rest hc k3 hd he m2 m97 fun a s4 ga k4 => ?_
      (try simp? only)
      exact Up.of (h _ _ (.rneg m2 m97 ga) k4)
  simp_all? only
  simp_all? only
  subst hu
  by_cases c0 : 0 < d
  · rw [if_pos (by omega)]
    refine dr k1 (by decide) (by decide) fun v s2 k2 v0 v1 => ?_
    show seqK _ _ _ _
    rw [e_seqK]
    exact tail v s2 k2 v0 v1 (.inl c0)
  · rw [if_neg (by omega)]
    show seqK _ _ _ _
    rw [e_seqK]
    exact tail 0 s1 k1 (by decide) (by decide) (.inr rfl)
end
end K03

set_option linter.all false
set_option maxRecDepth 100000
set_option maxHeartbeats 4000000
namespace K03
open PySem PySem.Spec PyProof.Rows L2 DL K04
section
variable {ds : List D} {M M0 : Mem} {R : DK} {RX : DX} {p q : Addr} {s s' : Drw} {nl : NL} {Q : DK} {QX : DX} {N d : Nat} {e m r c : Int}
theorem DM_mup {pp : Addr} {o : MO} (h : pp ≠ p) : mup (DM M0 p s) pp o = DM (mup M0 pp o) p s := by
  funext b
  unfold DM mup
  by_cases e1 : b = pp
  · subst e1; simp [h]
  · simp [e1]
theorem DM_del {pp : Addr} {out : List D} (h : DM M0 p s pp = none) : mdel (mup (DM M0 p s') pp (.lst out)) pp = DM M0 p s' := by
  refine mdel_mup ?_
  have hn : pp ≠ p := fun e => by rw [e, DM_p] at h; cases h
  unfold DM at h ⊢
  rw [mup_ne hn] at h ⊢
  exact h
theorem DC.mup {pp : Addr} {o : MO} (h : DC M0 p q nl) (hq : q ≠ pp) : DC (mup M0 pp o) p q nl where
  ne := h.ne
  at_ := by rw [mup_ne hq]; exact h.at_
  len := h.len
  ok := h.ok
theorem DC.nq {pp : Addr} (h : DC M0 p q nl) (hp : DM M0 p s pp = none) : q ≠ pp := fun e => by rw [← e, h.at] at hp; cases hp
theorem ne_p {pp : Addr} (hp : DM M0 p s pp = none) : pp ≠ p := fun e => by rw [e, DM_p] at hp; cases hp
/-- trees made one by one, by draws -/
theorem comp_trees {Γ : GE} {j n : Nat} {we : WE} {Gp : Tr → Prop} {pp : Addr} {Z : List D → Mem → Prop} (hs : s.Ok) (hp : DM M0 p s pp = none)
    (step : ∀ x s1 out (R' : DK), Drw.Ok s1 → (∀ t s2, Gp t → Drw.Ok s2 → R' t.d (DM (DL.mup M0 pp (.lst out)) p s2)) → we (DL.st Γ j x) (DM (DL.mup M0 pp (.lst out)) p s1) R' (fun c d M3 => RX c d (mdel M3 pp)))
    (fin : ∀ (ts : List Tr) s1, ts.length = n → (∀ t, t ∈ ts → Gp t) → Drw.Ok s1 → Z (ts.map Tr.d) (DL.mup (DM M0 p s1) pp (.lst (ts.map Tr.d)))) :
    lcTurnsX Γ (bN j) wYes we (upto 0 1 n) (fun _ => True) pp (DM M0 p s) RX Z := by
  have hn := ne_p hp
  refine lcX_st (fun s => DM M0 p s) (fun k s out => Drw.Ok s ∧ ∃ ts : List Tr, ts.length = k ∧ (∀ t, t ∈ ts → Gp t) ∧ out = ts.map Tr.d) s rfl ⟨hs, [], rfl, by simp, rfl⟩ (fun _ _ => trivial) ?_ ?_
  · rintro k x s1 out R' hx ⟨h1, ts, hl, hg, rfl⟩ hR
    rw [DM_mup hn, e_bN]
    refine step x s1 _ R' h1 fun t s2 gt h2 => ?_
    have := hR t.d s2 ⟨h2, ts ++ [t], by simp [hl], fun u hu => ?_, by simp⟩
    · rw [DM_mup hn] at this; exact this
    · rcases List.mem_append.mp hu with hu | hu
      · exact hg u hu
      · rw [List.mem_singleton.mp hu]; exact gt
  · rintro s1 out ⟨h1, ts, hl, hg, rfl⟩
    rw [upto_len] at hl
    exact fin ts s1 hl hg h1
theorem poly_w {k : Kd} : (Kd.w k = Str.ofString "poly") ↔ ∃ n, k = .poly n := by
  constructor
  · intro h
    cases k <;> first | exact ⟨_, rfl⟩ | (simp [Kd.w, e_ofStr] at h)
  · rintro ⟨n, rfl⟩; rfl
theorem ok_law_poly (h : fs_law_poly (N + 1) ds M R RX) : w_law_poly fs_law_draw (fs_law_int (N + 1)) (fs_law_poly N) (bodyEnds R RX) (g0 8 ds) M := by
  obtain ⟨M0, p, q, s, nl, d, rfl, hd, rfl, hc, hs, h⟩ := h
  have tail : ∀ (v : Int) (o3 : Option D) (s2 : Drw), s2.Ok → 0 ≤ v → v < 8 → (0 < d ∨ v = 0) → w_law_poly_t6 fs_law_draw (fs_law_int (N + 1)) (fs_law_poly N) (bodyEnds R RX) [some (D.ref p), some (D.ref q), some (D.int d), o3, none, some (D.int v), none, none] (DM M0 p s2) := by
    intro v o3 s2 k2 v0 v1 hv
    show wSeq _ _ _ _ _
    refine gen_u fun u hu => ?_
    by_cases c1 : v < 2
    · simp? only [c1, e_lcX]
      refine dr k2 (by decide) (by decide) fun w s3 k3 w0 w1 => ?_
      (try simp? only)
      refine ⟨by unfold inLine; omega, fun _ => by omega, fun pp hpp => ?_⟩
      refine comp_trees (Gp := fun t => Gen nl .int (d - 2) t) k3 hpp (fun x s4 out R' k4 hR => ?_) fun ts s4 hl hg k4 => ?_
      · simp? only [e_maxQ2, e_dm2]
        exact g_int (hc.mup (hc.nq hpp)) k4 (d := d - 2) (by omega) rfl fun t s5 gt k5 => hR t s5 gt k5
      · rw [DM_del hpp]
        have ht : R (Tr.call "poly" ts).d (DM M0 p s4) := h _ _ _ (.plit (by omega) (by omega) hg) k4
        simp only [Tr.d, ds_map] at ht
        exact Up.of ht
    obtain ⟨d, rfl⟩ : ∃ e, d = e + 1 := ⟨d - 1, by omega⟩
    have he : ((d + 1 : Nat) : Int) - 1 = (d : Int) := by omega
    have hd : d < N := by omega
    simp? only [c1]
    by_cases c2 : v < 5
    · have fin : ∀ (k : Kd) (b : Tr) (s5 : Drw) (E : EndsD), (k = .int ∨ ∃ n, k = .poly n) → Gen nl k d b → s5.Ok → (E.rt = (bodyEnds R RX).rt) → (E.ex = (bodyEnds R RX).ex) → seqK (w_law_poly_t1 fs_law_draw (fs_law_int (N + 1)) (fs_law_poly N)) E [some (D.ref p), some (D.ref q), some (D.int ↑(d + 1)), o3, none, some (D.int v), none, some b.d] (DM M0 p s5) := by
        intro k b s5 E hk gb k5 er ex
        obtain ⟨w, hw, hm⟩ := atI_mem (ds := [Op.add, .sub, .mul].map fun o => D.str o.w) (v := v - 2) (n := 3) rfl (by omega) (by omega)
        obtain ⟨o, ho, rfl⟩ := List.mem_map.mp hm
        have ho : o = .add ∨ o = .sub ∨ o = .mul := by simpa using ho
        have hw : atI [D.str (Str.ofString "add"), D.str (Str.ofString "sub"), D.str (Str.ofString "mul")] (v - 2) = some (D.str o.w) := hw
        simp_all? only [hw]
        refine g_poly hc k5 hd he fun n a s6 ga k6 => ?_
        (try simp? only)
        rw [er]
        rcases hk with rfl | ⟨n2, rfl⟩
        · exact Up.of (h _ _ _ (.pint ho ga gb) k6)
        · exact Up.of (h _ _ _ (.ptwo ho ga gb) k6)
      simp_all? only [c2]
      refine dr k2 (by decide) (by decide) fun w s3 k3 w0 w1 => ?_
      (try simp? only)
      by_cases c3 : w = 0
      · rw [if_pos c3]
        refine g_int hc k3 (d := d) (by omega) he fun b s4 gb k4 => ?_
        exact fin _ b s4 _ (.inl rfl) gb k4 rfl rfl
      · rw [if_neg c3]
        refine g_poly hc k3 (d := d) (by omega) he fun n b s4 gb k4 => ?_
        exact fin _ b s4 _ (.inr ⟨n, rfl⟩) gb k4 rfl rfl
    simp_all? only [c2]
    by_cases c3 : v = 5
    · simp_all? only [c3]
      refine g_poly hc k2 hd he fun n a s3 ga k3 => ?_
      (try simp? only)
      exact Up.of (h _ _ _ (.pneg ga) k3)
    simp_all? only [c3]
    by_cases c4 : v = 6
    · simp_all? only [c4]
      refine g_poly hc k2 hd he fun n a s3 ga k3 => ?_
      (try simp? only)
      refine dr k3 (by decide) (by decide) fun x s4 k4 x0 x1 => ?_
      (try simp? only)
      exact Up.of (h _ _ _ (.ppow ga x0 x1) k4)
    simp_all? only [c4]
    simp_all? only
    refine dr k2 (by decide) (by decide) fun x s3 k3 x0 x1 => ?_
    have hx : x = 0 ∨ x = 1 ∨ x = 2 := by omega
    rcases hx with rfl | rfl | rfl
    · simp? only [e_at0]
      refine g_poly hc k3 hd he fun n a s4 ga k4 => ?_
      (try simp? only)
      refine g_poly hc k4 hd he fun n2 b s5 gb k5 => ?_
      (try simp? only)
      exact Up.of (h _ _ _ (.pquo ga gb) k5)
    · simp? only [e_at1]
      refine g_poly hc k3 hd he fun n a s4 ga k4 => ?_
      (try simp? only)
      refine g_poly hc k4 hd he fun n2 b s5 gb k5 => ?_
      (try simp? only)
      exact Up.of (h _ _ _ (.pmod ga gb) k5)
    · simp? only [e_at2]
      refine g_poly hc k3 hd he fun n a s4 ga k4 => ?_
      (try simp? only)
      refine g_poly hc k4 hd he fun n2 b s5 gb k5 => ?_
      (try simp? only)
      exact Up.of (h _ _ _ (.pgcd ga gb) k5)
  have head : ∀ (o3 : Option D) (s1 : Drw), s1.Ok → w_law_poly_t7 fs_law_draw (fs_law_int (N + 1)) (fs_law_poly N) (bodyEnds R RX) [some (D.ref p), some (D.ref q), some (D.int d), o3, none, none, none, none] (DM M0 p s1) := by
    intro o3 s1 k1
    show wSeq _ _ _ _ _
    refine gen_u fun u hu => ?_
    simp? only
    subst hu
    by_cases c0 : 0 < d
    · rw [if_pos (by omega)]
      refine dr k1 (by decide) (by decide) fun v s2 k2 v0 v1 => ?_
      show seqK _ _ _ _
      rw [e_seqK]
      exact tail v _ s2 k2 v0 v1 (.inl c0)
    · rw [if_neg (by omega)]
      show seqK _ _ _ _
      rw [e_seqK]
      exact tail 0 _ s1 k1 (by decide) (by decide) (.inr rfl)
  show wSeq _ _ _ _ _
  refine gen_u fun u hu => ?_
  simp? only
  show onDKo (DM M0 p s q) _
  rw [hc.at]
  refine ⟨by unfold kvN; rw [List.length_map]; have := hc.len; omega, ?_⟩
  have ek : (kvN nl).map (fun kv => kD kv.1) = (nl.map (·.1)).map D.str := by unfold kvN; rw [List.map_map, List.map_map]; rfl
  rw [ek]
  refine ⟨nl.map (·.1), rfl, by rw [List.length_map]; exact hc.len, fun ys hy => ?_⟩
  show ∀ pp, _ → _
  intro pp hpp
  refine lc_filt (f := D.str) (l := ys) (fun x => match nget nl x with
    | some k => decide (k.w = Str.ofString "poly")
    | none => false) D.str (fun _ => trivial) (fun x R' out hx hR => ?_) (fun x R' out hx hR => ?_) ?_
  · have hq : mup (DM M0 p s) pp (.lst out) q = some (.dK (kvN nl)) := by rw [mup_ne (fun e => by rw [← e, hc.at] at hpp; cases hpp)]; exact hc.at
    obtain ⟨pr, hpm, e⟩ := List.mem_map.mp (hy.mem_iff.mp hx)
    subst e
    have hg := hc.ok.get _ hpm
    simp? only [hq, names_n, hg, Option.map_some, e_k0, e_eqS]
    rw [hg] at hR
    simpa using hR
  · simp? only
    exact hR
  · rw [mdel_mup hpp]
    have hxs : ∀ x ∈ ys.filter (fun x => match nget nl x with
        | some k => decide (k.w = Str.ofString "poly")
        | none => false), ∃ n, (x, Kd.poly n) ∈ nl := fun x hx => by
      have := (List.mem_filter.mp hx).2
      cases e : nget nl x with
      | none => rw [e] at this; cases this
      | some k =>
        rw [e] at this
        obtain ⟨n, rfl⟩ := poly_w.mp (of_decide_eq_true this)
        exact ⟨n, nget_mem e⟩
    have hln : (ys.filter (fun x => match nget nl x with
        | some k => decide (k.w = Str.ofString "poly")
        | none => false)).length < 64 := by
      have a := List.length_filter_le (fun x => match nget nl x with
        | some k => decide (k.w = Str.ofString "poly")
        | none => false) ys
      have b := hy.length_eq
      rw [List.length_map] at b
      have := hc.len
      omega
    generalize ys.filter (fun x => match nget nl x with
        | some k => decide (k.w = Str.ofString "poly")
        | none => false) = xs at hxs hln
    cases xs with
    | nil =>
      simp_all? only
      rw [if_neg (by simp)]
      subst hu
      show seqK _ _ _ _
      rw [e_seqK]
      exact head _ s hs
    | cons x r =>
      simp_all? only
      rw [if_pos (by omega)]
      refine dr hs (by decide) (by decide) fun v s1 k1 a1 b1 => ?_
      simp? only
      by_cases hv : v = 0
      · rw [if_pos hv]
        have el : (((List.map D.str r).length + 1 : Nat) : Int) = ((x :: r).length : Nat) := by simp
        refine dr k1 (by omega) (by rw [el]; omega) fun j s2 k2 a2 b2 => ?_
        obtain ⟨d, hd, hm⟩ := atI_mem (ds := (x :: r).map D.str) (n := (x :: r).length) (by simp) a2 (by rw [← el]; exact b2)
        obtain ⟨y, hy, rfl⟩ := List.mem_map.mp hm
        obtain ⟨n, hn⟩ := hxs _ hy
        simp? only [show atI (D.str x :: List.map D.str r) j = _ from hd]
        exact Up.of (h _ _ _ (.name hn) k2)
      · rw [if_neg hv]
        subst hu
        show seqK _ _ _ _
        rw [e_seqK]
        exact head _ s1 k1
end
end K03

set_option linter.all false
set_option maxRecDepth 100000
set_option maxHeartbeats 4000000
namespace K03
open PySem PySem.Spec PyProof.Rows L2 DL K04
section
variable {ds : List D} {M M0 : Mem} {R : DK} {RX : DX} {p q : Addr} {s s' : Drw} {nl : NL} {Q : DK} {QX : DX} {N d : Nat} {e m r c : Int}
theorem ok_law_row (h : fs_law_row (N + 1) ds M R RX) : w_law_row fs_law_named fs_law_draw (fs_law_int (N + 1)) (fs_law_row N) (fs_law_table N) (bodyEnds R RX) (g0 8 ds) M := by
  obtain ⟨M0, p, q, s, nl, d, m, rfl, hd, rfl, hc, hs, ⟨m1, m3⟩, h⟩ := h
  show wSeq _ _ _ _ _
  refine gen_u fun u hu => ?_
  simp? only
  refine g_named (.row m) rfl hc hs (fun s1 k1 => ?_) fun x s1 hx k1 => ?_
  rotate_left
  · simp_all? only
    exact Up.of (h _ _ (.name hx) k1)
  have tail : ∀ (v : Int) (s2 : Drw), s2.Ok → 0 ≤ v → v < 6 → (0 < d ∨ v = 0) → w_law_row_t5 fs_law_named fs_law_draw (fs_law_int (N + 1)) (fs_law_row N) (fs_law_table N) (bodyEnds R RX) [some (D.ref p), some (D.ref q), some (D.int m), some (D.int d), some D.non, some (D.int v), none, none] (DM M0 p s2) := by
    intro v s2 k2 v0 v1 hv
    show wSeq _ _ _ _ _
    refine gen_u fun u hu => ?_
    by_cases c1 : v < 2
    · simp? only [c1, e_lcX]
      refine ⟨by unfold inLine; omega, fun _ => by omega, fun pp hpp => ?_⟩
      refine comp_trees (Gp := fun t => Gen nl .int (d - 2) t) k2 hpp (fun x s4 out R' k4 hR => ?_) fun ts s4 hl hg k4 => ?_
      · simp? only [e_maxQ2, e_dm2]
        exact g_int (hc.mup (hc.nq hpp)) k4 (d := d - 2) (by omega) rfl fun t s5 gt k5 => hR t s5 gt k5
      · rw [DM_del hpp]
        have em : m = (ts.length : Int) := by omega
        subst em
        have ht : R (Tr.call "row" ts).d (DM M0 p s4) := h _ _ (.wlit (by omega) (by omega) hg) k4
        simp only [Tr.d, ds_map] at ht
        exact Up.of ht
    obtain ⟨d, rfl⟩ : ∃ e, d = e + 1 := ⟨d - 1, by omega⟩
    have he : ((d + 1 : Nat) : Int) - 1 = (d : Int) := by omega
    have hd : d < N := by omega
    simp? only [c1]
    by_cases c2 : v < 4
    · obtain ⟨w, hw, hm⟩ := atI_mem (ds := [Op.add, .sub].map fun o => D.str o.w) (v := v - 2) (n := 2) rfl (by omega) (by omega)
      obtain ⟨o, ho, rfl⟩ := List.mem_map.mp hm
      have ho : o = .add ∨ o = .sub := by simpa using ho
      have hw : atI [D.str (Str.ofString "add"), D.str (Str.ofString "sub")] (v - 2) = some (D.str o.w) := hw
      simp_all? only [c2, hw]
      refine g_row hc k2 hd he m1 m3 fun a s3 ga k3 => ?_
      (try simp? only)
      refine g_row hc k3 hd he m1 m3 fun b s4 gb k4 => ?_
      (try simp? only)
      exact Up.of (h _ _ (.wtwo m1 m3 ho ga gb) k4)
    simp_all? only [c2]
    by_cases c3 : v = 4
    · simp_all? only [c3]
      refine g_int hc k2 (d := d) (by omega) he fun a s3 ga k3 => ?_
      (try simp? only)
      refine g_row hc k3 hd he m1 m3 fun b s4 gb k4 => ?_
      (try simp? only)
      exact Up.of (h _ _ (.wint m1 m3 ga gb) k4)
    simp_all? only [c3]
    simp_all? only
    refine dr k2 (by decide) (by decide) fun o s3 k3 o0 o1 => ?_
    (try simp? only)
    simp_all? only
    refine g_table hc k3 hd he ⟨m1, m3⟩ ⟨by omega, by omega⟩ fun a s4 ga k4 => ?_
    (try simp? only)
    refine g_row hc k4 hd he (by omega) (by omega) fun b s5 gb k5 => ?_
    (try simp? only)
    exact Up.of (h _ _ (.wtab m1 m3 (by omega) (by omega) ga gb) k5)
  simp_all? only
  simp_all? only
  subst hu
  by_cases c0 : 0 < d
  · rw [if_pos (by omega)]
    refine dr k1 (by decide) (by decide) fun v s2 k2 v0 v1 => ?_
    show seqK _ _ _ _
    rw [e_seqK]
    exact tail v s2 k2 v0 v1 (.inl c0)
  · rw [if_neg (by omega)]
    show seqK _ _ _ _
    rw [e_seqK]
    exact tail 0 s1 k1 (by decide) (by decide) (.inr rfl)
theorem ok_law_table (h : fs_law_table (N + 1) ds M R RX) : w_law_table fs_law_named fs_law_draw (fs_law_row (N + 1)) (fs_law_table N) (bodyEnds R RX) (g0 9 ds) M := by
  obtain ⟨M0, p, q, s, nl, d, r, c, rfl, hd, rfl, hc, hs, ⟨r1, r3⟩, ⟨c1', c3'⟩, h⟩ := h
  show wSeq _ _ _ _ _
  refine gen_u fun u hu => ?_
  simp? only
  refine g_named (.table r c) rfl hc hs (fun s1 k1 => ?_) fun x s1 hx k1 => ?_
  rotate_left
  · simp_all? only
    exact Up.of (h _ _ (.name hx) k1)
  have tail : ∀ (v : Int) (s2 : Drw), s2.Ok → 0 ≤ v → v < 7 → (0 < d ∨ v = 0) → w_law_table_t7 fs_law_named fs_law_draw (fs_law_row (N + 1)) (fs_law_table N) (bodyEnds R RX) [some (D.ref p), some (D.ref q), some (D.int r), some (D.int c), some (D.int d), some D.non, some (D.int v), none, none] (DM M0 p s2) := by
    intro v s2 k2 v0 v1 hv
    show wSeq _ _ _ _ _
    refine gen_u fun u hu => ?_
    by_cases c1 : v < 2
    · simp? only [c1, e_lcX]
      refine ⟨by unfold inLine; omega, fun _ => by omega, fun pp hpp => ?_⟩
      refine comp_trees (Gp := fun t => Gen nl (.row c) (d - 1) t) k2 hpp (fun x s4 out R' k4 hR => ?_) fun ts s4 hl hg k4 => ?_
      · simp? only [e_maxQ2, e_dm]
        exact g_row (hc.mup (hc.nq hpp)) k4 (d := d - 1) (by omega) rfl c1' c3' fun t s5 gt k5 => hR t s5 gt k5
      · rw [DM_del hpp]
        have em : r = (ts.length : Int) := by omega
        subst em
        have ht : R (Tr.call "table" ts).d (DM M0 p s4) := h _ _ (.tlit (by omega) (by omega) c1' c3' hg) k4
        simp only [Tr.d, ds_map] at ht
        exact Up.of ht
    obtain ⟨d, rfl⟩ : ∃ e, d = e + 1 := ⟨d - 1, by omega⟩
    have he : ((d + 1 : Nat) : Int) - 1 = (d : Int) := by omega
    have hd : d < N := by omega
    simp? only [c1]
    by_cases c2 : v = 2
    · simp_all? only [c2]
      refine g_table hc k2 hd he ⟨r1, r3⟩ ⟨c1', c3'⟩ fun a s3 ga k3 => ?_
      (try simp? only)
      refine g_table hc k3 hd he ⟨r1, r3⟩ ⟨c1', c3'⟩ fun b s4 gb k4 => ?_
      (try simp? only)
      exact Up.of (h _ _ (.tsub r1 r3 c1' c3' ga gb) k4)
    simp_all? only [c2]
    by_cases c3 : v = 3
    · simp_all? only [c3]
      refine g_table hc k2 hd he ⟨c1', c3'⟩ ⟨r1, r3⟩ fun a s3 ga k3 => ?_
      (try simp? only)
      exact Up.of (h _ _ (.turn r1 r3 c1' c3' ga) k3)
    simp_all? only [c3]
    by_cases c4 : v = 4
    · simp_all? only [c4]
      refine g_table hc k2 hd he ⟨r1, r3⟩ ⟨c1', c3'⟩ fun a s3 ga k3 => ?_
      (try simp? only)
      exact Up.of (h _ _ (.tneg r1 r3 c1' c3' ga) k3)
    simp_all? only [c4]
    have last : ∀ u, u = w_law_table_t2 fs_law_named fs_law_draw (fs_law_row (N + 1)) (fs_law_table N) → seqK u (bodyEnds R RX) [some (D.ref p), some (D.ref q), some (D.int r), some (D.int c), some (D.int ↑(d + 1)), some D.non, some (D.int v), none, none] (DM M0 p s2) := by
      intro u hu
      simp_all? only
      refine dr k2 (by decide) (by decide) fun o s3 k3 o0 o1 => ?_
      (try simp? only)
      simp_all? only
      refine g_table hc k3 hd he ⟨r1, r3⟩ ⟨by omega, by omega⟩ fun a s4 ga k4 => ?_
      (try simp? only)
      refine g_table hc k4 hd he ⟨by omega, by omega⟩ ⟨c1', c3'⟩ fun b s5 gb k5 => ?_
      (try simp? only)
      exact Up.of (h _ _ (.tmul r1 r3 (by omega) (by omega) c1' c3' ga gb) k5)
    by_cases c5 : v = 5
    · by_cases c6 : r = c
      · subst c6
        simp_all? only [c5]
        refine g_table hc k2 hd he ⟨r1, r3⟩ ⟨r1, r3⟩ fun a s3 ga k3 => ?_
        (try simp? only)
        refine dr k3 (by decide) (by decide) fun x s4 k4 x0 x1 => ?_
        (try simp? only)
        exact Up.of (h _ _ (.tpow r1 r3 ga x0 x1) k4)
      · subst c5
        simp_all? only [c6]
        exact last _ hu
    · simp_all? only [c5]
      exact last _ hu
  simp_all? only
  simp_all? only
  subst hu
  by_cases c0 : 0 < d
  · rw [if_pos (by omega)]
    refine dr k1 (by decide) (by decide) fun v s2 k2 v0 v1 => ?_
    show seqK _ _ _ _
    rw [e_seqK]
    exact tail v s2 k2 v0 v1 (.inl c0)
  · rw [if_neg (by omega)]
    show seqK _ _ _ _
    rw [e_seqK]
    exact tail 0 s1 k1 (by decide) (by decide) (.inr rfl)
def fs_law_any : FS := fun ds M R _ => ∃ (M0 : Mem) (p q : Addr) (s : Drw) (nl : NL) (d : Nat), ds = [.ref p, .ref q, .int (d : Int)] ∧ d < 4 ∧ M = DM M0 p s ∧ DC M0 p q nl ∧ s.Ok ∧ ∀ k, GS nl M0 p R k d
theorem ok_law_any (h : fs_law_any ds M R RX) : w_law_any fs_law_draw (fs_law_int 4) (fs_law_frac 4) (fs_law_rest 4) (fs_law_poly 4) (fs_law_row 4) (fs_law_table 4) (bodyEnds R RX) (g0 4 ds) M := by
  obtain ⟨M0, p, q, s, nl, d, rfl, hd, rfl, hc, hs, h⟩ := h
  show wSeq _ _ _ _ _
  refine gen_u fun u hu => ?_
  simp? only
  refine dr hs (by decide) (by decide) fun v s2 k2 v0 v1 => ?_
  (try simp? only)
  by_cases c1 : v < 2
  · simp_all? only [c1]
    by_cases c2 : v = 0
    · rw [if_pos c2]
      exact g_int hc k2 hd rfl fun t s3 gt k3 => Up.of (h _ _ _ gt k3)
    · rw [if_neg c2]
      exact g_frac hc k2 hd rfl fun t s3 gt k3 => Up.of (h _ _ _ gt k3)
  simp_all? only [c1]
  by_cases c2 : v = 2
  · simp_all? only [c2]
    refine dr k2 (by decide) (by decide) fun x s3 k3 x0 x1 => ?_
    have hx : x = 0 ∨ x = 1 ∨ x = 2 := by omega
    rcases hx with rfl | rfl | rfl
    · simp? only [e_at0]
      exact g_rest hc k3 hd rfl (by decide) (by decide) fun t s3 gt k3 => Up.of (h _ _ _ gt k3)
    · simp? only [e_at1]
      exact g_rest hc k3 hd rfl (by decide) (by decide) fun t s3 gt k3 => Up.of (h _ _ _ gt k3)
    · simp? only [e_at2]
      exact g_rest hc k3 hd rfl (by decide) (by decide) fun t s3 gt k3 => Up.of (h _ _ _ gt k3)
  simp_all? only [c2]
  by_cases c3 : v = 3
  · simp_all? only [c3]
    exact g_poly hc k2 hd rfl fun n t s3 gt k3 => Up.of (h _ _ _ gt k3)
  simp_all? only [c3]
  by_cases c4 : v = 4
  · simp_all? only [c4]
    refine dr k2 (by decide) (by decide) fun x s3 k3 x0 x1 => ?_
    (try simp? only)
    exact g_row hc k3 hd rfl (by omega) (by omega) fun t s3 gt k3 => Up.of (h _ _ _ gt k3)
  simp_all? only [c4]
  simp_all? only
  refine dr k2 (by decide) (by decide) fun x s3 k3 x0 x1 => ?_
  (try simp? only)
  refine dr k3 (by decide) (by decide) fun y s4 k4 y0 y1 => ?_
  (try simp? only)
  exact g_table hc k4 hd rfl ⟨by omega, by omega⟩ ⟨by omega, by omega⟩ fun t s3 gt k3 => Up.of (h _ _ _ gt k3)
end
end K03

set_option linter.all false
set_option maxRecDepth 100000
set_option maxHeartbeats 4000000
namespace K03
open PySem PySem.Spec PyProof.Rows L2 DL K04
section
variable {AD : Ads} {ds : List D} {M M0 : Mem} {R : DK} {RX : DX}
def fs_law_kind_two : FS := fun ds M R _ => ∃ (o : Op) (a b k : Kd), ds = [.str o.w, a.d, b.d] ∧ lkTwo o a b = some k ∧ R k.d M
theorem ok_law_kind_two (h : fs_law_kind_two ds M R RX) : w_law_kind_two (bodyEnds R RX) (g0 3 ds) M := by
  obtain ⟨o, a, b, k, rfl, hk, h⟩ := h
  cases o
  case quo =>
    cases hk
    dsimp? only [w_law_kind_two, Op.w, e_inS2, kw1, kw2, kw3, kw4, kw5, kw6, kw7, ki3, ki4, ki5, ki6, ki7, kj6, kj7, e_ofStr, String.reduceEq, decide_true, decide_false, Bool.or_false, Bool.or_true, Bool.true_or, if_true, if_false, or_false, or_true, true_or, false_or, e_eqS, k_int]
    exact Up.of h
  case mod =>
    cases hk
    dsimp? only [w_law_kind_two, Op.w, e_inS2, kw1, kw2, kw3, kw4, kw5, kw6, kw7, ki3, ki4, ki5, ki6, ki7, kj6, kj7, e_ofStr, String.reduceEq, decide_true, decide_false, Bool.or_false, Bool.or_true, Bool.true_or, if_true, if_false, or_false, or_true, true_or, false_or, e_eqS, k_int]
    exact Up.of h
  case div =>
    cases hk
    cases a <;> cases b <;> dsimp? only [w_law_kind_two, Op.w, e_inS2, e_k0, kw1, kw2, kw3, kw4, kw5, kw6, kw7, ki3, ki4, ki5, ki6, ki7, kj6, kj7, e_ofStr, String.reduceEq, decide_true, decide_false, Bool.or_false, Bool.or_true, Bool.true_or, if_true, if_false, or_false, or_true, true_or, false_or, e_eqS, k_frac] <;> exact Up.of h
  case add =>
    cases a
    case poly n =>
      cases b <;> cases hk <;> dsimp? only [w_law_kind_two, Op.w, e_inS2, e_k0, e_k1, kw1, kw2, kw3, kw4, kw5, kw6, kw7, ki3, ki4, ki5, ki6, ki7, kj6, kj7, e_ofStr, String.reduceEq, decide_true, decide_false, Bool.or_false, Bool.or_true, Bool.true_or, if_true, if_false, or_false, or_true, true_or, false_or, e_eqS, e_eqK, k_int, reduceCtorEq, e_maxQ2] <;> exact Up.of h
    all_goals
      cases hk
      dsimp? only [w_law_kind_two, Op.w, e_inS2, e_k0, kw1, kw2, kw3, kw4, kw5, kw6, kw7, ki3, ki4, ki5, ki6, ki7, kj6, kj7, e_ofStr, String.reduceEq, decide_true, decide_false, Bool.or_false, Bool.or_true, Bool.true_or, if_true, if_false, or_false, or_true, true_or, false_or, e_eqS, e_eqK, k_int, reduceCtorEq]
      exact Up.of h
  case sub =>
    cases a
    case poly n =>
      cases b <;> cases hk <;> dsimp? only [w_law_kind_two, Op.w, e_inS2, e_k0, e_k1, kw1, kw2, kw3, kw4, kw5, kw6, kw7, ki3, ki4, ki5, ki6, ki7, kj6, kj7, e_ofStr, String.reduceEq, decide_true, decide_false, Bool.or_false, Bool.or_true, Bool.true_or, if_true, if_false, or_false, or_true, true_or, false_or, e_eqS, e_eqK, k_int, reduceCtorEq, e_maxQ2] <;> exact Up.of h
    all_goals
      cases hk
      dsimp? only [w_law_kind_two, Op.w, e_inS2, e_k0, kw1, kw2, kw3, kw4, kw5, kw6, kw7, ki3, ki4, ki5, ki6, ki7, kj6, kj7, e_ofStr, String.reduceEq, decide_true, decide_false, Bool.or_false, Bool.or_true, Bool.true_or, if_true, if_false, or_false, or_true, true_or, false_or, e_eqS, e_eqK, k_int, reduceCtorEq]
      exact Up.of h
  case mul =>
    cases a
    case poly n =>
      cases b <;> cases hk <;> dsimp? only [w_law_kind_two, Op.w, e_inS2, e_k0, e_k1, kw1, kw2, kw3, kw4, kw5, kw6, kw7, ki3, ki4, ki5, ki6, ki7, kj6, kj7, e_ofStr, String.reduceEq, decide_true, decide_false, Bool.or_false, Bool.or_true, Bool.true_or, if_true, if_false, or_false, or_true, true_or, false_or, e_eqS, e_eqK, k_int, reduceCtorEq, e_maxQ2] <;> exact Up.of h
    case table r c =>
      cases b <;> cases hk <;> dsimp? only [w_law_kind_two, Op.w, e_inS2, e_k0, e_k1, e_k2, kw1, kw2, kw3, kw4, kw5, kw6, kw7, ki3, ki4, ki5, ki6, ki7, kj6, kj7, e_ofStr, String.reduceEq, decide_true, decide_false, Bool.or_false, Bool.or_true, Bool.true_or, if_true, if_false, or_false, or_true, true_or, false_or, e_eqS, e_eqK, k_int, reduceCtorEq, e_maxQ2] <;> exact Up.of h
    all_goals
      cases hk
      dsimp? only [w_law_kind_two, Op.w, e_inS2, e_k0, kw1, kw2, kw3, kw4, kw5, kw6, kw7, ki3, ki4, ki5, ki6, ki7, kj6, kj7, e_ofStr, String.reduceEq, decide_true, decide_false, Bool.or_false, Bool.or_true, Bool.true_or, if_true, if_false, or_false, or_true, true_or, false_or, e_eqS, e_eqK, k_int, reduceCtorEq]
      exact Up.of h
end
end K03

set_option linter.all false
set_option maxRecDepth 100000
set_option maxHeartbeats 4000000
namespace K03
open PySem PySem.Spec PyProof.Rows L2 DL K04
section
variable {AD : Ads} {ds : List D} {M M0 : Mem} {R : DK} {RX : DX} {N : Nat}
def fs_law_kind (N : Nat) : FS := fun ds M R _ => ∃ (t : Tr) (q : Addr) (nm : Str → Option Kd) (kvs : List (Key × D)) (k : Kd), ds = [t.d, .ref q] ∧ M q = some (.dK kvs) ∧ Names nm kvs ∧ t.ht ≤ N ∧ t.lok nm ∧ lk nm t = some k ∧ R k.d M
theorem e_ixks {ks : List Kd} {M : Mem} {Q : DK} {i : Int} {k : Kd} (h : atI (ks.map Kd.d) i = some k.d) : fIx (.lst (ks.map Kd.d)) (.int i) M Q = Q k.d M := by
  rw [e_ixL, h]; rfl
theorem ok_kcall {w : Str} {ts : List Tr} {ks : List Kd} {k : Kd} {o1 o2 o3 o5 : Option D} (hl : ts.length ≤ 1000) (hk : lks nm ts = some ks) (hc : lkCall w ts ks = some k) (h : R k.d M) {f1 f2 : FS} :
    w_law_kind_t8 f1 f2 (bodyEnds R RX) [some (.tup [.str "call", .str w, .tup (ts.map Tr.d)]), o1, o2, o3, some (.lst (ks.map Kd.d)), o5] M := by
  unfold lkCall at hc
  show wSeq _ _ _ _ _
  refine gen_u fun u hu => ?_
  by_cases h1 : w = "row"
  · subst h1
    rw [if_pos rfl] at hc
    cases hc
    simp? only [e_at1, e_inS2, kw1, kw2, kw3, kw4, kw5, kw6, kw7, ki3, ki4, ki5, ki6, ki7, kj6, kj7, e_ofStr, String.reduceEq, decide_true, decide_false, Bool.or_false, Bool.or_true, Bool.true_or, if_true, if_false, or_false, or_true, true_or, false_or, e_eqS, List.length_map]
    exact Up.of h
  by_cases h2 : w = "poly"
  · subst h2
    rw [if_neg h1, if_pos rfl] at hc
    cases hc
    simp? only [e_at1, e_inS2, kw1, kw2, kw3, kw4, kw5, kw6, kw7, ki3, ki4, ki5, ki6, ki7, kj6, kj7, e_ofStr, String.reduceEq, decide_true, decide_false, Bool.or_false, Bool.or_true, Bool.true_or, if_true, if_false, or_false, or_true, true_or, false_or, e_eqS, List.length_map]
    exact Up.of h
  rw [if_neg h1, if_neg h2] at hc
  have h1' : ¬ Str.ofString "row" = w := fun e => h1 e.symm
  have h2' : ¬ Str.ofString "poly" = w := fun e => h2 e.symm
  simp? only [e_at1, e_inS2, kw1, kw2, kw3, kw4, kw5, kw6, kw7, ki3, ki4, ki5, ki6, ki7, kj6, kj7, e_ofStr, String.reduceEq, decide_true, decide_false, Bool.or_false, Bool.or_true, Bool.true_or, if_true, if_false, or_false, or_true, true_or, false_or, e_eqS, h1', h2']
  by_cases h3 : w = "table"
  · subst h3
    rw [if_pos rfl] at hc
    cases ks with
    | nil => cases hc
    | cons k0 r =>
      simp only at hc
      cases e : k0.i1 with
      | none => rw [e] at hc; cases hc
      | some n =>
        rw [e] at hc
        cases hc
        simp_all? only [e_at1, kw1, kw2, kw3, kw4, kw5, kw6, kw7, ki3, ki4, ki5, ki6, ki7, kj6, kj7, e_ofStr, String.reduceEq, decide_true, decide_false, Bool.or_false, Bool.or_true, Bool.true_or, if_true, if_false, or_false, or_true, true_or, false_or, e_eqS, e_at0, e_k1, e, List.length_map]
        exact Up.of h
  rw [if_neg h3] at hc
  simp_all? only [e_at1, kw1, kw2, kw3, kw4, kw5, kw6, kw7, ki3, ki4, ki5, ki6, ki7, kj6, kj7, e_ofStr, String.reduceEq, decide_true, decide_false, Bool.or_false, Bool.or_true, Bool.true_or, if_true, if_false, or_false, or_true, true_or, false_or, e_eqS, h3]
  by_cases h4 : w = "rest"
  · subst h4
    rw [if_pos rfl] at hc
    split at hc
    · rename_i t n
      cases hc
      simp only [List.map_cons, List.map_nil, Tr.d]
      simp_all? only [e_at1, e_at2, kw1, kw2, kw3, kw4, kw5, kw6, kw7, ki3, ki4, ki5, ki6, ki7, kj6, kj7, e_ofStr, String.reduceEq, decide_true, decide_false, Bool.or_false, Bool.or_true, Bool.true_or, if_true, if_false, or_false, or_true, true_or, false_or, e_eqS]
      exact Up.of h
    · cases hc
  rw [if_neg h4] at hc
  simp_all? only [e_at1, kw1, kw2, kw3, kw4, kw5, kw6, kw7, ki3, ki4, ki5, ki6, ki7, kj6, kj7, e_ofStr, String.reduceEq, decide_true, decide_false, Bool.or_false, Bool.or_true, Bool.true_or, if_true, if_false, or_false, or_true, true_or, false_or, e_eqS, h4]
  by_cases h5 : w = "polyquo" ∨ w = "polymod" ∨ w = "polygcd"
  · rw [if_pos h5] at hc
    split at hc
    · rename_i n m
      cases hc
      rcases h5 with rfl | rfl | rfl
      · simp_all? only [e_at0, e_at1, e_at2, kw1, kw2, kw3, kw4, kw5, kw6, kw7, ki3, ki4, ki5, ki6, ki7, kj6, kj7, e_ofStr, String.reduceEq, decide_true, decide_false, Bool.or_false, Bool.or_true, Bool.true_or, if_true, if_false, or_false, or_true, true_or, false_or, e_eqS, e_inS3, e_k1, e_maxQ2]
        simp [e_ofStr] at h
        exact Up.of h
      · simp_all? only [e_at0, e_at1, e_at2, kw1, kw2, kw3, kw4, kw5, kw6, kw7, ki3, ki4, ki5, ki6, ki7, kj6, kj7, e_ofStr, String.reduceEq, decide_true, decide_false, Bool.or_false, Bool.or_true, Bool.true_or, if_true, if_false, or_false, or_true, true_or, false_or, e_eqS, e_inS3, e_k1, e_maxQ2]
        simp [e_ofStr] at h
        exact Up.of h
      · simp_all? only [e_at0, e_at1, e_at2, kw1, kw2, kw3, kw4, kw5, kw6, kw7, ki3, ki4, ki5, ki6, ki7, kj6, kj7, e_ofStr, String.reduceEq, decide_true, decide_false, Bool.or_false, Bool.or_true, Bool.true_or, if_true, if_false, or_false, or_true, true_or, false_or, e_eqS, e_inS3, e_k1, e_maxQ2]
        simp [e_ofStr] at h
        exact Up.of h
    · cases hc
  rw [if_neg h5] at hc
  have h5a : ¬ Str.ofString "polyquo" = w := fun e => h5 (.inl e.symm)
  have h5b : ¬ Str.ofString "polymod" = w := fun e => h5 (.inr (.inl e.symm))
  have h5c : ¬ Str.ofString "polygcd" = w := fun e => h5 (.inr (.inr e.symm))
  simp_all? only [e_at1, kw1, kw2, kw3, kw4, kw5, kw6, kw7, ki3, ki4, ki5, ki6, ki7, kj6, kj7, e_ofStr, String.reduceEq, decide_true, decide_false, Bool.or_false, Bool.or_true, Bool.true_or, if_true, if_false, or_false, or_true, true_or, false_or, e_eqS, e_inS3, h5a, h5b, h5c]
  by_cases h6 : w = "turned"
  · subst h6
    rw [if_pos rfl] at hc
    split at hc
    · rename_i n m
      cases hc
      simp_all? only [e_at0, e_at1, e_at2, kw1, kw2, kw3, kw4, kw5, kw6, kw7, ki3, ki4, ki5, ki6, ki7, kj6, kj7, e_ofStr, String.reduceEq, decide_true, decide_false, Bool.or_false, Bool.or_true, Bool.true_or, if_true, if_false, or_false, or_true, true_or, false_or, e_eqS, e_k1, e_k2]
      exact Up.of h
    · cases hc
  rw [if_neg h6] at hc
  simp_all? only [e_at1, kw1, kw2, kw3, kw4, kw5, kw6, kw7, ki3, ki4, ki5, ki6, ki7, kj6, kj7, e_ofStr, String.reduceEq, decide_true, decide_false, Bool.or_false, Bool.or_true, Bool.true_or, if_true, if_false, or_false, or_true, true_or, false_or, e_eqS, h6]
  by_cases h7 : w = "solved" ∨ w = "whole"
  · rw [if_pos h7] at hc
    split at hc
    · rename_i n m r
      cases hc
      rcases h7 with rfl | rfl
      · simp_all? only [e_at0, e_at1, e_at2, kw1, kw2, kw3, kw4, kw5, kw6, kw7, ki3, ki4, ki5, ki6, ki7, kj6, kj7, e_ofStr, String.reduceEq, decide_true, decide_false, Bool.or_false, Bool.or_true, Bool.true_or, if_true, if_false, or_false, or_true, true_or, false_or, e_eqS, e_inS2, e_k1, e_k2]
        exact Up.of h
      · simp_all? only [e_at0, e_at1, e_at2, kw1, kw2, kw3, kw4, kw5, kw6, kw7, ki3, ki4, ki5, ki6, ki7, kj6, kj7, e_ofStr, String.reduceEq, decide_true, decide_false, Bool.or_false, Bool.or_true, Bool.true_or, if_true, if_false, or_false, or_true, true_or, false_or, e_eqS, e_inS2, e_k1, e_k2]
        exact Up.of h
    · cases hc
  rw [if_neg h7] at hc
  have h7a : ¬ Str.ofString "solved" = w := fun e => h7 (.inl e.symm)
  have h7b : ¬ Str.ofString "whole" = w := fun e => h7 (.inr e.symm)
  simp_all? only [e_at1, kw1, kw2, kw3, kw4, kw5, kw6, kw7, ki3, ki4, ki5, ki6, ki7, kj6, kj7, e_ofStr, String.reduceEq, decide_true, decide_false, Bool.or_false, Bool.or_true, Bool.true_or, if_true, if_false, or_false, or_true, true_or, false_or, e_eqS, e_inS2, h7a, h7b]
  by_cases h8 : w = "reduced" ∨ w = "hermite"
  · rw [if_pos h8] at hc
    cases ks with
    | nil => cases hc
    | cons k0 r =>
      cases hc
      rcases h8 with rfl | rfl
      · simp_all? only [e_at0, e_at1, kw1, kw2, kw3, kw4, kw5, kw6, kw7, ki3, ki4, ki5, ki6, ki7, kj6, kj7, e_ofStr, String.reduceEq, decide_true, decide_false, Bool.or_false, Bool.or_true, Bool.true_or, if_true, if_false, or_false, or_true, true_or, false_or, e_eqS, e_inS2]
        exact Up.of h
      · simp_all? only [e_at0, e_at1, kw1, kw2, kw3, kw4, kw5, kw6, kw7, ki3, ki4, ki5, ki6, ki7, kj6, kj7, e_ofStr, String.reduceEq, decide_true, decide_false, Bool.or_false, Bool.or_true, Bool.true_or, if_true, if_false, or_false, or_true, true_or, false_or, e_eqS, e_inS2]
        exact Up.of h
  rw [if_neg h8] at hc
  have h8a : ¬ Str.ofString "reduced" = w := fun e => h8 (.inl e.symm)
  have h8b : ¬ Str.ofString "hermite" = w := fun e => h8 (.inr e.symm)
  cases hc
  simp_all? only [e_at1, kw1, kw2, kw3, kw4, kw5, kw6, kw7, ki3, ki4, ki5, ki6, ki7, kj6, kj7, e_ofStr, String.reduceEq, decide_true, decide_false, Bool.or_false, Bool.or_true, Bool.true_or, if_true, if_false, or_false, or_true, true_or, false_or, e_eqS, e_inS2, h8a, h8b, k_int]
  exact Up.of h
theorem ok_law_kind (h : fs_law_kind (N + 1) ds M R RX) : w_law_kind (fs_law_kind N) fs_law_kind_two (bodyEnds R RX) (g0 6 ds) M := by
  obtain ⟨t, q, nm, kvs, k, rfl, hq, hn, ht, hok, hk, h⟩ := h
  cases t with
  | int n =>
    unfold lk at hk; cases hk
    simp only [Tr.d]
    dsimp? only [w_law_kind, e_at0, e_at1, kw1, kw2, kw3, kw4, kw5, kw6, kw7, ki3, ki4, ki5, ki6, ki7, kj6, kj7, e_ofStr, String.reduceEq, decide_true, decide_false, Bool.or_false, Bool.or_true, Bool.true_or, if_true, if_false, or_false, or_true, true_or, false_or, e_eqS, k_int]
    exact Up.of h
  | name x =>
    unfold lk at hk
    simp only [Tr.d]
    dsimp? only [w_law_kind, e_at0, e_at1, kw1, kw2, kw3, kw4, kw5, kw6, kw7, ki3, ki4, ki5, ki6, ki7, kj6, kj7, e_ofStr, String.reduceEq, decide_true, decide_false, Bool.or_false, Bool.or_true, Bool.true_or, if_true, if_false, or_false, or_true, true_or, false_or, e_eqS, k_int, hq, hn x, hk, Option.map_some]
    exact Up.of h
  | neg t =>
    simp only [Tr.d]
    simp only [Tr.ht] at ht
    simp only [Tr.lok] at hok
    simp only [lk] at hk
    dsimp? only [w_law_kind, e_at0, e_at1, kw1, kw2, kw3, kw4, kw5, kw6, kw7, ki3, ki4, ki5, ki6, ki7, kj6, kj7, e_ofStr, String.reduceEq, decide_true, decide_false, Bool.or_false, Bool.or_true, Bool.true_or, if_true, if_false, or_false, or_true, true_or, false_or, e_eqS, e_inS2]
    refine ⟨t, q, nm, kvs, k, rfl, hq, hn, by omega, hok, hk, ?_⟩
    dsimp? only [kw1, kw2, kw3, kw4, kw5, kw6, kw7, ki3, ki4, ki5, ki6, ki7, kj6, kj7, e_ofStr, String.reduceEq, decide_true, decide_false, Bool.or_false, Bool.or_true, Bool.true_or, if_true, if_false, or_false, or_true, true_or, false_or, e_eqS]
    exact Up.of h
  | pow t e =>
    simp only [Tr.d]
    simp only [Tr.ht] at ht
    simp only [Tr.lok] at hok
    obtain ⟨hok, hb, he1, he2⟩ := hok
    simp only [lk] at hk
    dsimp? only [w_law_kind, e_at0, e_at1, kw1, kw2, kw3, kw4, kw5, kw6, kw7, ki3, ki4, ki5, ki6, ki7, kj6, kj7, e_ofStr, String.reduceEq, decide_true, decide_false, Bool.or_false, Bool.or_true, Bool.true_or, if_true, if_false, or_false, or_true, true_or, false_or, e_eqS, e_inS2]
    cases e1 : lk nm t with
    | none => rw [e1] at hk; cases hk
    | some k1 =>
      rw [e1] at hk
      cases hk
      refine ⟨t, q, nm, kvs, k1, rfl, hq, hn, by omega, hok, e1, ?_⟩
      cases k1 with
      | poly n =>
        have := hb n e1
        dsimp? only [kw1, kw2, kw3, kw4, kw5, kw6, kw7, ki3, ki4, ki5, ki6, ki7, kj6, kj7, e_ofStr, String.reduceEq, decide_true, decide_false, Bool.or_false, Bool.or_true, Bool.true_or, if_true, if_false, or_false, or_true, true_or, false_or, e_eqS, e_k0, e_k1, e_at2]
        refine ⟨mulOk_of (m := 24) (n := 24) (by omega) (by omega) (by decide), ?_⟩
        exact Up.of h
      | _ =>
        dsimp? only [kw1, kw2, kw3, kw4, kw5, kw6, kw7, ki3, ki4, ki5, ki6, ki7, kj6, kj7, e_ofStr, String.reduceEq, decide_true, decide_false, Bool.or_false, Bool.or_true, Bool.true_or, if_true, if_false, or_false, or_true, true_or, false_or, e_eqS, e_k0, e_k1, e_at2]
        exact Up.of h
  | two o t u =>
    simp only [Tr.d]
    simp only [Tr.ht] at ht
    simp only [Tr.lok] at hok
    simp only [lk] at hk
    cases e1 : lk nm t with
    | none => rw [e1] at hk; cases hk
    | some k1 =>
      cases e2 : lk nm u with
      | none => rw [e1, e2] at hk; cases hk
      | some k2 =>
        rw [e1, e2] at hk
        dsimp? only [w_law_kind, e_at0, e_at1, e_at2, e_inS2, kw1, kw2, kw3, kw4, kw5, kw6, kw7, ki3, ki4, ki5, ki6, ki7, kj6, kj7, e_ofStr, String.reduceEq, decide_true, decide_false, Bool.or_false, Bool.or_true, Bool.true_or, if_true, if_false, or_false, or_true, true_or, false_or, e_eqS, o1, o2, o3, o4, o5, Bool.not_false]
        rw [if_neg (by cases o <;> simp [Op.w, e_ofStr])]
        refine ⟨t, q, nm, kvs, k1, rfl, hq, hn, by omega, hok.1, e1, ?_⟩
        refine ⟨u, q, nm, kvs, k2, rfl, hq, hn, by omega, hok.2, e2, ?_⟩
        exact ⟨o, k1, k2, k, rfl, hk, Up.of h⟩
  | call w ts =>
    simp only [Tr.d]
    simp only [Tr.ht] at ht
    simp only [Tr.lok] at hok
    simp only [lk] at hk
    cases e1 : lks nm ts with
    | none => rw [e1] at hk; cases hk
    | some ks =>
      rw [e1] at hk
      show wSeq _ _ _ _ _
      refine gen_u fun u hu => ?_
      simp? only [e_at0]
      simp_all? only [kw1, kw2, kw3, kw4, kw5, kw6, kw7, ki3, ki4, ki5, ki6, ki7, kj6, kj7, e_ofStr, String.reduceEq, decide_true, decide_false, Bool.or_false, Bool.or_true, Bool.true_or, if_true, if_false, or_false, or_true, true_or, false_or, e_eqS]
      simp_all? only [kw1, kw2, kw3, kw4, kw5, kw6, kw7, ki3, ki4, ki5, ki6, ki7, kj6, kj7, e_ofStr, String.reduceEq, decide_true, decide_false, Bool.or_false, Bool.or_true, Bool.true_or, if_true, if_false, or_false, or_true, true_or, false_or, e_eqS]
      simp_all? only [kw1, kw2, kw3, kw4, kw5, kw6, kw7, ki3, ki4, ki5, ki6, ki7, kj6, kj7, e_ofStr, String.reduceEq, decide_true, decide_false, Bool.or_false, Bool.or_true, Bool.true_or, if_true, if_false, or_false, or_true, true_or, false_or, e_eqS, e_inS2]
      simp_all? only [kw1, kw2, kw3, kw4, kw5, kw6, kw7, ki3, ki4, ki5, ki6, ki7, kj6, kj7, e_ofStr, String.reduceEq, decide_true, decide_false, Bool.or_false, Bool.or_true, Bool.true_or, if_true, if_false, or_false, or_true, true_or, false_or, e_eqS, e_neS]
      simp_all? only [e_at2, e_lcX]
      intro p hp
      have hqp : q ≠ p := fun e => by rw [← e, hq] at hp; cases hp
      rw [ds_map]
      refine lcX_mapA (ε := Unit) (fun t => .ok (lkD nm t)) (fun _ => trivial) (fun i t out R' htk hpre hR => ?_) fun out hout => ?_
      · simp? only [e_bN]
        have hm : t ∈ ts := List.mem_of_getElem? htk
        obtain ⟨kt, hkt⟩ := lks_mem e1 hm
        refine ⟨t, q, nm, kvs, kt, rfl, by rw [mup_ne hqp]; exact hq, hn, by have := ht_mem hm; omega, lok_mem hok.1 hm, hkt, ?_⟩
        have := hR (lkD nm t) rfl
        unfold lkD at this
        rw [hkt] at this
        exact this
      · have e := mapM_pure hout
        subst e
        rw [mdel_mup hp, lks_map e1]
        subst hu
        show seqK _ _ _ _
        rw [e_seqK]
        exact ok_kcall hok.2 e1 hk h
end
end K03

set_option linter.all false
set_option maxRecDepth 100000
set_option maxHeartbeats 1000000
namespace K03
open PySem PySem.Spec L2 DL K04
/-- the same things -/
def dep : Nat → D → Prop
  | _, .non => True
  | _, .bl _ => True
  | _, .int _ => True
  | _, .str _ => True
  | n + 1, .lst xs => xs.length ≤ 1000000 ∧ ∀ x, x ∈ xs → dep n x
  | n + 1, .tup xs => xs.length ≤ 1000000 ∧ ∀ x, x ∈ xs → dep n x
  | _, _ => False
/-- the same things, dicts of the store by what they hold -/
def Sm (M : Mem) : Nat → D → D → Prop
  | n + 1, .ref a, .ref b => a ≠ b ∧ ∃ kvs, M a = some (.dK kvs) ∧ M b = some (.dK kvs) ∧ kvs.length ≤ 1000000 ∧ ∀ kv, kv ∈ kvs → ∃ x, kv.1 = .inr x ∧ vget kvs (.inr x) = some kv.2 ∧ dep n kv.2
  | n + 1, .lst xs, .lst ys => xs.length = ys.length ∧ xs.length ≤ 1000000 ∧ ∀ (i : Nat) x y, xs[i]? = some x → ys[i]? = some y → Sm M n x y
  | n, x, y => x = y ∧ dep n x
theorem Sm.of : ∀ {n : Nat} {x : D} {M : Mem}, dep n x → Sm M n x x
  | 0, x, M, h => by cases x <;> exact ⟨rfl, h⟩
  | n + 1, x, M, h => by
    cases x with
    | lst xs => exact ⟨rfl, h.1, fun i x y hx hy => by
        rw [hx] at hy; cases hy
        exact Sm.of (h.2 x (List.mem_of_getElem? hx))⟩
    | ref a => exact h.elim
    | _ => exact ⟨rfl, h⟩
theorem Sm.mup {M : Mem} {p : Addr} {o : MO} (hp : M p = none) : ∀ {n : Nat} {x y : D}, Sm M n x y → Sm (DL.mup M p o) n x y
  | 0, x, y, h => by cases x <;> cases y <;> exact h
  | n + 1, x, y, h => by
    cases x <;> cases y <;> first
      | exact h
      | (obtain ⟨h0, kvs, h1, h2, h3⟩ := h
         exact ⟨h0, kvs, by rw [mup_ne (fun e => by rw [e, hp] at h1; cases h1)]; exact h1, by rw [mup_ne (fun e => by rw [e, hp] at h2; cases h2)]; exact h2, h3⟩)
      | (obtain ⟨h0, h1, h2⟩ := h
         exact ⟨h0, h1, fun i x y hx hy => Sm.mup hp (h2 i x y hx hy)⟩)
def fs_law_same : Nat → FS
  | 0 => fun _ _ _ _ => False
  | n + 1 => fun ds M R _ => ∃ x y, ds = [x, y] ∧ Sm M n x y ∧ R (.bl true) M
theorem e_in4 : "str" ∈ ["bool", "int", "str", "list", "tuple", "dict"] := by decide
theorem e_in5 : "dict" ∈ ["bool", "int", "str", "list", "tuple", "dict"] := by decide
theorem e_in6 : "tuple" ∈ ["bool", "int", "str", "list", "tuple", "dict"] := by decide
theorem t_sb : isT "str" "bool" = false := by decide
theorem t_ss : isT "str" "str" = true := by decide
theorem t_lb : isT "list" "bool" = false := by decide
theorem t_li : isT "list" "int" = false := by decide
theorem t_ls : isT "list" "str" = false := by decide
theorem t_ld : isT "list" "dict" = false := by decide
theorem t_tb : isT "tuple" "bool" = false := by decide
theorem t_ti : isT "tuple" "int" = false := by decide
theorem t_ts : isT "tuple" "str" = false := by decide
theorem t_td : isT "tuple" "dict" = false := by decide
theorem t_tt : isT "tuple" "tuple" = true := by decide
theorem t_ib : isT "int" "bool" = false := by decide
theorem t_ii : isT "int" "int" = true := by decide
theorem t_db : isT "dict" "bool" = false := by decide
theorem t_di : isT "dict" "int" = false := by decide
theorem t_dst : isT "dict" "str" = false := by decide
theorem t_dd : isT "dict" "dict" = true := by decide
theorem tyN_d {M : Mem} {a : Addr} {kvs : List (Key × D)} (h : M a = some (.dK kvs)) : tyN (.ref a) M = some "dict" := by
  unfold tyN; simp only [h]
theorem lkE_of {M : Mem} {R : DK} {RX : DX} {i : Nat} {we : WE} {Γ : GE} {a : Addr} {kvs : List (Key × D)} (hg : gt Γ i = some (.ref a)) (ha : M a = some (.dK kvs)) (h : ∀ od vk, we Γ (mup M a (.fK od vk kvs)) (fun d => unl a od vk kvs (R d)) FX) : wLkE i we Γ M R RX := by
  unfold wLkE
  rw [hg]
  show onDKo (M a) _
  rw [ha]
  exact h
/-- all([.. for key in due]) over a dict that stands still -/
theorem all_keys {M : Mem} {R : DK} {RX : DX} {i j : Nat} {we : WE} {Γ : GE} {a : Addr} {kvs : List (Key × D)} (hg : gt Γ i = some (.ref a)) (ha : M a = some (.dK kvs)) (hl : kvs.length ≤ 16777216)
    (step : ∀ kv, kv ∈ kvs → ∀ (R' : DK) (pp : Addr) od vk out, M pp = none → R' (.bl true) (mup (mup M a (.fK od vk kvs)) pp (.lst out)) → we (DL.st Γ j (kD kv.1)) (mup (mup M a (.fK od vk kvs)) pp (.lst out)) R' FX) (h : R (.bl true) M) :
    wLkE i (wCB cAll (wCons (wLc j (wiKeys (wVar i)) wYes we) wNil)) Γ M R RX := by
  refine lkE_of hg ha fun od vk => ?_
  show wLc j (wiKeys (wVar i)) wYes we Γ _ (fun d M1 => cAll [d] M1 fun d => unl a od vk kvs (R d)) FX
  rw [e_lc]
  unfold wiKeys
  show wVar i Γ _ _ _
  unfold wVar
  rw [hg]
  show onFK (mup M a _ a) _
  rw [mup_same]
  refine ⟨hl, fun pp hpp => ?_⟩
  have hpa : pp ≠ a := fun e => by rw [e, mup_same] at hpp; cases hpp
  have hM : M pp = none := by rw [← hpp, mup_ne hpa]
  refine lc_mapZ (fun _ => D.bl true) (fun out => by rw [mup_ne (Ne.symm hpa), mup_same]) ?_ ?_
  · intro z hz R' out hR
    obtain ⟨kv, hk, rfl⟩ := List.mem_map.mp hz
    exact step kv hk R' pp od vk out hM hR
  · rw [mdel_mup hpp]
    have e : (kvs.map fun kv => kD kv.1).map (fun _ => D.bl true) = (List.replicate kvs.length true).map D.bl := by
      rw [List.map_replicate, List.map_const', List.length_map]
    rw [e]
    refine cAll_of ?_
    rw [show (List.replicate kvs.length true).all (fun b => b) = true from by simp [List.all_eq_true, List.mem_replicate]]
    refine ⟨mup_same, ?_⟩
    rw [mup_mup, mup_id ha]
    exact h
theorem same_seq {n : Nat} {xs ys : List D} {M : Mem} {R : DK} {x y : D} (hx : (x = .lst xs ∧ y = .lst ys) ∨ (x = .tup xs ∧ y = .tup ys)) (hl : xs.length = ys.length) (hd : ∀ (i : Nat) x y, xs[i]? = some x → ys[i]? = some y → Sm M n x y) (h : R (.bl true) M) {k : Nat} (hk : k = ys.length) (p : Addr) (hp : M p = none) {o1 o2 o3 : Option D} :
    lcTurns [some x, some y, o1, o2, o3] 4 wYes (wCall (fs_law_same (n + 1)) (wCons (wOp fIx (wVar 0) (wVar 4)) (wCons (wOp fIx (wVar 1) (wVar 4)) wNil))) (upto 0 1 k) (fun _ => True) p M (fun out M' => cAll [.lst out] (mdel M' p) R) := by
  subst hk
  refine lc_mapZ (C := fun _ => True) (fun _ => D.bl true) (fun _ => trivial) ?_ ?_
  · intro z hz R' out hR
    obtain ⟨j, hj, rfl⟩ : ∃ j : Nat, j < ys.length ∧ z = .int (j : Int) := by
      obtain ⟨j, hj⟩ := List.getElem?_of_mem hz
      have hl : j < ys.length := by have := (List.getElem?_eq_some_iff.mp hj).1; rwa [upto_len] at this
      rw [upto_get hl] at hj
      exact ⟨j, hl, by cases hj; simp⟩
    have g1 : xs[j]? = some xs[j] := List.getElem?_eq_getElem (by omega)
    have g2 : ys[j]? = some ys[j] := List.getElem?_eq_getElem hj
    have e : atI xs (j : Int) = some xs[j] := atI_nat g1
    have e2 : atI ys (j : Int) = some ys[j] := atI_nat g2
    rcases hx with ⟨rfl, rfl⟩ | ⟨rfl, rfl⟩
    · dsimp? only [e, e2]
      exact ⟨_, _, rfl, (hd j _ _ g1 g2).mup hp, hR⟩
    · dsimp? only [e, e2]
      exact ⟨_, _, rfl, (hd j _ _ g1 g2).mup hp, hR⟩
  · rw [mdel_mup hp]
    have e : (upto 0 1 ys.length).map (fun _ => D.bl true) = (List.replicate ys.length true).map D.bl := by
      rw [List.map_replicate, List.map_const', upto_len]
    rw [e]
    refine cAll_of ?_
    rw [show (List.replicate ys.length true).all (fun b => b) = true from by simp [List.all_eq_true, List.mem_replicate]]
    exact h
theorem ok_law_same {n : Nat} {ds : List D} {M : Mem} {R : DK} {RX : DX} (h : fs_law_same (n + 1) ds M R RX) : w_law_same (fs_law_same n) (bodyEnds R RX) (g0 5 ds) M := by
  obtain ⟨x, y, rfl, hd, h⟩ := h
  by_cases hr : ∃ a b, x = .ref a ∧ y = .ref b
  · obtain ⟨a, b, rfl, rfl⟩ := hr
    cases n with
    | zero => exact hd.2.elim
    | succ n =>
    obtain ⟨hab, kvs, ha, hb, hl, hk⟩ := hd
    show wSeq _ _ _ _ _
    refine gen_u fun u hu => ?_
    simp? only [ha, hb]
    rw [if_neg (show ¬ DL.isNon (.ref b) = true from fun z => by cases z)]
    have ta := tyN_d ha
    have tb := tyN_d hb
    simp_all? only [ta, tb, t_db, t_di, t_dst, t_dd]
    refine ⟨by decide, ?_⟩
    simp_all? only [ta, tb, t_db, t_di, t_dst, t_dd]
    refine ⟨by decide, ?_⟩
    simp_all? only [ta, tb, t_db, t_di, t_dst, t_dd]
    refine ⟨by decide, ?_⟩
    simp_all? only [ta, tb, t_db, t_di, t_dst, t_dd]
    refine ⟨by decide, by decide, ?_⟩
    rw [ha, hb]
    show if ¬ ((kvs.length : Int) = (kvs.length : Int)) then _ else _
    rw [if_neg (fun z => z rfl)]
    refine all_keys rfl hb (by omega) (fun kv hkv R' pp od vk out hpp hR => ?_) ?_
    · obtain ⟨x, ex, eg, _⟩ := hk kv hkv
      have hA : mup (mup M b (.fK od vk kvs)) pp (.lst out) a = some (.dK kvs) := by rw [mup_ne (fun e => by rw [← e, ha] at hpp; cases hpp), mup_ne hab]; exact ha
      rw [ex]
      simp? only [hA, e_onDK, eg, show kD (Sum.inr x) = D.str x from rfl]
      exact hR
    · simp? only
      subst hu
      show seqK _ _ _ _
      rw [e_seqK]
      show wRet _ _ _ _
      refine all_keys rfl hb (by omega) (fun kv hkv R' pp od vk out hpp hR => ?_) ?_
      · obtain ⟨x, ex, eg, hdp⟩ := hk kv hkv
        have hA : mup (mup M b (.fK od vk kvs)) pp (.lst out) a = some (.dK kvs) := by rw [mup_ne (fun e => by rw [← e, ha] at hpp; cases hpp), mup_ne hab]; exact ha
        have hB : mup (mup M b (.fK od vk kvs)) pp (.lst out) b = some (.fK od vk kvs) := by rw [mup_ne (fun e => by rw [← e, hb] at hpp; cases hpp), mup_same]
        rw [ex]
        simp? only [hA, hB, e_onDK, e_onFK, eg, show kD (Sum.inr x) = D.str x from rfl]
        exact ⟨_, _, rfl, Sm.of hdp, hR⟩
      · exact Up.of h
  by_cases hlst : ∃ xs ys, x = .lst xs ∧ y = .lst ys
  · obtain ⟨xs, ys, rfl, rfl⟩ := hlst
    cases n with
    | zero => exact hd.2.elim
    | succ n =>
      obtain ⟨h0, h1, h2⟩ := hd
      dsimp? only [w_law_same, t_lb, t_li, t_ls, t_ld, e_isT7, e_in1, e_in2, e_in3, e_in4, e_in5, h0, decide_true]
      refine ⟨inl_nat (by omega), by omega, fun p hp => ?_⟩
      rw [Int.toNat_natCast]
      exact same_seq (.inl ⟨rfl, rfl⟩) h0 h2 (R := fun d M => Up (R d) M) (Up.of h) (by omega) p hp
  have hd : x = y ∧ dep n x := by
    cases n with
    | zero => cases x <;> cases y <;> exact hd
    | succ n => cases x <;> cases y <;> first | exact hd | exact absurd ⟨_, _, rfl, rfl⟩ hr | exact absurd ⟨_, _, rfl, rfl⟩ hlst
  obtain ⟨rfl, hdd⟩ := hd
  cases x with
  | non => dsimp? only [w_law_same]; exact Up.of h
  | bl b => dsimp? only [w_law_same, e_isT4, e_in2, decide_true]; exact Up.of h
  | int i => dsimp? only [w_law_same, t_ib, t_ii, e_in1, e_in2, Bool.not_false, decide_true]; exact Up.of h
  | str i => dsimp? only [w_law_same, t_sb, e_isT6, t_ss, e_in1, e_in2, e_in4, decide_true]; exact Up.of h
  | lst xs => exact absurd ⟨_, _, rfl, rfl⟩ hlst
  | tup xs =>
    cases n with
    | zero => exact hdd.elim
    | succ n =>
      dsimp? only [w_law_same, t_tb, t_ti, t_ts, t_td, e_isT8, t_tt, e_in1, e_in2, e_in3, e_in4, e_in5, e_in6, decide_true]
      have hl := hdd.1
      refine ⟨inl_nat (by omega), by omega, fun p hp => ?_⟩
      rw [Int.toNat_natCast]
      exact same_seq (.inr ⟨rfl, rfl⟩) rfl (fun i x y hx hy => by rw [hx] at hy; cases hy; exact Sm.of (hdd.2 _ (List.mem_of_getElem? hx))) (R := fun d M => Up (R d) M) (Up.of h) rfl p hp
  | _ => cases n <;> exact hdd.elim
end K03

set_option linter.all false
set_option maxRecDepth 100000
set_option maxHeartbeats 4000000
namespace K03
open PySem PySem.Spec PyProof.Rows L2 DL K04
structure KvOk (n : Nat) (kvs : List (Key × D)) : Prop where
  len : kvs.length ≤ 1000000
  key : ∀ kv, kv ∈ kvs → ∃ x, kv.1 = .inr x ∧ vget kvs (.inr x) = some kv.2 ∧ dep n kv.2
  nd : (kvs.map (·.1)).Nodup
def fs_law_copy : Nat → FS
  | 0 => fun _ _ _ _ => False
  | n + 1 => fun ds M R _ => (∃ d, ds = [d] ∧ dep n d ∧ R d M) ∨ (∃ a kvs, ds = [.ref a] ∧ M a = some (.dK kvs) ∧ KvOk (n - 1) kvs ∧ 0 < n ∧ ∀ p, M p = none → R (.ref p) (mup M p (.dK kvs))) ∨
    (∃ d a kvs, ds = [.lst [d, .ref a]] ∧ M a = some (.dK kvs) ∧ dep (n - 1) d ∧ KvOk (n - 2) kvs ∧ 1 < n ∧ ∀ p, M p = none → R (.lst [d, .ref p]) (mup M p (.dK kvs)))
theorem mup_comm {M : Mem} {p q : Addr} {o u : MO} (h : p ≠ q) : mup (mup M p o) q u = mup (mup M q u) p o := by
  funext b
  unfold mup
  by_cases e1 : b = q
  · subst e1; simp [Ne.symm h]
  · simp [e1]
theorem lkS_of {M : Mem} {i : Nat} {w : WS} {E : EndsD} {Γ : GE} {a : Addr} {kvs : List (Key × D)} (hg : gt Γ i = some (.ref a)) (ha : M a = some (.dK kvs)) (h : ∀ od vk, w { nx := fun Γ1 => unl a od vk kvs (E.nx Γ1), rt := fun d => unl a od vk kvs (E.rt d), bk := fun Γ1 => unl a od vk kvs (E.bk Γ1), ct := fun Γ1 => unl a od vk kvs (E.ct Γ1), ex := fun _ _ _ _ => False } Γ (mup M a (.fK od vk kvs))) : wLkS i w E Γ M := by
  unfold wLkS
  rw [hg]
  show onDKo (M a) _
  rw [ha]
  exact h
theorem t_dl : isT "dict" "list" = false := by decide
theorem t_dt : isT "dict" "tuple" = false := by decide
theorem t_nl : isT "NoneType" "list" = false := by decide
theorem t_nt : isT "NoneType" "tuple" = false := by decide
theorem t_nd : isT "NoneType" "dict" = false := by decide
theorem t_bl : isT "bool" "list" = false := by decide
theorem t_bt : isT "bool" "tuple" = false := by decide
theorem t_bd : isT "bool" "dict" = false := by decide
theorem t_il : isT "int" "list" = false := by decide
theorem t_it : isT "int" "tuple" = false := by decide
theorem t_id : isT "int" "dict" = false := by decide
theorem t_sl : isT "str" "list" = false := by decide
theorem t_st : isT "str" "tuple" = false := by decide
theorem t_sd : isT "str" "dict" = false := by decide
theorem in_l : ("list" ∈ ["bool", "int", "str", "list", "tuple", "dict"]) = True := by simp
theorem in_t : ("tuple" ∈ ["bool", "int", "str", "list", "tuple", "dict"]) = True := by simp
theorem in_d : ("dict" ∈ ["bool", "int", "str", "list", "tuple", "dict"]) = True := by simp
theorem ok_law_copy {n : Nat} {ds : List D} {M : Mem} {R : DK} {RX : DX} (h : fs_law_copy (n + 1) ds M R RX) : w_law_copy (fs_law_copy n) (bodyEnds R RX) (g0 4 ds) M := by
  rcases h with ⟨d, rfl, hd, h⟩ | ⟨a, kvs, rfl, ha, hk, hn, h⟩ | ⟨d, a, kvs, rfl, ha, hd, hk, hn, h⟩
  · cases d with
    | non => dsimp? only [w_law_copy, t_nl, t_nt, t_nd, t_bl, t_bt, t_bd, t_il, t_it, t_id, t_sl, t_st, t_sd, in_l, in_t, in_d, true_and]; exact Up.of h
    | bl b => dsimp? only [w_law_copy, t_nl, t_nt, t_nd, t_bl, t_bt, t_bd, t_il, t_it, t_id, t_sl, t_st, t_sd, in_l, in_t, in_d, true_and]; exact Up.of h
    | int i => dsimp? only [w_law_copy, t_nl, t_nt, t_nd, t_bl, t_bt, t_bd, t_il, t_it, t_id, t_sl, t_st, t_sd, in_l, in_t, in_d, true_and]; exact Up.of h
    | str i => dsimp? only [w_law_copy, t_nl, t_nt, t_nd, t_bl, t_bt, t_bd, t_il, t_it, t_id, t_sl, t_st, t_sd, in_l, in_t, in_d, true_and]; exact Up.of h
    | lst xs =>
      cases n with
      | zero => exact hd.elim
      | succ n =>
        show wSeq _ _ _ _ _
        refine gen_u fun u hu => ?_
        simp? only [e_isT7, e_lcX]
        refine ⟨by decide, fun pp hpp => ?_⟩
        refine lcX_st (fun _ : Unit => M) (fun k _ out => out = xs.take k) () rfl rfl (fun _ _ => trivial) ?_ ?_
        · rintro k x o out R' hx rfl hR
          simp? only [e_bN]
          exact .inl ⟨x, rfl, hd.2 x (List.mem_of_getElem? hx), hR x () (by rw [List.take_add_one, hx]; rfl)⟩
        · rintro o out rfl
          rw [mdel_mup hpp, List.take_length]
          exact Up.of h
    | tup xs =>
      cases n with
      | zero => exact hd.elim
      | succ n =>
        show wSeq _ _ _ _ _
        refine gen_u fun u hu => ?_
        simp? only [e_isT8]
        refine ⟨by decide, ?_⟩
        simp_all? only [t_tt, e_lcX]
        refine ⟨by decide, fun pp hpp => ?_⟩
        refine lcX_st (fun _ : Unit => M) (fun k _ out => out = xs.take k) () rfl rfl (fun _ _ => trivial) ?_ ?_
        · rintro k x o out R' hx rfl hR
          simp? only [e_bN]
          exact .inl ⟨x, rfl, hd.2 x (List.mem_of_getElem? hx), hR x () (by rw [List.take_add_one, hx]; rfl)⟩
        · rintro o out rfl
          rw [mdel_mup hpp, List.take_length]
          (try simp? only)
          exact Up.of h
    | _ => cases n <;> exact hd.elim
  · cases n with
    | zero => omega
    | succ n =>
    show wSeq _ _ _ _ _
    refine gen_u fun u hu => ?_
    have ta := tyN_d ha
    simp? only [ta, t_dl]
    refine ⟨by decide, ?_⟩
    simp_all? only [ta, t_dt]
    refine ⟨by decide, ?_⟩
    simp_all? only [ta, t_dd]
    refine ⟨by decide, fun p hp => ?_⟩
    have hap : a ≠ p := fun e => by rw [← e, ha] at hp; cases hp
    show seqK _ _ _ _
    rw [e_seqK]
    show wSeq _ _ _ _ _
    refine gen_u fun u2 hu2 => ?_
    refine lkS_of (kvs := kvs) rfl (by rw [mup_ne hap]; exact ha) fun od vk => ?_
    rw [mup_comm hap.symm, e_for]
    unfold wiKeys
    show wVar 0 _ _ _ _
    unfold wVar
    show onFK (mup (mup M a _) p _ a) _
    rw [mup_ne hap, mup_same]
    refine ⟨by have := hk.len; omega, ?_⟩
    have hA : ∀ o, mup (mup M a (.fK od vk kvs)) p o a = some (.fK od vk kvs) := fun o => by rw [mup_ne hap, mup_same]
    refine for_ix (fun _ : Nat => [some (D.ref a), none, some (D.ref p), none]) (fun i => mup (mup M a (.fK od vk kvs)) p (.dK (kvs.take i))) (fun k i => i = k) 0 rfl rfl rfl ?_ ?_
    · rintro k x i hx rfl
      refine ⟨hA _, ?_⟩
      rw [List.getElem?_map] at hx
      cases hkv : kvs[i]? with
      | none => rw [hkv] at hx; cases hx
      | some kv =>
        rw [hkv] at hx
        have ex := Option.some.inj hx
        subst ex
        obtain ⟨x, ek, eg, hd⟩ := hk.key kv (List.mem_of_getElem? hkv)
        rw [e_gNm, e_envK]
        obtain ⟨kk, vv⟩ := kv
        simp only at ek eg hd
        subst ek
        simp? only [hA, e_onFK, eg, show kD (Sum.inr x) = D.str x from rfl]
        refine .inl ⟨vv, rfl, hd, ?_⟩
        have hi : i < kvs.length := (List.getElem?_eq_some_iff.mp hkv).1
        have nw : vget (kvs.take i) (.inr x) = none := by
          rw [← Option.not_isSome_iff_eq_none, ← vget_any]
          intro z
          obtain ⟨kv, hm, he⟩ := List.any_eq_true.mp z
          have he : kv.1 = .inr x := of_decide_eq_true he
          obtain ⟨j, hj⟩ := List.getElem?_of_mem hm
          have hj2 : j < i := by
            have := (List.getElem?_eq_some_iff.mp hj).1
            rw [List.length_take] at this; omega
          rw [List.getElem?_take_of_lt hj2] at hj
          have n1 : (kvs.map (·.1))[j]? = some (.inr x) := by rw [List.getElem?_map, hj]; exact congrArg some he
          have n2 : (kvs.map (·.1))[i]? = some (.inr x) := by rw [List.getElem?_map, hkv]; rfl
          have := (List.getElem?_inj (by rw [List.length_map]; omega) hk.nd).mp (n1.trans n2.symm)
          omega
        have e1 : vput (kvs.take i) (.inr x) vv = kvs.take (i + 1) := by
          rw [vput_new vv nw, List.take_add_one, hkv]; rfl
        have hP : mup (mup M a (.fK od vk kvs)) p (.dK (kvs.take i)) p = some (.dK (kvs.take i)) := mup_same
        unfold dPut
        simp only [hP]
        show (kvs.take i).length < sizeLine ∧ Wk _ _ (mup (mup (mup M a (.fK od vk kvs)) p (.dK (kvs.take i))) p (.dK (vput (kvs.take i) (.inr x) vv)))
        rw [e1, mup_mup]
        refine ⟨by rw [List.length_take, sizeLine_eq]; have := hk.len; omega, ?_⟩
        exact wk_of (Γ' := [some (D.ref a), none, some (D.ref p), none]) (by simp [LeG]) (LeM.refl _) ⟨i + 1, rfl, rfl, rfl⟩
    · rintro i rfl
      refine ⟨hA _, ?_⟩
      rw [List.length_map, List.take_length]
      show unl a od vk kvs _ _
      refine ⟨hA _, ?_⟩
      rw [mup_comm hap.symm, mup_mup, mup_id ha]
      subst hu2
      show wRet (wVar 2) (setNx (bodyEnds R RX) (seqK u (bodyEnds R RX))) [some (D.ref a), none, some (D.ref p), none] (mup M p (.dK kvs))
      simp? only
      exact Up.of (h p hp)
  · obtain ⟨m, rfl⟩ : ∃ m, n = m + 2 := ⟨n - 2, by omega⟩
    show wSeq _ _ _ _ _
    refine gen_u fun u hu => ?_
    simp? only [e_isT7, e_lcX]
    refine ⟨by decide, fun pp hpp => ?_⟩
    have happ : a ≠ pp := fun e => by rw [← e, ha] at hpp; cases hpp
    refine lcX_st (fun o : Option Addr => match o with
      | some p => mup M p (.dK kvs)
      | none => M) (fun k o out => k = 0 ∧ o = none ∧ out = [] ∨ k = 1 ∧ o = none ∧ out = [d] ∨ k = 2 ∧ ∃ p, o = some p ∧ M p = none ∧ p ≠ pp ∧ out = [d, .ref p]) none rfl (.inl ⟨rfl, rfl, rfl⟩) (fun _ _ => trivial) ?_ ?_
    · rintro k x o out R' hx hP hR
      rcases hP with ⟨rfl, rfl, rfl⟩ | ⟨rfl, rfl, rfl⟩ | ⟨rfl, p, rfl, _⟩
      · have : d = x := by simpa using hx
        subst this
        simp? only [e_bN]
        exact .inl ⟨d, rfl, hd, hR d none (.inr (.inl ⟨rfl, rfl, rfl⟩))⟩
      · have : D.ref a = x := by simpa using hx
        subst this
        simp? only [e_bN]
        refine .inr (.inl ⟨a, kvs, rfl, by rw [mup_ne happ]; exact ha, hk, by omega, fun p hp => ?_⟩)
        have hpp2 : p ≠ pp := fun e => by rw [e, mup_same] at hp; cases hp
        have hM : M p = none := by rw [← hp, mup_ne hpp2]
        have := hR (.ref p) (some p) (.inr (.inr ⟨rfl, p, rfl, hM, hpp2, rfl⟩))
        rw [mup_comm hpp2.symm]
        exact this
      · simp at hx
    · rintro o out hP
      rcases hP with ⟨z, _⟩ | ⟨z, _⟩ | ⟨_, p, rfl, hp, hpp2, rfl⟩
      · cases z
      · cases z
      · rw [mdel_mup (show mup M p (.dK kvs) pp = none by rw [mup_ne hpp2.symm]; exact hpp)]
        exact Up.of (h p hp)
end K03

set_option linter.all false
set_option maxRecDepth 100000
set_option maxHeartbeats 4000000
namespace K03
open PySem PySem.Spec PyProof.Rows L2 DL K04
def toldD : Ex Kd → D
  | .ok k => .tup [.str "told", k.d]
  | .error e => .tup [.str "wrong", .str e]
section
variable {K : PySem.W.Frag} {AD : Ads} {ds : List D} {M : Mem} {R : DK} {RX : DX}
def fs_law_told (N : Nat) : FS := fun ds M R _ => ∃ (t : Tr) (a : Addr) (nm : Str → Option Kd) (kvs : List (Key × D)), ds = [t.d, .ref a] ∧ M a = some (.dK kvs) ∧ Names nm kvs ∧ t.ht ≤ N ∧ t.ok nm ∧ R (toldD (kindOf nm t)) M
theorem ok_law_told {N : Nat} (hE : PySem.W.exmOne K (.ref AD.Wrong) (.ref AD.Wrong) = some true) (h : fs_law_told N ds M R RX) : w_law_told K AD (fs_kind_of AD N) (bodyEnds R RX) (g0 3 ds) M := by
  obtain ⟨t, a, nm, kvs, rfl, ha, hn, hh, ho, h⟩ := h
  dsimp? only [w_law_told, e_try]
  refine ⟨t, a, nm, kvs, rfl, ha, hn, hh, ho, ?_⟩
  cases e : kindOf nm t with
  | ok k => rw [e] at h; exact Up.of h
  | error x =>
    rw [e] at h
    exact ⟨true, hE, fun _ => ⟨by simp [Ads.errs], fun _ _ => Up.of h⟩, fun q => by cases q⟩
def onesT (w : Str) (m : Nat) : Tr := .call w ((List.range m).map fun (k : Nat) => .int (k : Int))
def fs_law_ones : FS := fun ds M R _ => ∃ (w : Str) (m : Nat), ds = [.str w, .int (m : Int)] ∧ m ≤ 1000 ∧ R (onesT w m).d M
theorem upto_map (m : Nat) : upto 0 1 m = (List.range m).map fun (k : Nat) => D.int (k : Int) := by
  unfold upto
  refine List.map_congr_left fun k _ => ?_
  simp
theorem ok_law_ones (h : fs_law_ones ds M R RX) : w_law_ones (bodyEnds R RX) (g0 3 ds) M := by
  obtain ⟨w, m, rfl, hm, h⟩ := h
  dsimp? only [w_law_ones]
  refine ⟨by unfold inLine; omega, fun _ => by omega, fun p hp => ?_⟩
  rw [Int.toNat_natCast, upto_map]
  refine lc_mapA (fun k : Nat => .tup [.str "int", .int (k : Int)]) (fun _ => trivial) (fun k x R' out _ hR => ?_) ?_
  · simp? only
    exact hR
  · rw [mdel_mup hp]
    have e : (onesT w m).d = .tup [.str "call", .str w, .tup ((List.range m).map fun (k : Nat) => D.tup [.str "int", .int (k : Int)])] := by
      unfold onesT
      simp only [Tr.d, ds_map, List.map_map]
      rfl
    rw [e] at h
    exact Up.of h
end
/-! ### depths -/
theorem dep_mono : ∀ {n m : Nat} {d : D}, n ≤ m → dep n d → dep m d
  | 0, m, d, _, h => by cases d <;> first | exact h.elim | (cases m <;> trivial)
  | n + 1, 0, d, h, _ => by omega
  | n + 1, m + 1, d, hl, h => by
    cases d with
    | lst xs => exact ⟨h.1, fun x hx => dep_mono (by omega) (h.2 x hx)⟩
    | tup xs => exact ⟨h.1, fun x hx => dep_mono (by omega) (h.2 x hx)⟩
    | _ => first | trivial | exact h.elim
theorem dep_str (n : Nat) (x : Str) : dep n (.str x) := by cases n <;> trivial
theorem dep_int (n : Nat) (x : Int) : dep n (.int x) := by cases n <;> trivial
theorem dep_tup {n : Nat} {xs : List D} (hl : xs.length ≤ 1000000) (h : ∀ x, x ∈ xs → dep n x) : dep (n + 1) (.tup xs) := ⟨hl, h⟩
theorem dep_lst {n : Nat} {xs : List D} (hl : xs.length ≤ 1000000) (h : ∀ x, x ∈ xs → dep n x) : dep (n + 1) (.lst xs) := ⟨hl, h⟩
theorem dep2 {n : Nat} {a b : D} (ha : dep n a) (hb : dep n b) : dep (n + 1) (.tup [a, b]) := ⟨by simp, fun x hx => by
  simp only [List.mem_cons, List.not_mem_nil, or_false] at hx
  rcases hx with rfl | rfl <;> assumption⟩
theorem dep3 {n : Nat} {a b c : D} (ha : dep n a) (hb : dep n b) (hc : dep n c) : dep (n + 1) (.tup [a, b, c]) := ⟨by simp, fun x hx => by
  simp only [List.mem_cons, List.not_mem_nil, or_false] at hx
  rcases hx with rfl | rfl | rfl <;> assumption⟩
theorem dep_kd (n : Nat) (k : Kd) : dep (n + 1) k.d := by
  cases k <;> first | exact dep2 (dep_str _ _) (dep_int _ _) | exact dep3 (dep_str _ _) (dep_int _ _) (dep_int _ _) | exact ⟨by simp, fun x hx => by rw [List.mem_singleton.mp hx]; exact dep_str _ _⟩
theorem dep_told (n : Nat) (x : Ex Kd) : dep (n + 2) (toldD x) := by
  cases x with
  | ok k => exact dep2 (dep_str _ _) (dep_kd n k)
  | error e => exact dep2 (dep_str _ _) (dep_str _ _)
mutual
theorem dep_tr {nm : Str → Option Kd} : ∀ (t : Tr), t.lok nm → dep (2 * t.ht) t.d
  | .int n, _ => by simp only [Tr.d, Tr.ht]; exact dep2 (dep_str _ _) (dep_int _ _)
  | .name x, _ => by simp only [Tr.d, Tr.ht]; exact dep2 (dep_str _ _) (dep_str _ _)
  | .neg t, h => by
    simp only [Tr.d, Tr.ht]; unfold Tr.lok at h
    show dep (2 * t.ht + 1 + 1) _
    exact dep2 (dep_str _ _) (dep_mono (by omega) (dep_tr t h))
  | .pow t e, h => by
    simp only [Tr.d, Tr.ht]; unfold Tr.lok at h
    show dep (2 * t.ht + 1 + 1) _
    exact dep3 (dep_str _ _) (dep_mono (by omega) (dep_tr t h.1)) (dep_int _ _)
  | .two o a b, h => by
    simp only [Tr.d, Tr.ht]; unfold Tr.lok at h
    show dep (2 * max a.ht b.ht + 1 + 1) _
    exact dep3 (dep_str _ _) (dep_mono (by omega) (dep_tr a h.1)) (dep_mono (by omega) (dep_tr b h.2))
  | .call w ts, h => by
    simp only [Tr.d, Tr.ht]; unfold Tr.lok at h
    show dep (2 * Tr.hts ts + 1 + 1) _
    refine dep3 (dep_str _ _) (dep_str _ _) ?_
    refine ⟨by rw [ds_map, List.length_map]; omega, fun x hx => dep_trs ts h.1 x hx⟩
theorem dep_trs {nm : Str → Option Kd} : ∀ (ts : List Tr), Tr.loks nm ts → ∀ x, x ∈ Tr.ds ts → dep (2 * Tr.hts ts) x
  | [], _, x, hx => by unfold Tr.ds at hx; cases hx
  | t :: ts, h, x, hx => by
    unfold Tr.loks at h
    unfold Tr.ds at hx
    simp only [Tr.hts]
    rcases List.mem_cons.mp hx with rfl | hx
    · exact dep_mono (by omega) (dep_tr t h.1)
    · exact dep_mono (by omega) (dep_trs ts h.2 x hx)
end
end K03

set_option linter.all false
set_option maxRecDepth 100000
set_option maxHeartbeats 4000000
namespace K03
open PySem PySem.Spec PyProof.Rows L2 DL K04
def nl3 : NL := [("x", .int), ("y", .frac), ("z", .rest 7), ("p", .poly 3), ("q", .poly 1), ("r", .row 2), ("s", .table 2 3)]
theorem nl3_ok : NlOk nl3 where
  get := by decide +kernel
  poly := fun x n h => by
    simp only [nl3, List.mem_cons, List.not_mem_nil, or_false, Prod.mk.injEq, reduceCtorEq, and_false, false_or, Kd.poly.injEq] at h
    omega
  noans := fun x r c h => by simp [nl3] at h
theorem kv_ok {n : Nat} (hn : 1 ≤ n) : KvOk n (kvN nl3) where
  len := by decide
  key := fun kv hk => by
    obtain ⟨pr, hp, rfl⟩ := List.mem_map.mp hk
    refine ⟨pr.1, rfl, by rw [names_n, nl3_ok.get _ hp]; rfl, ?_⟩
    obtain ⟨m, rfl⟩ : ∃ m, n = m + 1 := ⟨n - 1, by omega⟩
    exact dep_kd m _
  nd := by decide +kernel
theorem names_of (nl : NL) : Names (nget nl) (kvN nl) := fun x => names_n nl x
structure KE (K : PySem.W.Frag) (AD : Ads) : Prop where
  wr : PySem.W.exmOne K (.ref AD.Wrong) (.ref AD.Wrong) = some true
section
variable {AD : Ads} {ds : List D} {M M0 : Mem} {R : DK} {RX : DX} {p q : Addr} {s : Drw}
def fs_law : FS := fun ds M R _ => ∃ ns : List Int, ds = [.scr ns] ∧ ns.length ≤ 63 ∧ ∀ M', R (.bl true) M'
theorem Sm2 {n : Nat} {a b c d : D} (h1 : Sm M n a c) (h2 : Sm M n b d) : Sm M (n + 1) (.lst [a, b]) (.lst [c, d]) := ⟨rfl, by simp, fun i x y hx hy => by
  match i with
  | 0 => cases hx; cases hy; exact h1
  | 1 => cases hx; cases hy; exact h2
  | i + 2 => simp at hx⟩
abbrev FL := fs_law_told 10
abbrev FS' := fs_law_same 20
theorem turn_ok {I : GE → Mem → Prop} {E : EndsD} {i : D} {o : Option D} (hc : DC M0 p q nl3) (hs : s.Ok) {sc : D}
    (h : ∀ s' M', Drw.Ok s' → LeM (DM M0 p s') M' → ∀ Γ, LeG [some sc, some (.ref p), some (.ref q), none, none, none, none, none, none, none, none, none, none, none, none, none, none, none, none, none] Γ → E.nx Γ M') :
    wSeq (wSet 4 (wCall fs_law_any (wCons (wVar 1) (wCons (wVar 2) (wCons (wCall fs_law_draw (wCons (wVar 1) (wCons (wC (.int 4)) wNil))) wNil)))))
 (w_law_t2 fs_law_draws fs_law_draw fs_law_any (fs_law_copy 20) (fs_law_kind 10) FL FS' fs_law_ones) E [some sc, some (.ref p), some (.ref q), some i, none, none, none, none, none, none, none, none, none, none, none, none, none, none, none, none] (DM M0 p s) := by
  refine gen_u fun u hu => ?_
  simp? only
  refine dr hs (by decide) (by decide) fun v s1 k1 v0 v1 => ?_
  (try simp? only)
  refine ⟨M0, p, q, s1, nl3, v.toNat, by rw [Int.toNat_of_nonneg v0], by omega, rfl, hc, k1, fun k t s2 gt k2 => ?_⟩
  have g := gen_all nl3_ok gt (by omega)
  have hh : t.ht ≤ 7 := Nat.le_trans (Nat.le_trans g.ht HB_le) (by omega)
  (try simp? only)
  simp_all? only
  refine .inr (.inr ⟨t.d, q, kvN nl3, rfl, hc.at, dep_mono (show 2 * t.ht ≤ 18 by omega) (dep_tr t g.lok), kv_ok (by decide), by decide, fun r hr => ?_⟩)
  have hrq : q ≠ r := fun e => by rw [← e, hc.at] at hr; cases hr
  simp_all? only
  refine ⟨t, q, nget nl3, kvN nl3, rfl, by rw [mup_ne hrq]; exact hc.at, names_of _, by omega, g.ok, ?_⟩
  rw [g.kd]
  (try simp? only)
  refine ⟨t, q, nget nl3, kvN nl3, k, rfl, by rw [mup_ne hrq]; exact hc.at, names_of _, by omega, g.lok, g.lk, ?_⟩
  (try simp? only)
  refine ⟨_, _, rfl, Sm2 (Sm.of (dep_mono (by decide) (dep_told 0 (.ok k)))) (Sm2 (n := 17) (Sm.of (dep_mono (show 2 * t.ht ≤ 17 by omega) (dep_tr t g.lok))) ⟨hrq, kvN nl3, by rw [mup_ne hrq]; exact hc.at, mup_same, by decide, (kv_ok (by decide)).key⟩), ?_⟩
  simp? only
  subst hu
  exact h s2 _ k2 (LeM.up hr) _ (by simp [LeG])
end
end K03

set_option linter.all false
set_option maxRecDepth 100000
set_option maxHeartbeats 4000000
namespace K03
open PySem PySem.Spec PyProof.Rows L2 DL K04
def isOk (x : Ex Kd) (k : Kd) : Bool := match x with
  | .ok j => decide (j = k)
  | .error _ => false
theorem isOk_ok {x : Ex Kd} {k : Kd} (h : isOk x k = true) : x = .ok k := by
  cases x with
  | error e => cases h
  | ok j => unfold isOk at h; rw [of_decide_eq_true h]
def isErr (x : Ex Kd) (w : Str) : Bool := match x with
  | .error e => decide (e = w)
  | .ok _ => false
theorem isErr_ok {x : Ex Kd} {w : Str} (h : isErr x w = true) : x = .error w := by
  cases x with
  | ok k => cases h
  | error j => unfold isErr at h; rw [of_decide_eq_true h]
mutual
def okB (nm : Str → Option Kd) : Tr → Bool
  | .int _ => true
  | .name _ => true
  | .neg t => okB nm t
  | .pow t e => okB nm t && ((match kindOf nm t with
    | .ok (.poly n) => decide (-1000000 ≤ n) && decide (n ≤ 1000000)
    | _ => true) && (decide (-1000000 ≤ e) && decide (e ≤ 1000000)))
  | .call _ ts => okBs nm ts && (decide (ts.length ≤ 1000) && !ts.isEmpty)
  | .two _ a b => okB nm a && okB nm b
def okBs (nm : Str → Option Kd) : List Tr → Bool
  | [] => true
  | t :: ts => okB nm t && okBs nm ts
end
mutual
theorem okB_ok {nm : Str → Option Kd} : ∀ {t : Tr}, okB nm t = true → t.ok nm
  | .int _, _ => by unfold Tr.ok; trivial
  | .name _, _ => by unfold Tr.ok; trivial
  | .neg t, h => by unfold Tr.ok; unfold okB at h; exact okB_ok h
  | .pow t e, h => by
    unfold Tr.ok; unfold okB at h
    simp only [Bool.and_eq_true, decide_eq_true_eq] at h
    obtain ⟨h1, h2, h3, h4⟩ := h
    refine ⟨okB_ok h1, fun n hn => ?_, h3, h4⟩
    rw [hn] at h2
    simpa using h2
  | .call w ts, h => by
    unfold Tr.ok; unfold okB at h
    simp only [Bool.and_eq_true, decide_eq_true_eq] at h
    obtain ⟨h1, h2, h3⟩ := h
    refine ⟨okBs_ok h1, h2, fun _ z => ?_⟩
    rw [z] at h3; cases h3
  | .two _ a b, h => by
    unfold Tr.ok; unfold okB at h
    simp only [Bool.and_eq_true] at h
    exact ⟨okB_ok h.1, okB_ok h.2⟩
theorem okBs_ok {nm : Str → Option Kd} : ∀ {ts : List Tr}, okBs nm ts = true → Tr.oks nm ts
  | [], _ => by unfold Tr.oks; trivial
  | t :: ts, h => by
    unfold Tr.oks; unfold okBs at h
    simp only [Bool.and_eq_true] at h
    exact ⟨okB_ok h.1, okBs_ok h.2⟩
end
def Told (nm : Str → Option Kd) (t : Tr) (d : D) : Prop := t.ok nm ∧ t.ht ≤ 10 ∧ toldD (kindOf nm t) = d
def long : D := toldD (.error "long")
def fineD (c : Prop) [Decidable c] (k : Kd) : D := if c then toldD (.ok k) else long
theorem dep_fine {n : Nat} {c : Prop} [Decidable c] {k : Kd} : dep (n + 2) (fineD c k) := by unfold fineD long; split <;> exact dep_told n _
theorem told_ok {nm : Str → Option Kd} {t : Tr} {k : Kd} {c : Prop} [Decidable c] (hc : c) (h : (okB nm t && decide (t.ht ≤ 10) && isOk (kindOf nm t) k) = true) : Told nm t (fineD c k) := by
  simp only [Bool.and_eq_true, decide_eq_true_eq] at h
  exact ⟨okB_ok h.1.1, h.1.2, by rw [isOk_ok h.2]; unfold fineD; rw [if_pos hc]⟩
theorem told_er {nm : Str → Option Kd} {t : Tr} {k : Kd} {c : Prop} [Decidable c] (hc : ¬ c) (h : (okB nm t && decide (t.ht ≤ 10) && isErr (kindOf nm t) "long") = true) : Told nm t (fineD c k) := by
  simp only [Bool.and_eq_true, decide_eq_true_eq] at h
  exact ⟨okB_ok h.1.1, h.1.2, by rw [isErr_ok h.2]; unfold fineD; rw [if_neg hc]; rfl⟩
def nm0 : Str → Option Kd := fun _ => none
theorem names0 : Names nm0 [] := fun x => rfl
def tableT (m : Nat) : Tr := .call "table" (List.replicate m (onesT "row" 2))
theorem ones_row {m : Nat} (h : m = 39 ∨ m = 40 ∨ m = 41) : Told nm0 (onesT "row" m) (fineD ((m : Int) ≤ 40) (.row m)) := by
  rcases h with rfl | rfl | rfl
  · exact told_ok (by decide) (by decide +kernel)
  · exact told_ok (by decide) (by decide +kernel)
  · exact told_er (by decide) (by decide +kernel)
theorem ones_poly {m : Nat} (h : m = 39 ∨ m = 40 ∨ m = 41) : Told nm0 (onesT "poly" m) (fineD ((m : Int) ≤ 40) (.poly m)) := by
  rcases h with rfl | rfl | rfl
  · exact told_ok (by decide) (by decide +kernel)
  · exact told_ok (by decide) (by decide +kernel)
  · exact told_er (by decide) (by decide +kernel)
theorem ones_table {m : Nat} (h : m = 39 ∨ m = 40 ∨ m = 41) : Told nm0 (tableT m) (fineD ((m : Int) ≤ 40) (.table m 2)) := by
  rcases h with rfl | rfl | rfl
  · exact told_ok (by decide) (by decide +kernel)
  · exact told_ok (by decide) (by decide +kernel)
  · exact told_er (by decide) (by decide +kernel)
section
variable {AD : Ads} {ds : List D} {M M0 : Mem} {R : DK} {RX : DX} {p q a : Addr} {s : Drw} {Q : DK} {QX : DX} {nm : Str → Option Kd} {kvs : List (Key × D)} {t : Tr} {d : D}
theorem DM_at {o : MO} (h : a ≠ p) : DM (mup M0 a o) p s a = some o := by
  unfold DM; rw [mup_ne h, mup_same]
theorem g_told (h : Told nm t d) (ha : M a = some (.dK kvs)) (hn : Names nm kvs) (hq : Q d M) : FL [t.d, .ref a] M Q QX := ⟨t, a, nm, kvs, rfl, ha, hn, h.2.1, h.1, by rw [h.2.2]; exact hq⟩
theorem g_ones {w : Str} {m : Nat} (hm : m ≤ 1000) (hq : Q (onesT w m).d M) : fs_law_ones [.str w, .int (m : Int)] M Q QX := ⟨w, m, rfl, hm, hq⟩
theorem g_same (h : dep 19 d) (hq : Q (.bl true) M) : FS' [d, d] M Q QX := ⟨d, d, rfl, Sm.of h, hq⟩
theorem seg1 {sc o2 : D} {o3 o4 o5 : Option D} (hs : s.Ok) (h : ∀ (m : Nat) (s' : Drw) (M0' : Mem) o8 o9, m = 39 ∨ m = 40 ∨ m = 41 → Drw.Ok s' → w_law_t17 fs_law_draws fs_law_draw fs_law_any (fs_law_copy 20) (fs_law_kind 10) FL FS' fs_law_ones (bodyEnds R RX) [some sc, some (.ref p), some o2, o3, o4, o5, some (.int m), some (.bl (decide ((m : Int) ≤ 40))), o8, o9, none, none, none, none, none, none, none, none, none, none] (DM M0' p s')) :
    w_law_t22 fs_law_draws fs_law_draw fs_law_any (fs_law_copy 20) (fs_law_kind 10) FL FS' fs_law_ones (bodyEnds R RX) [some sc, some (.ref p), some o2, o3, o4, o5, none, none, none, none, none, none, none, none, none, none, none, none, none, none] (DM M0 p s) := by
  show wSeq _ _ _ _ _
  refine gen_u fun u hu => ?_
  simp? only
  refine dr hs (by decide) (by decide) fun w s1 k1 w0 w1 => ?_
  (try simp? only)
  obtain ⟨m, em, hm⟩ : ∃ m : Nat, 39 + w = (m : Int) ∧ (m = 39 ∨ m = 40 ∨ m = 41) := ⟨(39 + w).toNat, by omega, by omega⟩
  rw [em]
  simp_all? only
  simp_all? only
  refine g_ones (by omega) ?_
  (try simp? only)
  intro a1 h1
  rw [DM_mup (ne_p h1)]
  refine g_told (ones_row hm) (DM_at (ne_p h1)) names0 ?_
  (try simp? only)
  refine g_ones (by omega) ?_
  (try simp? only)
  intro a2 h2
  rw [DM_mup (ne_p h2)]
  refine g_told (ones_poly hm) (DM_at (ne_p h2)) names0 ?_
  (try simp? only)
  refine g_ones (m := 2) (by decide) ?_
  (try simp? only)
  refine ⟨⟨by simp, by omega, by omega, by decide⟩, ?_⟩
  intro a3 h3
  rw [DM_mup (ne_p h3)]
  have et : D.tup [D.str (Str.ofString "call"), D.str (Str.ofString "table"), D.tup (List.replicate (m : Int).toNat [(onesT (Str.ofString "row") 2).d]).flatten] = (tableT m).d := by
    unfold tableT
    simp only [Tr.d, ds_map, List.map_replicate, Int.toNat_natCast, List.flatten_replicate_singleton]
  rw [et]
  refine g_told (ones_table hm) (DM_at (ne_p h3)) names0 ?_
  (try simp? only)
  simp_all? only
  simp_all? only
  intro pp hpp
  refine lc_mapA (f := Kd.d) (l := [.row m, .poly m, .table m 2]) (fun k => fineD ((m : Int) ≤ 40) k) (fun _ => trivial) (fun k x R' out _ hR => ?_) ?_
  · simp? only
    unfold fineD at hR
    by_cases c : (m : Int) ≤ 40
    · rw [if_pos c] at hR ⊢
      exact hR
    · rw [if_neg c] at hR ⊢
      exact hR
  · rw [mdel_mup hpp]
    refine g_same (dep_lst (by simp) fun x hx => ?_) ?_
    · simp only [List.mem_cons, List.not_mem_nil, or_false, List.map_cons, List.map_nil] at hx
      rcases hx with rfl | rfl | rfl <;> exact dep_fine
    · simp? only
      subst hu
      show seqK _ _ _ _
      rw [e_seqK]
      exact h m s1 _ _ _ hm k1
end
end K03

set_option linter.all false
set_option maxRecDepth 100000
set_option maxHeartbeats 4000000
namespace K03
open PySem PySem.Spec PyProof.Rows L2 DL K04
def nlL (one m : Int) : NL := [("a", .poly one), ("b", .poly (m + 1 - one))]
theorem told_mul {one : Int} {m : Nat} (hm : m = 39 ∨ m = 40 ∨ m = 41) : Told (nget (nlL one m)) (.two .mul (.name "a") (.name "b")) (fineD ((m : Int) ≤ 40) (.poly m)) := by
  refine ⟨by simp [Tr.ok], by simp [Tr.ht], ?_⟩
  have e : one + ((m : Int) + 1 - one) - 1 = m := by omega
  have q : K04.kindOf (nget (nlL one m)) (.two .mul (.name "a") (.name "b")) = if (m : Int) ≤ 40 then .ok (.poly m) else .error "long" := by
    simp [K04.kindOf, nget, nlL, e_ofStr, twoK, multiplied, e]
    by_cases c : (m : Int) ≤ 40
    · have c2 : 1 ≤ (m : Int) ∧ (m : Int) ≤ 40 := by omega
      rw [if_pos c2, if_pos c]
      simp [needO]
    · rw [if_neg (fun z => c z.2), if_neg c]
  rw [q]
  unfold fineD
  split <;> rfl
theorem told_pow {one e : Int} {m : Nat} (h1 : 1 ≤ one) (h2 : one ≤ 40) (e1 : 1 ≤ e) (e2 : e ≤ 5) : Told (nget (nlL one m)) (.pow (.name "a") e) (fineD ((one - 1) * e + 1 ≤ 40) (.poly ((one - 1) * e + 1))) := by
  have pos : 0 ≤ (one - 1) * e := Int.mul_nonneg (by omega) (by omega)
  have ka : K04.kindOf (nget (nlL one m)) (.name "a") = .ok (.poly one) := by simp [K04.kindOf, nget, nlL]
  refine ⟨?_, by simp [Tr.ht], ?_⟩
  · unfold Tr.ok
    refine ⟨by unfold Tr.ok; trivial, fun n hn => ?_, by omega, by omega⟩
    rw [ka] at hn
    cases hn; omega
  · unfold K04.kindOf
    rw [ka]
    simp only [longK]
    unfold fineD long
    by_cases c : (one - 1) * e + 1 ≤ 40
    · rw [if_pos ⟨by omega, c⟩, if_pos c]
    · rw [if_neg (fun z => c z.2), if_neg c]
theorem fine_p {c : Prop} [Decidable c] {k : Kd} (h : c) : fineD c k = .tup [.str "told", k.d] := by unfold fineD; rw [if_pos h]; rfl
theorem fine_n {c : Prop} [Decidable c] {k : Kd} (h : ¬ c) : fineD c k = .tup [.str "wrong", .str "long"] := by unfold fineD; rw [if_neg h]; rfl
def nlF (f : Int) : NL := [("t", .table f 2), ("u", .table 2 f), ("v", .row 2)]
theorem told_herm {f : Int} : Told (nget (nlF f)) (.call "hermite" [.name "t"]) (fineD (f ≤ 10) (.table f 2)) := by
  refine ⟨by simp [Tr.ok, Tr.oks], by simp [Tr.ht, Tr.hts], ?_⟩
  have q : K04.kindOf (nget (nlF f)) (.call "hermite" [.name "t"]) = if f ≤ 10 then .ok (.table f 2) else .error "long" := by
    simp [K04.kindOf, K04.kindsOf, nget, nlF, callK, forms, formsT, formK, Kd.w, e_ofStr, shortK]
    by_cases c : f ≤ 10
    · rw [if_neg (by omega), if_pos c]
    · rw [if_pos (by omega), if_neg c]
  rw [q]
  unfold fineD
  split <;> rfl
theorem told_whole {f : Int} : Told (nget (nlF f)) (.call "whole" [.name "u", .name "v"]) (fineD (f ≤ 10) (.answer 2 f)) := by
  refine ⟨by simp [Tr.ok, Tr.oks], by simp [Tr.ht, Tr.hts], ?_⟩
  have q : K04.kindOf (nget (nlF f)) (.call "whole" [.name "u", .name "v"]) = if f ≤ 10 then .ok (.answer 2 f) else .error "long" := by
    simp [K04.kindOf, K04.kindsOf, nget, nlF, callK, forms, formsT, formK, Kd.w, e_ofStr, shortK, needK]
    by_cases c : f ≤ 10
    · rw [if_neg (by omega), if_pos c]
    · rw [if_pos (by omega), if_neg c]
  rw [q]
  unfold fineD
  split <;> rfl
def nlW (r c : Int) : NL := [("t", .table r c), ("u", .table r r), ("v", .row r)]
theorem told_red {r c : Int} (h : r ≤ c) : Told (nget (nlW r c)) (.call "reduced" [.name "t"]) (fineD (r ≤ 12 ∧ c ≤ 24) (.table r c)) := by
  refine ⟨by simp [Tr.ok, Tr.oks], by simp [Tr.ht, Tr.hts], ?_⟩
  have q : K04.kindOf (nget (nlW r c)) (.call "reduced" [.name "t"]) = if r ≤ 12 ∧ c ≤ 24 then .ok (.table r c) else .error "long" := by
    simp [K04.kindOf, K04.kindsOf, nget, nlW, callK, forms, formsT, formK, Kd.w, e_ofStr, shortK, needK, h]
    by_cases c : r ≤ 12 ∧ c ≤ 24
    · rw [if_neg (by omega), if_pos c]
    · rw [if_pos (by omega), if_neg c]
  rw [q]
  unfold fineD
  split <;> rfl
theorem told_sol {r c : Int} : Told (nget (nlW r c)) (.call "solved" [.name "u", .name "v"]) (fineD (r ≤ 12) (.answer r r)) := by
  refine ⟨by simp [Tr.ok, Tr.oks], by simp [Tr.ht, Tr.hts], ?_⟩
  have q : K04.kindOf (nget (nlW r c)) (.call "solved" [.name "u", .name "v"]) = if r ≤ 12 then .ok (.answer r r) else .error "long" := by
    simp [K04.kindOf, K04.kindsOf, nget, nlW, callK, forms, formsT, formK, Kd.w, e_ofStr, shortK, needK]
    by_cases c : r ≤ 12
    · rw [if_neg (by omega), if_pos c]
    · rw [if_pos (by omega), if_neg c]
  rw [q]
  unfold fineD
  split <;> rfl
section
variable {AD : Ads} {ds : List D} {M M0 : Mem} {R : DK} {RX : DX} {p q a : Addr} {s : Drw} {Q : DK} {QX : DX}
theorem g_same2 {a b c d : D} (h1 : a = c) (h2 : b = d) (ha : dep 18 a) (hb : dep 18 b) (hq : Q (.bl true) M) : FS' [.lst [a, b], .lst [c, d]] M Q QX := by
  subst h1 h2
  exact g_same (dep_lst (by simp) fun x hx => by
    simp only [List.mem_cons, List.not_mem_nil, or_false] at hx
    rcases hx with rfl | rfl <;> assumption) hq
theorem seg2 {sc o2 : D} {m : Nat} {o3 o4 o5 o8 o9 : Option D} (hm : m = 39 ∨ m = 40 ∨ m = 41) (hs : s.Ok) (h : ∀ (s' : Drw) (M0' : Mem) o6 o7 o8 o9 o11 o12 o13 o14, Drw.Ok s' → w_law_t11 fs_law_draws fs_law_draw fs_law_any (fs_law_copy 20) (fs_law_kind 10) FL FS' fs_law_ones (bodyEnds R RX) [some sc, some (.ref p), some o2, o3, o4, o5, o6, o7, o8, o9, none, o11, o12, o13, o14, none, none, none, none, none] (DM M0' p s')) :
    w_law_t17 fs_law_draws fs_law_draw fs_law_any (fs_law_copy 20) (fs_law_kind 10) FL FS' fs_law_ones (bodyEnds R RX) [some sc, some (.ref p), some o2, o3, o4, o5, some (.int m), some (.bl (decide ((m : Int) ≤ 40))), o8, o9, none, none, none, none, none, none, none, none, none, none] (DM M0 p s) := by
  show wSeq _ _ _ _ _
  refine gen_u fun u hu => ?_
  simp? only
  refine dr hs (by decide) (by decide) fun w s1 k1 w0 w1 => ?_
  (try simp? only)
  generalize eo : 1 + w = one
  simp_all? only
  intro a1 h1
  (try simp? only)
  rw [DM_mup (ne_p h1)]
  simp_all? only
  refine dr k1 (by decide) (by decide) fun x s2 k2 x0 x1 => ?_
  (try simp? only)
  generalize ex : 1 + x = e
  have hA : DM (mup M0 a1 (.dK (kvN (nlL one m)))) p s2 a1 = some (.dK (kvN (nlL one m))) := DM_at (ne_p h1)
  have hk : ([(Sum.inr (Str.ofString "a"), D.tup [D.str (Str.ofString "poly"), D.int one]), (Sum.inr (Str.ofString "b"), D.tup [D.str (Str.ofString "poly"), D.int ((m : Int) + 1 - one)])] : List (Key × D)) = kvN (nlL one m) := rfl
  rw [hk]
  simp_all? only
  refine g_told (t := .two .mul (.name "a") (.name "b")) (told_mul hm) hA (names_of _) ?_
  (try simp? only)
  refine g_told (t := .pow (.name "a") e) (told_pow (one := one) (m := m) (by omega) (by omega) (by omega) (by omega)) hA (names_of _) ?_
  (try simp? only)
  simp_all? only
  refine ⟨mulOk_of (m := 24) (n := 24) (by omega) (by omega) (by decide), ?_⟩
  (try simp? only)
  simp_all? only
  have last : ∀ c d : D, fineD ((m : Int) ≤ 40) (.poly m) = c → fineD ((one - 1) * e + 1 ≤ 40) (.poly ((one - 1) * e + 1)) = d → ∀ Q QX M', M' = DM (mup M0 a1 (.dK (kvN (nlL one m)))) p s2 → Q (.bl true) M' → FS' [.lst [fineD ((m : Int) ≤ 40) (.poly m), fineD ((one - 1) * e + 1 ≤ 40) (.poly ((one - 1) * e + 1))], .lst [c, d]] M' Q QX := fun c d h1 h2 Q QX M' _ hq => g_same2 h1 h2 dep_fine dep_fine hq
  by_cases c1 : (m : Int) ≤ 40
  · by_cases c2 : (one - 1) * e + 1 ≤ 40
    · rw [if_pos c1, if_pos c2]
      refine last _ _ (fine_p c1) (fine_p c2) _ _ _ rfl ?_
      simp? only
      subst hu
      show seqK _ _ _ _
      rw [e_seqK]
      exact h s2 _ _ _ _ _ _ _ _ _ k2
    · rw [if_pos c1, if_neg c2]
      refine last _ _ (fine_p c1) (fine_n c2) _ _ _ rfl ?_
      simp? only
      subst hu
      show seqK _ _ _ _
      rw [e_seqK]
      exact h s2 _ _ _ _ _ _ _ _ _ k2
  · by_cases c2 : (one - 1) * e + 1 ≤ 40
    · rw [if_neg c1, if_pos c2]
      refine last _ _ (fine_n c1) (fine_p c2) _ _ _ rfl ?_
      simp? only
      subst hu
      show seqK _ _ _ _
      rw [e_seqK]
      exact h s2 _ _ _ _ _ _ _ _ _ k2
    · rw [if_neg c1, if_neg c2]
      refine last _ _ (fine_n c1) (fine_n c2) _ _ _ rfl ?_
      simp? only
      subst hu
      show seqK _ _ _ _
      rw [e_seqK]
      exact h s2 _ _ _ _ _ _ _ _ _ k2
end
end K03

set_option linter.all false
set_option maxRecDepth 100000
set_option maxHeartbeats 4000000
namespace K03
open PySem PySem.Spec PyProof.Rows L2 DL K04
section
variable {AD : Ads} {ds : List D} {M M0 : Mem} {R : DK} {RX : DX} {p q a : Addr} {s : Drw} {Q : DK} {QX : DX}
theorem seg4 {sc o2 : D} {o3 o4 o5 o6 o7 o8 o9 o11 o12 o13 o14 o15 o16 : Option D} (hs : s.Ok) (h : ∀ M', R (.bl true) M') :
    w_law_t7 fs_law_draws fs_law_draw fs_law_any (fs_law_copy 20) (fs_law_kind 10) FL FS' fs_law_ones (bodyEnds R RX) [some sc, some (.ref p), some o2, o3, o4, o5, o6, o7, o8, o9, none, o11, o12, o13, o14, o15, o16, none, none, none] (DM M0 p s) := by
  show wSeq _ _ _ _ _
  refine gen_u fun u hu => ?_
  simp? only
  refine dr hs (by decide) (by decide) fun w s1 k1 w0 w1 => ?_
  (try simp? only)
  refine dr k1 (by decide) (by decide) fun x s2 k2 x0 x1 => ?_
  (try simp? only)
  generalize er : 11 + w = r
  generalize ec : 22 + x = c
  simp_all? only
  intro a1 h1
  (try simp? only)
  rw [DM_mup (ne_p h1)]
  have hA : DM (mup M0 a1 (.dK (kvN (nlW r c)))) p s2 a1 = some (.dK (kvN (nlW r c))) := DM_at (ne_p h1)
  have hk : ([(Sum.inr (Str.ofString "t"), D.tup [D.str (Str.ofString "table"), D.int r, D.int c]), (Sum.inr (Str.ofString "u"), D.tup [D.str (Str.ofString "table"), D.int r, D.int r]), (Sum.inr (Str.ofString "v"), D.tup [D.str (Str.ofString "row"), D.int r])] : List (Key × D)) = kvN (nlW r c) := rfl
  rw [hk]
  simp_all? only
  refine g_told (t := .call "reduced" [.name "t"]) (told_red (by omega)) hA (names_of _) ?_
  (try simp? only)
  refine g_told (t := .call "solved" [.name "u", .name "v"]) told_sol hA (names_of _) ?_
  (try simp? only)
  have gt : nget (nlW r c) (Str.ofString "t") = some (.table r c) := rfl
  simp_all? only [hA, e_onDK, names_n, gt, Option.map_some]
  have last : ∀ c' d : D, fineD (r ≤ 12 ∧ c ≤ 24) (.table r c) = c' → fineD (r ≤ 12) (.answer r r) = d → ∀ Q QX M', Q (.bl true) M' → FS' [.lst [fineD (r ≤ 12 ∧ c ≤ 24) (.table r c), fineD (r ≤ 12) (.answer r r)], .lst [c', d]] M' Q QX := fun c' d h1 h2 Q QX M' hq => g_same2 h1 h2 dep_fine dep_fine hq
  by_cases c1 : r ≤ 12
  · by_cases c2 : c ≤ 24
    · simp only [if_pos c1, if_pos c2]
      simp_all? only
      exact last _ _ (fine_p ⟨c1, c2⟩) (fine_p c1) _ _ _ (Up.of (h _))
    · simp only [if_pos c1, if_neg c2]
      simp_all? only
      exact last _ _ (fine_n fun z => c2 z.2) (fine_p c1) _ _ _ (Up.of (h _))
  · simp only [if_neg c1]
    simp_all? only
    exact last _ _ (fine_n fun z => c1 z.1) (fine_n c1) _ _ _ (Up.of (h _))
theorem seg3 {sc o2 : D} {o3 o4 o5 o6 o7 o8 o9 o11 o12 o13 o14 : Option D} (hs : s.Ok) (h : ∀ M', R (.bl true) M') :
    w_law_t11 fs_law_draws fs_law_draw fs_law_any (fs_law_copy 20) (fs_law_kind 10) FL FS' fs_law_ones (bodyEnds R RX) [some sc, some (.ref p), some o2, o3, o4, o5, o6, o7, o8, o9, none, o11, o12, o13, o14, none, none, none, none, none] (DM M0 p s) := by
  show wSeq _ _ _ _ _
  refine gen_u fun u hu => ?_
  simp? only
  refine dr hs (by decide) (by decide) fun w s1 k1 w0 w1 => ?_
  (try simp? only)
  generalize ef : 9 + w = f
  simp_all? only
  intro a1 h1
  (try simp? only)
  rw [DM_mup (ne_p h1)]
  have hA : DM (mup M0 a1 (.dK (kvN (nlF f)))) p s1 a1 = some (.dK (kvN (nlF f))) := DM_at (ne_p h1)
  have hk : ([(Sum.inr (Str.ofString "t"), D.tup [D.str (Str.ofString "table"), D.int f, D.int 2]), (Sum.inr (Str.ofString "u"), D.tup [D.str (Str.ofString "table"), D.int 2, D.int f]), (Sum.inr (Str.ofString "v"), D.tup [D.str (Str.ofString "row"), D.int 2])] : List (Key × D)) = kvN (nlF f) := rfl
  rw [hk]
  simp_all? only
  refine g_told (t := .call "hermite" [.name "t"]) told_herm hA (names_of _) ?_
  (try simp? only)
  refine g_told (t := .call "whole" [.name "u", .name "v"]) told_whole hA (names_of _) ?_
  (try simp? only)
  have gt : nget (nlF f) (Str.ofString "t") = some (.table f 2) := rfl
  simp_all? only [hA, e_onDK, names_n, gt, Option.map_some]
  have last : ∀ c d : D, fineD (f ≤ 10) (.table f 2) = c → fineD (f ≤ 10) (.answer 2 f) = d → ∀ Q QX M', Q (.bl true) M' → FS' [.lst [fineD (f ≤ 10) (.table f 2), fineD (f ≤ 10) (.answer 2 f)], .lst [c, d]] M' Q QX := fun c d h1 h2 Q QX M' hq => g_same2 h1 h2 dep_fine dep_fine hq
  by_cases c1 : f ≤ 10
  · simp only [if_pos c1]
    refine last _ _ (fine_p c1) (fine_p c1) _ _ _ ?_
    simp? only
    subst hu
    show seqK _ _ _ _
    rw [e_seqK]
    exact seg4 k1 h
  · simp only [if_neg c1]
    (try (refine ⟨by decide, ?_⟩))
    refine last _ _ (fine_n c1) (fine_n c1) _ _ _ ?_
    simp? only
    subst hu
    show seqK _ _ _ _
    rw [e_seqK]
    exact seg4 k1 h
end
end K03

set_option linter.all false
set_option maxRecDepth 100000
set_option maxHeartbeats 4000000
namespace K03
open PySem PySem.Spec PyProof.Rows L2 DL K04
section
variable {AD : Ads} {ds : List D} {M M0 : Mem} {R : DK} {RX : DX} {p q a : Addr} {s : Drw} {Q : DK} {QX : DX}
theorem ok_law (h : fs_law ds M R RX) : w_law fs_law_draws fs_law_draw fs_law_any (fs_law_copy 20) (fs_law_kind 10) FL FS' fs_law_ones (bodyEnds R RX) (g0 20 ds) M := by
  obtain ⟨ns, rfl, hn, h⟩ := h
  show wSeq _ _ _ _ _
  refine gen_u fun u hu => ?_
  simp? only
  refine ⟨ns, rfl, fun p hp => ?_⟩
  (try simp? only)
  simp_all? only
  intro q hq
  (try simp? only)
  have hqp : p ≠ q := fun z => by rw [z] at hq; rw [mup_same] at hq; cases hq
  have em : mup (mup M p (.lst (Drw.D ⟨ns, 0, 0, 1⟩))) q (.dK (kvN nl3)) = DM (mup M q (.dK (kvN nl3))) p ⟨ns, 0, 0, 1⟩ := mup_comm hqp
  have hc : DC (mup M q (.dK (kvN nl3))) p q nl3 := ⟨hqp.symm, mup_same, by decide, nl3_ok⟩
  show seqK u (bodyEnds R RX) _ (mup (mup M p (.lst (Drw.D ⟨ns, 0, 0, 1⟩))) q (.dK (kvN nl3)))
  rw [em]
  simp_all? only
  refine ⟨by unfold inLine; omega, by simp, ?_⟩
  refine for_up (fun _ : Drw => [some (.scr ns), some (.ref p), some (.ref q), none, none, none, none, none, none, none, none, none, none, none, none, none, none, none, none, none]) (fun s => DM (mup M q (.dK (kvN nl3))) p s) (fun _ s => s.Ok) ⟨ns, 0, 0, 1⟩ rfl rfl ⟨hn, Nat.zero_le _, Int.le_refl 0, (by show (0 : Int) ≤ 1 ∧ (1 : Int) < 2147483647; decide)⟩ ?_ ?_
  · rintro j s hj hs
    refine ⟨trivial, ?_⟩
    rw [e_gNm, e_envK]
    refine turn_ok (I := fun _ _ => True) (o := none) hc hs fun s' M' k' le Γ lg => ?_
    exact wk_of (Γ' := [some (.scr ns), some (.ref p), some (.ref q), none, none, none, none, none, none, none, none, none, none, none, none, none, none, none, none, none]) lg le ⟨s', k', rfl, rfl⟩
  · intro s hs
    refine ⟨trivial, ?_⟩
    rw [p_s1]
    subst hu
    show seqK _ _ _ _
    rw [e_seqK]
    refine seg1 hs fun m s1 M1 o8 o9 hm k1 => ?_
    refine seg2 hm k1 fun s2 M2 o6 o7 o8 o9 o11 o12 o13 o14 k2 => ?_
    exact seg3 k2 h
theorem ht_pos (t : Tr) : 0 < t.ht := by cases t <;> unfold Tr.ht <;> omega
theorem kind0 (ds : List D) (M : Mem) (R : DK) (RX : DX) (h : fs_kind_of AD 0 ds M R RX) : False := by
  obtain ⟨t, _, _, _, _, _, _, h, _⟩ := h
  have := ht_pos t
  omega
theorem lkind0 (ds : List D) (M : Mem) (R : DK) (RX : DX) (h : fs_law_kind 0 ds M R RX) : False := by
  obtain ⟨t, _, _, _, _, _, _, _, h, _⟩ := h
  have := ht_pos t
  omega
theorem int0 (ds : List D) (M : Mem) (R : DK) (RX : DX) (h : fs_law_int 0 ds M R RX) : False := by
  obtain ⟨_, _, _, _, _, _, _, h, _⟩ := h
  omega
theorem frac0 (ds : List D) (M : Mem) (R : DK) (RX : DX) (h : fs_law_frac 0 ds M R RX) : False := by
  obtain ⟨_, _, _, _, _, _, _, h, _⟩ := h
  omega
theorem rest0 (ds : List D) (M : Mem) (R : DK) (RX : DX) (h : fs_law_rest 0 ds M R RX) : False := by
  obtain ⟨_, _, _, _, _, _, _, _, h, _⟩ := h
  omega
theorem poly0 (ds : List D) (M : Mem) (R : DK) (RX : DX) (h : fs_law_poly 0 ds M R RX) : False := by
  obtain ⟨_, _, _, _, _, _, _, h, _⟩ := h
  omega
theorem row0 (ds : List D) (M : Mem) (R : DK) (RX : DX) (h : fs_law_row 0 ds M R RX) : False := by
  obtain ⟨_, _, _, _, _, _, _, _, h, _⟩ := h
  omega
theorem table0 (ds : List D) (M : Mem) (R : DK) (RX : DX) (h : fs_law_table 0 ds M R RX) : False := by
  obtain ⟨_, _, _, _, _, _, _, _, _, h, _⟩ := h
  omega
end
end K03

set_option linter.all false
set_option maxRecDepth 100000
set_option maxHeartbeats 1000000
namespace K03
open PySem PySem.Spec PyProof.Rows L2 DL
section
variable {P : Program} {w : World} {K : PySem.W.Frag} {mg : Str → Option Value} {base : Heap} {AD : Ads} {k : Nat}
theorem at_need (Z : Nms w K mg AD) (G : FnF K mg "need" (topS 11) ["is_fine"]) (e_Wrong : ErAt P w K mg base k "Wrong" AD.Wrong) : FnAt P w K mg base (k + 2) 1 "need" (fs_need AD) := by
  obtain ⟨f, fd, G, hm, hb⟩ := G.ex
  exact fnAt G hm hb (fnD G sc_need rfl (by decide) (fun cdv A outer s H E hr => d_need (AD := AD) Z e_Wrong f cdv A outer s H E hr) (fun ds M R RX _ h => ok_need  h))
theorem at_long_enough (Z : Nms w K mg AD) (G : FnF K mg "long_enough" (topS 12) ["many"]) (e_Wrong : ErAt P w K mg base k "Wrong" AD.Wrong) : FnAt P w K mg base (k + 2) 1 "long_enough" (fs_long_enough AD) := by
  obtain ⟨f, fd, G, hm, hb⟩ := G.ex
  exact fnAt G hm hb (fnD G sc_long_enough rfl (by decide) (fun cdv A outer s H E hr => d_long_enough (AD := AD) Z e_Wrong f cdv A outer s H E hr) (fun ds M R RX _ h => ok_long_enough  h))
theorem at_written (Z : Nms w K mg AD) (G : FnF K mg "written" (topS 13) ["tree", "low", "high"]) (e_Wrong : ErAt P w K mg base k "Wrong" AD.Wrong) : FnAt P w K mg base (k + 2) 3 "written" (fs_written AD) := by
  obtain ⟨f, fd, G, hm, hb⟩ := G.ex
  exact fnAt G hm hb (fnD G sc_written rfl (by decide) (fun cdv A outer s H E hr => d_written (AD := AD) Z e_Wrong f cdv A outer s H E hr) (fun ds M R RX _ h => ok_written  h))
theorem at_joined (Z : Nms w K mg AD) (G : FnF K mg "joined" (topS 14) ["one", "other"])  : FnAt P w K mg base (k + 1) 2 "joined" fs_joined := by
  obtain ⟨f, fd, G, hm, hb⟩ := G.ex
  exact fnAt G hm hb (fnD G sc_joined rfl (by decide) (fun cdv A outer s H E hr => d_joined (AD := AD) Z f cdv A outer s H E hr) (fun ds M R RX _ h => ok_joined  h))
theorem at_multiplied (Z : Nms w K mg AD) (G : FnF K mg "multiplied" (topS 15) ["one", "other"]) (c_long_enough : FnAt P w K mg base k 1 "long_enough" (fs_long_enough AD)) (c_joined : FnAt P w K mg base k 2 "joined" fs_joined) : FnAt P w K mg base (k + 1) 2 "multiplied" (fs_multiplied AD) := by
  obtain ⟨f, fd, G, hm, hb⟩ := G.ex
  exact fnAt G hm hb (fnD G sc_multiplied rfl (by decide) (fun cdv A outer s H E hr => d_multiplied (AD := AD) Z c_long_enough c_joined f cdv A outer s H E hr) (fun ds M R RX _ h => ok_multiplied  h))
theorem at_divided (Z : Nms w K mg AD) (G : FnF K mg "divided" (topS 16) ["one", "other"]) (c_joined : FnAt P w K mg base k 2 "joined" fs_joined) : FnAt P w K mg base (k + 1) 2 "divided" fs_divided := by
  obtain ⟨f, fd, G, hm, hb⟩ := G.ex
  exact fnAt G hm hb (fnD G sc_divided rfl (by decide) (fun cdv A outer s H E hr => d_divided (AD := AD) Z c_joined f cdv A outer s H E hr) (fun ds M R RX _ h => ok_divided  h))
theorem at_kind_of_two (Z : Nms w K mg AD) (G : FnF K mg "kind_of_two" (topS 17) ["word", "one", "other"]) (c_joined : FnAt P w K mg base k 2 "joined" fs_joined) (c_multiplied : FnAt P w K mg base k 2 "multiplied" (fs_multiplied AD)) (c_divided : FnAt P w K mg base k 2 "divided" fs_divided) (c_need : FnAt P w K mg base k 1 "need" (fs_need AD)) : FnAt P w K mg base (k + 1) 3 "kind_of_two" (fs_kind_of_two AD) := by
  obtain ⟨f, fd, G, hm, hb⟩ := G.ex
  exact fnAt G hm hb (fnD G sc_kind_of_two rfl (by decide) (fun cdv A outer s H E hr => d_kind_of_two (AD := AD) Z c_joined c_multiplied c_divided c_need f cdv A outer s H E hr) (fun ds M R RX _ h => ok_kind_of_two  h))
theorem at_kind_of_call (Z : Nms w K mg AD) (G : FnF K mg "kind_of_call" (topS 18) ["word", "trees", "kinds"]) (c_need : FnAt P w K mg base k 1 "need" (fs_need AD)) (c_long_enough : FnAt P w K mg base k 1 "long_enough" (fs_long_enough AD)) (c_written : FnAt P w K mg base k 3 "written" (fs_written AD)) (c_kind_of_form : FnAt P w K mg base k 3 "kind_of_form" (fs_kind_of_form AD)) (e_Wrong : ErAt P w K mg base k "Wrong" AD.Wrong) : FnAt P w K mg base (k + 2) 3 "kind_of_call" (fs_kind_of_call AD) := by
  obtain ⟨f, fd, G, hm, hb⟩ := G.ex
  exact fnAt G hm hb (fnD G sc_kind_of_call rfl (by decide) (fun cdv A outer s H E hr => d_kind_of_call (AD := AD) Z c_need c_long_enough c_written c_kind_of_form e_Wrong f cdv A outer s H E hr) (fun ds M R RX _ h => ok_kind_of_call  h))
theorem at_kind_of_form (Z : Nms w K mg AD) (G : FnF K mg "kind_of_form" (topS 20) ["word", "trees", "kinds"]) (c_written : FnAt P w K mg base k 3 "written" (fs_written AD)) (c_need : FnAt P w K mg base k 1 "need" (fs_need AD)) (c_short_enough : FnAt P w K mg base k 2 "short_enough" (fs_short_enough AD)) (e_Wrong : ErAt P w K mg base k "Wrong" AD.Wrong) : FnAt P w K mg base (k + 2) 3 "kind_of_form" (fs_kind_of_form AD) := by
  obtain ⟨f, fd, G, hm, hb⟩ := G.ex
  exact fnAt G hm hb (fnD G sc_kind_of_form rfl (by decide) (fun cdv A outer s H E hr => d_kind_of_form (AD := AD) Z c_written c_need c_short_enough e_Wrong f cdv A outer s H E hr) (fun ds M R RX _ h => ok_kind_of_form  h))
theorem at_short_enough (Z : Nms w K mg AD) (G : FnF K mg "short_enough" (topS 21) ["kind", "most"]) (e_Wrong : ErAt P w K mg base k "Wrong" AD.Wrong) : FnAt P w K mg base (k + 2) 2 "short_enough" (fs_short_enough AD) := by
  obtain ⟨f, fd, G, hm, hb⟩ := G.ex
  exact fnAt G hm hb (fnD G sc_short_enough rfl (by decide) (fun cdv A outer s H E hr => d_short_enough (AD := AD) Z e_Wrong f cdv A outer s H E hr) (fun ds M R RX _ h => ok_short_enough  h))
theorem at_kind_of {N : Nat} (Z : Nms w K mg AD) (G : FnF K mg "kind_of" (topS 22) ["tree", "names"]) (c_kind_of : FnAt P w K mg base k 2 "kind_of" (fs_kind_of AD N)) (c_need : FnAt P w K mg base k 1 "need" (fs_need AD)) (c_long_enough : FnAt P w K mg base k 1 "long_enough" (fs_long_enough AD)) (c_kind_of_call : FnAt P w K mg base k 3 "kind_of_call" (fs_kind_of_call AD)) (c_kind_of_two : FnAt P w K mg base k 3 "kind_of_two" (fs_kind_of_two AD)) (e_Wrong : ErAt P w K mg base k "Wrong" AD.Wrong) : FnAt P w K mg base (k + 2) 2 "kind_of" (fs_kind_of AD (N + 1)) := by
  obtain ⟨f, fd, G, hm, hb⟩ := G.ex
  exact fnAt G hm hb (fnD G sc_kind_of rfl (by decide) (fun cdv A outer s H E hr => d_kind_of (AD := AD) Z c_kind_of c_need c_long_enough c_kind_of_call c_kind_of_two e_Wrong f cdv A outer s H E hr) (fun ds M R RX _ h => ok_kind_of  h))
theorem at_law_draws (Z : Nms w K mg AD) (G : FnF K mg "_law_draws" (topS 24) ["script"])  : FnAt P w K mg base (k + 1) 1 "_law_draws" fs_law_draws := by
  obtain ⟨f, fd, G, hm, hb⟩ := G.ex
  exact fnAt G hm hb (fnD G sc_law_draws rfl (by decide) (fun cdv A outer s H E hr => d_law_draws (AD := AD) Z f cdv A outer s H E hr) (fun ds M R RX _ h => ok_law_draws  h))
theorem at_law_draw (Z : Nms w K mg AD) (G : FnF K mg "_law_draw" (topS 25) ["draws", "limit"])  : FnAt P w K mg base (k + 1) 2 "_law_draw" fs_law_draw := by
  obtain ⟨f, fd, G, hm, hb⟩ := G.ex
  exact fnAt G hm hb (fnD G sc_law_draw rfl (by decide) (fun cdv A outer s H E hr => d_law_draw (AD := AD) Z f cdv A outer s H E hr) (fun ds M R RX _ h => ok_law_draw  h))
theorem at_law_same {N : Nat} (Z : Nms w K mg AD) (G : FnF K mg "_law_same" (topS 26) ["x", "due"]) (c_law_same : FnAt P w K mg base k 2 "_law_same" (fs_law_same N)) : FnAt P w K mg base (k + 1) 2 "_law_same" (fs_law_same (N + 1)) := by
  obtain ⟨f, fd, G, hm, hb⟩ := G.ex
  exact fnAt G hm hb (fnD G sc_law_same rfl (by decide) (fun cdv A outer s H E hr => d_law_same (AD := AD) Z c_law_same f cdv A outer s H E hr) (fun ds M R RX _ h => ok_law_same  h))
theorem at_law_copy {N : Nat} (Z : Nms w K mg AD) (G : FnF K mg "_law_copy" (topS 27) ["thing"]) (c_law_copy : FnAt P w K mg base k 1 "_law_copy" (fs_law_copy N)) : FnAt P w K mg base (k + 1) 1 "_law_copy" (fs_law_copy (N + 1)) := by
  obtain ⟨f, fd, G, hm, hb⟩ := G.ex
  exact fnAt G hm hb (fnD G sc_law_copy rfl (by decide) (fun cdv A outer s H E hr => d_law_copy (AD := AD) Z c_law_copy f cdv A outer s H E hr) (fun ds M R RX _ h => ok_law_copy  h))
theorem at_law_kind_two (Z : Nms w K mg AD) (G : FnF K mg "_law_kind_two" (topS 28) ["word", "one", "other"])  : FnAt P w K mg base (k + 1) 3 "_law_kind_two" fs_law_kind_two := by
  obtain ⟨f, fd, G, hm, hb⟩ := G.ex
  exact fnAt G hm hb (fnD G sc_law_kind_two rfl (by decide) (fun cdv A outer s H E hr => d_law_kind_two (AD := AD) Z f cdv A outer s H E hr) (fun ds M R RX _ h => ok_law_kind_two  h))
theorem at_law_kind {N : Nat} (Z : Nms w K mg AD) (G : FnF K mg "_law_kind" (topS 29) ["tree", "names"]) (c_law_kind : FnAt P w K mg base k 2 "_law_kind" (fs_law_kind N)) (c_law_kind_two : FnAt P w K mg base k 3 "_law_kind_two" fs_law_kind_two) : FnAt P w K mg base (k + 1) 2 "_law_kind" (fs_law_kind (N + 1)) := by
  obtain ⟨f, fd, G, hm, hb⟩ := G.ex
  exact fnAt G hm hb (fnD G sc_law_kind rfl (by decide) (fun cdv A outer s H E hr => d_law_kind (AD := AD) Z c_law_kind c_law_kind_two f cdv A outer s H E hr) (fun ds M R RX _ h => ok_law_kind  h))
theorem at_law_number (G : FnF K mg "_law_number" (topS 30) ["draws"]) (c_law_draw : FnAt P w K mg base k 2 "_law_draw" fs_law_draw) : FnAt P w K mg base (k + 1) 1 "_law_number" fs_law_number := by
  obtain ⟨f, fd, G, hm, hb⟩ := G.ex
  exact fnAt G hm hb (fnD G sc_law_number rfl (by decide) (fun cdv A outer s H E hr => d_law_number (AD := ⟨0, 0⟩) c_law_draw f cdv A outer s H E hr) (fun ds M R RX _ h => ok_law_number  h))
theorem at_law_named (Z : Nms w K mg AD) (G : FnF K mg "_law_named" (topS 31) ["draws", "names", "kind"]) (c_law_draw : FnAt P w K mg base k 2 "_law_draw" fs_law_draw) : FnAt P w K mg base (k + 1) 3 "_law_named" fs_law_named := by
  obtain ⟨f, fd, G, hm, hb⟩ := G.ex
  exact fnAt G hm hb (fnD G sc_law_named rfl (by decide) (fun cdv A outer s H E hr => d_law_named (AD := AD) Z c_law_draw f cdv A outer s H E hr) (fun ds M R RX _ h => ok_law_named  h))
theorem at_law_int {N : Nat} (G : FnF K mg "_law_int" (topS 32) ["draws", "names", "deep"]) (c_law_named : FnAt P w K mg base k 3 "_law_named" fs_law_named) (c_law_draw : FnAt P w K mg base k 2 "_law_draw" fs_law_draw) (c_law_number : FnAt P w K mg base k 1 "_law_number" fs_law_number) (c_law_int : FnAt P w K mg base k 3 "_law_int" (fs_law_int N)) (c_law_row : FnAt P w K mg base k 4 "_law_row" (fs_law_row N)) (c_law_poly : FnAt P w K mg base k 3 "_law_poly" (fs_law_poly N)) (c_law_frac : FnAt P w K mg base k 3 "_law_frac" (fs_law_frac N)) (c_law_rest : FnAt P w K mg base k 4 "_law_rest" (fs_law_rest N)) : FnAt P w K mg base (k + 1) 3 "_law_int" (fs_law_int (N + 1)) := by
  obtain ⟨f, fd, G, hm, hb⟩ := G.ex
  exact fnAt G hm hb (fnD G sc_law_int rfl (by decide) (fun cdv A outer s H E hr => d_law_int (AD := ⟨0, 0⟩) c_law_named c_law_draw c_law_number c_law_int c_law_row c_law_poly c_law_frac c_law_rest f cdv A outer s H E hr) (fun ds M R RX _ h => ok_law_int  h))
theorem at_law_frac {N : Nat} (Z : Nms w K mg AD) (G : FnF K mg "_law_frac" (topS 33) ["draws", "names", "deep"]) (c_law_named : FnAt P w K mg base k 3 "_law_named" fs_law_named) (c_law_draw : FnAt P w K mg base k 2 "_law_draw" fs_law_draw) (c_law_int : FnAt P w K mg base k 3 "_law_int" (fs_law_int (N + 1))) (c_law_frac : FnAt P w K mg base k 3 "_law_frac" (fs_law_frac N)) : FnAt P w K mg base (k + 1) 3 "_law_frac" (fs_law_frac (N + 1)) := by
  obtain ⟨f, fd, G, hm, hb⟩ := G.ex
  exact fnAt G hm hb (fnD G sc_law_frac rfl (by decide) (fun cdv A outer s H E hr => d_law_frac (AD := AD) Z c_law_named c_law_draw c_law_int c_law_frac f cdv A outer s H E hr) (fun ds M R RX _ h => ok_law_frac  h))
theorem at_law_rest {N : Nat} (Z : Nms w K mg AD) (G : FnF K mg "_law_rest" (topS 34) ["draws", "names", "modulus", "deep"]) (c_law_named : FnAt P w K mg base k 3 "_law_named" fs_law_named) (c_law_draw : FnAt P w K mg base k 2 "_law_draw" fs_law_draw) (c_law_int : FnAt P w K mg base k 3 "_law_int" (fs_law_int (N + 1))) (c_law_rest : FnAt P w K mg base k 4 "_law_rest" (fs_law_rest N)) : FnAt P w K mg base (k + 1) 4 "_law_rest" (fs_law_rest (N + 1)) := by
  obtain ⟨f, fd, G, hm, hb⟩ := G.ex
  exact fnAt G hm hb (fnD G sc_law_rest rfl (by decide) (fun cdv A outer s H E hr => d_law_rest (AD := AD) Z c_law_named c_law_draw c_law_int c_law_rest f cdv A outer s H E hr) (fun ds M R RX _ h => ok_law_rest  h))
theorem at_law_poly {N : Nat} (Z : Nms w K mg AD) (G : FnF K mg "_law_poly" (topS 35) ["draws", "names", "deep"]) (c_law_draw : FnAt P w K mg base k 2 "_law_draw" fs_law_draw) (c_law_int : FnAt P w K mg base k 3 "_law_int" (fs_law_int (N + 1))) (c_law_poly : FnAt P w K mg base k 3 "_law_poly" (fs_law_poly N)) : FnAt P w K mg base (k + 1) 3 "_law_poly" (fs_law_poly (N + 1)) := by
  obtain ⟨f, fd, G, hm, hb⟩ := G.ex
  exact fnAt G hm hb (fnD G sc_law_poly rfl (by decide) (fun cdv A outer s H E hr => d_law_poly (AD := AD) Z c_law_draw c_law_int c_law_poly f cdv A outer s H E hr) (fun ds M R RX _ h => ok_law_poly  h))
theorem at_law_row {N : Nat} (Z : Nms w K mg AD) (G : FnF K mg "_law_row" (topS 36) ["draws", "names", "many", "deep"]) (c_law_named : FnAt P w K mg base k 3 "_law_named" fs_law_named) (c_law_draw : FnAt P w K mg base k 2 "_law_draw" fs_law_draw) (c_law_int : FnAt P w K mg base k 3 "_law_int" (fs_law_int (N + 1))) (c_law_row : FnAt P w K mg base k 4 "_law_row" (fs_law_row N)) (c_law_table : FnAt P w K mg base k 5 "_law_table" (fs_law_table N)) : FnAt P w K mg base (k + 1) 4 "_law_row" (fs_law_row (N + 1)) := by
  obtain ⟨f, fd, G, hm, hb⟩ := G.ex
  exact fnAt G hm hb (fnD G sc_law_row rfl (by decide) (fun cdv A outer s H E hr => d_law_row (AD := AD) Z c_law_named c_law_draw c_law_int c_law_row c_law_table f cdv A outer s H E hr) (fun ds M R RX _ h => ok_law_row  h))
theorem at_law_table {N : Nat} (Z : Nms w K mg AD) (G : FnF K mg "_law_table" (topS 37) ["draws", "names", "rows", "columns", "deep"]) (c_law_named : FnAt P w K mg base k 3 "_law_named" fs_law_named) (c_law_draw : FnAt P w K mg base k 2 "_law_draw" fs_law_draw) (c_law_row : FnAt P w K mg base k 4 "_law_row" (fs_law_row (N + 1))) (c_law_table : FnAt P w K mg base k 5 "_law_table" (fs_law_table N)) : FnAt P w K mg base (k + 1) 5 "_law_table" (fs_law_table (N + 1)) := by
  obtain ⟨f, fd, G, hm, hb⟩ := G.ex
  exact fnAt G hm hb (fnD G sc_law_table rfl (by decide) (fun cdv A outer s H E hr => d_law_table (AD := AD) Z c_law_named c_law_draw c_law_row c_law_table f cdv A outer s H E hr) (fun ds M R RX _ h => ok_law_table  h))
theorem at_law_any (G : FnF K mg "_law_any" (topS 38) ["draws", "names", "deep"]) (c_law_draw : FnAt P w K mg base k 2 "_law_draw" fs_law_draw) (c_law_int : FnAt P w K mg base k 3 "_law_int" (fs_law_int 4)) (c_law_frac : FnAt P w K mg base k 3 "_law_frac" (fs_law_frac 4)) (c_law_rest : FnAt P w K mg base k 4 "_law_rest" (fs_law_rest 4)) (c_law_poly : FnAt P w K mg base k 3 "_law_poly" (fs_law_poly 4)) (c_law_row : FnAt P w K mg base k 4 "_law_row" (fs_law_row 4)) (c_law_table : FnAt P w K mg base k 5 "_law_table" (fs_law_table 4)) : FnAt P w K mg base (k + 1) 3 "_law_any" fs_law_any := by
  obtain ⟨f, fd, G, hm, hb⟩ := G.ex
  exact fnAt G hm hb (fnD G sc_law_any rfl (by decide) (fun cdv A outer s H E hr => d_law_any (AD := ⟨0, 0⟩) c_law_draw c_law_int c_law_frac c_law_rest c_law_poly c_law_row c_law_table f cdv A outer s H E hr) (fun ds M R RX _ h => ok_law_any  h))
theorem at_law_told (kE : KE K AD) (Z : Nms w K mg AD) (G : FnF K mg "_law_told" (topS 39) ["tree", "names"]) (c_kind_of : FnAt P w K mg base k 2 "kind_of" (fs_kind_of AD 10)) : FnAt P w K mg base (k + 1) 2 "_law_told" (fs_law_told 10) := by
  obtain ⟨f, fd, G, hm, hb⟩ := G.ex
  exact fnAt G hm hb (fnD G sc_law_told rfl (by decide) (fun cdv A outer s H E hr => d_law_told (AD := AD) Z c_kind_of f cdv A outer s H E hr) (fun ds M R RX _ h => ok_law_told kE.wr h))
theorem at_law_ones (Z : Nms w K mg AD) (G : FnF K mg "_law_ones" (topS 40) ["word", "many"])  : FnAt P w K mg base (k + 1) 2 "_law_ones" fs_law_ones := by
  obtain ⟨f, fd, G, hm, hb⟩ := G.ex
  exact fnAt G hm hb (fnD G sc_law_ones rfl (by decide) (fun cdv A outer s H E hr => d_law_ones (AD := AD) Z f cdv A outer s H E hr) (fun ds M R RX _ h => ok_law_ones  h))
theorem at_law (Z : Nms w K mg AD) {f : Addr} {fd : FuncData} (G : Fun K "law" "law" (topS 41) f fd) (c_law_draws : FnAt P w K mg base k 1 "_law_draws" fs_law_draws) (c_law_draw : FnAt P w K mg base k 2 "_law_draw" fs_law_draw) (c_law_any : FnAt P w K mg base k 3 "_law_any" fs_law_any) (c_law_copy : FnAt P w K mg base k 1 "_law_copy" (fs_law_copy 20)) (c_law_kind : FnAt P w K mg base k 2 "_law_kind" (fs_law_kind 10)) (c_law_told : FnAt P w K mg base k 2 "_law_told" (fs_law_told 10)) (c_law_same : FnAt P w K mg base k 2 "_law_same" (fs_law_same 20)) (c_law_ones : FnAt P w K mg base k 2 "_law_ones" fs_law_ones) : FnOk P w K mg base (L2.CX P w) (k + 1) f fd ["script"] (spD K 1 fs_law) :=
  fnD G sc_law rfl (by decide) (fun cdv A outer s H E hr => d_law (AD := AD) Z c_law_draws c_law_draw c_law_any c_law_copy c_law_kind c_law_told c_law_same c_law_ones f cdv A outer s H E hr) (fun ds M R RX _ h => ok_law  h)
end
end K03

set_option linter.all false
set_option maxRecDepth 100000
set_option maxHeartbeats 1000000
namespace K03
open PySem PySem.Spec PyProof.Rows L2 DL
structure Tops (K : PySem.W.Frag) (mg : Str → Option Value) : Prop where
  t_need : FnF K mg "need" (topS 11) ["is_fine"]
  t_long_enough : FnF K mg "long_enough" (topS 12) ["many"]
  t_written : FnF K mg "written" (topS 13) ["tree", "low", "high"]
  t_joined : FnF K mg "joined" (topS 14) ["one", "other"]
  t_multiplied : FnF K mg "multiplied" (topS 15) ["one", "other"]
  t_divided : FnF K mg "divided" (topS 16) ["one", "other"]
  t_kind_of_two : FnF K mg "kind_of_two" (topS 17) ["word", "one", "other"]
  t_kind_of_call : FnF K mg "kind_of_call" (topS 18) ["word", "trees", "kinds"]
  t_kind_of_form : FnF K mg "kind_of_form" (topS 20) ["word", "trees", "kinds"]
  t_short_enough : FnF K mg "short_enough" (topS 21) ["kind", "most"]
  t_kind_of : FnF K mg "kind_of" (topS 22) ["tree", "names"]
  t_law_draws : FnF K mg "_law_draws" (topS 24) ["script"]
  t_law_draw : FnF K mg "_law_draw" (topS 25) ["draws", "limit"]
  t_law_same : FnF K mg "_law_same" (topS 26) ["x", "due"]
  t_law_copy : FnF K mg "_law_copy" (topS 27) ["thing"]
  t_law_kind_two : FnF K mg "_law_kind_two" (topS 28) ["word", "one", "other"]
  t_law_kind : FnF K mg "_law_kind" (topS 29) ["tree", "names"]
  t_law_number : FnF K mg "_law_number" (topS 30) ["draws"]
  t_law_named : FnF K mg "_law_named" (topS 31) ["draws", "names", "kind"]
  t_law_int : FnF K mg "_law_int" (topS 32) ["draws", "names", "deep"]
  t_law_frac : FnF K mg "_law_frac" (topS 33) ["draws", "names", "deep"]
  t_law_rest : FnF K mg "_law_rest" (topS 34) ["draws", "names", "modulus", "deep"]
  t_law_poly : FnF K mg "_law_poly" (topS 35) ["draws", "names", "deep"]
  t_law_row : FnF K mg "_law_row" (topS 36) ["draws", "names", "many", "deep"]
  t_law_table : FnF K mg "_law_table" (topS 37) ["draws", "names", "rows", "columns", "deep"]
  t_law_any : FnF K mg "_law_any" (topS 38) ["draws", "names", "deep"]
  t_law_told : FnF K mg "_law_told" (topS 39) ["tree", "names"]
  t_law_ones : FnF K mg "_law_ones" (topS 40) ["word", "many"]
section
variable {P : Program} {w : World} {K : PySem.W.Frag} {mg : Str → Option Value} {base : Heap} {AD : Ads} {k : Nat}
theorem law_ok {fL : Addr} {fdL : FuncData} (GL : Fun K "law" "law" (topS 41) fL fdL) (Z : Nms w K mg AD) (T : Tops K mg) (kE : KE K AD) (eWrong : ∀ k, ErAt P w K mg base (k + 1) "Wrong" AD.Wrong) : FnOk P w K mg base (L2.CX P w) 29 fL fdL ["script"] (spD K 1 fs_law) := by
  have h_need : FnAt P w K mg base 3 1 "need" (fs_need AD) := at_need (k := 1) Z T.t_need ((eWrong 0).mono (by decide))
  have h_long_enough : FnAt P w K mg base 3 1 "long_enough" (fs_long_enough AD) := at_long_enough (k := 1) Z T.t_long_enough ((eWrong 0).mono (by decide))
  have h_written : FnAt P w K mg base 3 3 "written" (fs_written AD) := at_written (k := 1) Z T.t_written ((eWrong 0).mono (by decide))
  have h_joined : FnAt P w K mg base 1 2 "joined" fs_joined := at_joined (k := 0) Z T.t_joined
  have h_multiplied : FnAt P w K mg base 4 2 "multiplied" (fs_multiplied AD) := at_multiplied (k := 3) Z T.t_multiplied (h_long_enough.mono (by decide)) (h_joined.mono (by decide))
  have h_divided : FnAt P w K mg base 2 2 "divided" fs_divided := at_divided (k := 1) Z T.t_divided (h_joined.mono (by decide))
  have h_kind_of_two : FnAt P w K mg base 5 3 "kind_of_two" (fs_kind_of_two AD) := at_kind_of_two (k := 4) Z T.t_kind_of_two (h_joined.mono (by decide)) (h_multiplied.mono (by decide)) (h_divided.mono (by decide)) (h_need.mono (by decide))
  have h_short_enough : FnAt P w K mg base 3 2 "short_enough" (fs_short_enough AD) := at_short_enough (k := 1) Z T.t_short_enough ((eWrong 0).mono (by decide))
  have h_kind_of_form : FnAt P w K mg base 5 3 "kind_of_form" (fs_kind_of_form AD) := at_kind_of_form (k := 3) Z T.t_kind_of_form (h_written.mono (by decide)) (h_need.mono (by decide)) (h_short_enough.mono (by decide)) ((eWrong 0).mono (by decide))
  have h_kind_of_call : FnAt P w K mg base 7 3 "kind_of_call" (fs_kind_of_call AD) := at_kind_of_call (k := 5) Z T.t_kind_of_call (h_need.mono (by decide)) (h_long_enough.mono (by decide)) (h_written.mono (by decide)) (h_kind_of_form.mono (by decide)) ((eWrong 0).mono (by decide))
  have h_kind_of_0 : FnAt P w K mg base 7 2 "kind_of" (fs_kind_of AD 0) := by
    obtain ⟨f, fd, G, hm, hb⟩ := T.t_kind_of.ex
    exact fnAt G hm hb (FnOk.none0 rfl kind0)
  have h_kind_of_1 : FnAt P w K mg base 9 2 "kind_of" (fs_kind_of AD 1) := at_kind_of (k := 7) Z T.t_kind_of h_kind_of_0 (h_need.mono (by decide)) (h_long_enough.mono (by decide)) (h_kind_of_call.mono (by decide)) (h_kind_of_two.mono (by decide)) ((eWrong 0).mono (by decide))
  have h_kind_of_2 : FnAt P w K mg base 11 2 "kind_of" (fs_kind_of AD 2) := at_kind_of (k := 9) Z T.t_kind_of h_kind_of_1 (h_need.mono (by decide)) (h_long_enough.mono (by decide)) (h_kind_of_call.mono (by decide)) (h_kind_of_two.mono (by decide)) ((eWrong 0).mono (by decide))
  have h_kind_of_3 : FnAt P w K mg base 13 2 "kind_of" (fs_kind_of AD 3) := at_kind_of (k := 11) Z T.t_kind_of h_kind_of_2 (h_need.mono (by decide)) (h_long_enough.mono (by decide)) (h_kind_of_call.mono (by decide)) (h_kind_of_two.mono (by decide)) ((eWrong 0).mono (by decide))
  have h_kind_of_4 : FnAt P w K mg base 15 2 "kind_of" (fs_kind_of AD 4) := at_kind_of (k := 13) Z T.t_kind_of h_kind_of_3 (h_need.mono (by decide)) (h_long_enough.mono (by decide)) (h_kind_of_call.mono (by decide)) (h_kind_of_two.mono (by decide)) ((eWrong 0).mono (by decide))
  have h_kind_of_5 : FnAt P w K mg base 17 2 "kind_of" (fs_kind_of AD 5) := at_kind_of (k := 15) Z T.t_kind_of h_kind_of_4 (h_need.mono (by decide)) (h_long_enough.mono (by decide)) (h_kind_of_call.mono (by decide)) (h_kind_of_two.mono (by decide)) ((eWrong 0).mono (by decide))
  have h_kind_of_6 : FnAt P w K mg base 19 2 "kind_of" (fs_kind_of AD 6) := at_kind_of (k := 17) Z T.t_kind_of h_kind_of_5 (h_need.mono (by decide)) (h_long_enough.mono (by decide)) (h_kind_of_call.mono (by decide)) (h_kind_of_two.mono (by decide)) ((eWrong 0).mono (by decide))
  have h_kind_of_7 : FnAt P w K mg base 21 2 "kind_of" (fs_kind_of AD 7) := at_kind_of (k := 19) Z T.t_kind_of h_kind_of_6 (h_need.mono (by decide)) (h_long_enough.mono (by decide)) (h_kind_of_call.mono (by decide)) (h_kind_of_two.mono (by decide)) ((eWrong 0).mono (by decide))
  have h_kind_of_8 : FnAt P w K mg base 23 2 "kind_of" (fs_kind_of AD 8) := at_kind_of (k := 21) Z T.t_kind_of h_kind_of_7 (h_need.mono (by decide)) (h_long_enough.mono (by decide)) (h_kind_of_call.mono (by decide)) (h_kind_of_two.mono (by decide)) ((eWrong 0).mono (by decide))
  have h_kind_of_9 : FnAt P w K mg base 25 2 "kind_of" (fs_kind_of AD 9) := at_kind_of (k := 23) Z T.t_kind_of h_kind_of_8 (h_need.mono (by decide)) (h_long_enough.mono (by decide)) (h_kind_of_call.mono (by decide)) (h_kind_of_two.mono (by decide)) ((eWrong 0).mono (by decide))
  have h_kind_of_10 : FnAt P w K mg base 27 2 "kind_of" (fs_kind_of AD 10) := at_kind_of (k := 25) Z T.t_kind_of h_kind_of_9 (h_need.mono (by decide)) (h_long_enough.mono (by decide)) (h_kind_of_call.mono (by decide)) (h_kind_of_two.mono (by decide)) ((eWrong 0).mono (by decide))
  have h_kind_of := h_kind_of_10
  have h_law_draws : FnAt P w K mg base 1 1 "_law_draws" fs_law_draws := at_law_draws (k := 0) Z T.t_law_draws
  have h_law_draw : FnAt P w K mg base 1 2 "_law_draw" fs_law_draw := at_law_draw (k := 0) Z T.t_law_draw
  have h_law_same_0 : FnAt P w K mg base 0 2 "_law_same" (fs_law_same 0) := by
    obtain ⟨f, fd, G, hm, hb⟩ := T.t_law_same.ex
    exact fnAt G hm hb (FnOk.none0 rfl (fun _ _ _ _ h => h))
  have h_law_same_1 : FnAt P w K mg base 1 2 "_law_same" (fs_law_same 1) := at_law_same (k := 0) Z T.t_law_same h_law_same_0
  have h_law_same_2 : FnAt P w K mg base 2 2 "_law_same" (fs_law_same 2) := at_law_same (k := 1) Z T.t_law_same h_law_same_1
  have h_law_same_3 : FnAt P w K mg base 3 2 "_law_same" (fs_law_same 3) := at_law_same (k := 2) Z T.t_law_same h_law_same_2
  have h_law_same_4 : FnAt P w K mg base 4 2 "_law_same" (fs_law_same 4) := at_law_same (k := 3) Z T.t_law_same h_law_same_3
  have h_law_same_5 : FnAt P w K mg base 5 2 "_law_same" (fs_law_same 5) := at_law_same (k := 4) Z T.t_law_same h_law_same_4
  have h_law_same_6 : FnAt P w K mg base 6 2 "_law_same" (fs_law_same 6) := at_law_same (k := 5) Z T.t_law_same h_law_same_5
  have h_law_same_7 : FnAt P w K mg base 7 2 "_law_same" (fs_law_same 7) := at_law_same (k := 6) Z T.t_law_same h_law_same_6
  have h_law_same_8 : FnAt P w K mg base 8 2 "_law_same" (fs_law_same 8) := at_law_same (k := 7) Z T.t_law_same h_law_same_7
  have h_law_same_9 : FnAt P w K mg base 9 2 "_law_same" (fs_law_same 9) := at_law_same (k := 8) Z T.t_law_same h_law_same_8
  have h_law_same_10 : FnAt P w K mg base 10 2 "_law_same" (fs_law_same 10) := at_law_same (k := 9) Z T.t_law_same h_law_same_9
  have h_law_same_11 : FnAt P w K mg base 11 2 "_law_same" (fs_law_same 11) := at_law_same (k := 10) Z T.t_law_same h_law_same_10
  have h_law_same_12 : FnAt P w K mg base 12 2 "_law_same" (fs_law_same 12) := at_law_same (k := 11) Z T.t_law_same h_law_same_11
  have h_law_same_13 : FnAt P w K mg base 13 2 "_law_same" (fs_law_same 13) := at_law_same (k := 12) Z T.t_law_same h_law_same_12
  have h_law_same_14 : FnAt P w K mg base 14 2 "_law_same" (fs_law_same 14) := at_law_same (k := 13) Z T.t_law_same h_law_same_13
  have h_law_same_15 : FnAt P w K mg base 15 2 "_law_same" (fs_law_same 15) := at_law_same (k := 14) Z T.t_law_same h_law_same_14
  have h_law_same_16 : FnAt P w K mg base 16 2 "_law_same" (fs_law_same 16) := at_law_same (k := 15) Z T.t_law_same h_law_same_15
  have h_law_same_17 : FnAt P w K mg base 17 2 "_law_same" (fs_law_same 17) := at_law_same (k := 16) Z T.t_law_same h_law_same_16
  have h_law_same_18 : FnAt P w K mg base 18 2 "_law_same" (fs_law_same 18) := at_law_same (k := 17) Z T.t_law_same h_law_same_17
  have h_law_same_19 : FnAt P w K mg base 19 2 "_law_same" (fs_law_same 19) := at_law_same (k := 18) Z T.t_law_same h_law_same_18
  have h_law_same_20 : FnAt P w K mg base 20 2 "_law_same" (fs_law_same 20) := at_law_same (k := 19) Z T.t_law_same h_law_same_19
  have h_law_same := h_law_same_20
  have h_law_copy_0 : FnAt P w K mg base 0 1 "_law_copy" (fs_law_copy 0) := by
    obtain ⟨f, fd, G, hm, hb⟩ := T.t_law_copy.ex
    exact fnAt G hm hb (FnOk.none0 rfl (fun _ _ _ _ h => h))
  have h_law_copy_1 : FnAt P w K mg base 1 1 "_law_copy" (fs_law_copy 1) := at_law_copy (k := 0) Z T.t_law_copy h_law_copy_0
  have h_law_copy_2 : FnAt P w K mg base 2 1 "_law_copy" (fs_law_copy 2) := at_law_copy (k := 1) Z T.t_law_copy h_law_copy_1
  have h_law_copy_3 : FnAt P w K mg base 3 1 "_law_copy" (fs_law_copy 3) := at_law_copy (k := 2) Z T.t_law_copy h_law_copy_2
  have h_law_copy_4 : FnAt P w K mg base 4 1 "_law_copy" (fs_law_copy 4) := at_law_copy (k := 3) Z T.t_law_copy h_law_copy_3
  have h_law_copy_5 : FnAt P w K mg base 5 1 "_law_copy" (fs_law_copy 5) := at_law_copy (k := 4) Z T.t_law_copy h_law_copy_4
  have h_law_copy_6 : FnAt P w K mg base 6 1 "_law_copy" (fs_law_copy 6) := at_law_copy (k := 5) Z T.t_law_copy h_law_copy_5
  have h_law_copy_7 : FnAt P w K mg base 7 1 "_law_copy" (fs_law_copy 7) := at_law_copy (k := 6) Z T.t_law_copy h_law_copy_6
  have h_law_copy_8 : FnAt P w K mg base 8 1 "_law_copy" (fs_law_copy 8) := at_law_copy (k := 7) Z T.t_law_copy h_law_copy_7
  have h_law_copy_9 : FnAt P w K mg base 9 1 "_law_copy" (fs_law_copy 9) := at_law_copy (k := 8) Z T.t_law_copy h_law_copy_8
  have h_law_copy_10 : FnAt P w K mg base 10 1 "_law_copy" (fs_law_copy 10) := at_law_copy (k := 9) Z T.t_law_copy h_law_copy_9
  have h_law_copy_11 : FnAt P w K mg base 11 1 "_law_copy" (fs_law_copy 11) := at_law_copy (k := 10) Z T.t_law_copy h_law_copy_10
  have h_law_copy_12 : FnAt P w K mg base 12 1 "_law_copy" (fs_law_copy 12) := at_law_copy (k := 11) Z T.t_law_copy h_law_copy_11
  have h_law_copy_13 : FnAt P w K mg base 13 1 "_law_copy" (fs_law_copy 13) := at_law_copy (k := 12) Z T.t_law_copy h_law_copy_12
  have h_law_copy_14 : FnAt P w K mg base 14 1 "_law_copy" (fs_law_copy 14) := at_law_copy (k := 13) Z T.t_law_copy h_law_copy_13
  have h_law_copy_15 : FnAt P w K mg base 15 1 "_law_copy" (fs_law_copy 15) := at_law_copy (k := 14) Z T.t_law_copy h_law_copy_14
  have h_law_copy_16 : FnAt P w K mg base 16 1 "_law_copy" (fs_law_copy 16) := at_law_copy (k := 15) Z T.t_law_copy h_law_copy_15
  have h_law_copy_17 : FnAt P w K mg base 17 1 "_law_copy" (fs_law_copy 17) := at_law_copy (k := 16) Z T.t_law_copy h_law_copy_16
  have h_law_copy_18 : FnAt P w K mg base 18 1 "_law_copy" (fs_law_copy 18) := at_law_copy (k := 17) Z T.t_law_copy h_law_copy_17
  have h_law_copy_19 : FnAt P w K mg base 19 1 "_law_copy" (fs_law_copy 19) := at_law_copy (k := 18) Z T.t_law_copy h_law_copy_18
  have h_law_copy_20 : FnAt P w K mg base 20 1 "_law_copy" (fs_law_copy 20) := at_law_copy (k := 19) Z T.t_law_copy h_law_copy_19
  have h_law_copy := h_law_copy_20
  have h_law_kind_two : FnAt P w K mg base 1 3 "_law_kind_two" fs_law_kind_two := at_law_kind_two (k := 0) Z T.t_law_kind_two
  have h_law_kind_0 : FnAt P w K mg base 1 2 "_law_kind" (fs_law_kind 0) := by
    obtain ⟨f, fd, G, hm, hb⟩ := T.t_law_kind.ex
    exact fnAt G hm hb (FnOk.none0 rfl lkind0)
  have h_law_kind_1 : FnAt P w K mg base 2 2 "_law_kind" (fs_law_kind 1) := at_law_kind (k := 1) Z T.t_law_kind h_law_kind_0 (h_law_kind_two.mono (by decide))
  have h_law_kind_2 : FnAt P w K mg base 3 2 "_law_kind" (fs_law_kind 2) := at_law_kind (k := 2) Z T.t_law_kind h_law_kind_1 (h_law_kind_two.mono (by decide))
  have h_law_kind_3 : FnAt P w K mg base 4 2 "_law_kind" (fs_law_kind 3) := at_law_kind (k := 3) Z T.t_law_kind h_law_kind_2 (h_law_kind_two.mono (by decide))
  have h_law_kind_4 : FnAt P w K mg base 5 2 "_law_kind" (fs_law_kind 4) := at_law_kind (k := 4) Z T.t_law_kind h_law_kind_3 (h_law_kind_two.mono (by decide))
  have h_law_kind_5 : FnAt P w K mg base 6 2 "_law_kind" (fs_law_kind 5) := at_law_kind (k := 5) Z T.t_law_kind h_law_kind_4 (h_law_kind_two.mono (by decide))
  have h_law_kind_6 : FnAt P w K mg base 7 2 "_law_kind" (fs_law_kind 6) := at_law_kind (k := 6) Z T.t_law_kind h_law_kind_5 (h_law_kind_two.mono (by decide))
  have h_law_kind_7 : FnAt P w K mg base 8 2 "_law_kind" (fs_law_kind 7) := at_law_kind (k := 7) Z T.t_law_kind h_law_kind_6 (h_law_kind_two.mono (by decide))
  have h_law_kind_8 : FnAt P w K mg base 9 2 "_law_kind" (fs_law_kind 8) := at_law_kind (k := 8) Z T.t_law_kind h_law_kind_7 (h_law_kind_two.mono (by decide))
  have h_law_kind_9 : FnAt P w K mg base 10 2 "_law_kind" (fs_law_kind 9) := at_law_kind (k := 9) Z T.t_law_kind h_law_kind_8 (h_law_kind_two.mono (by decide))
  have h_law_kind_10 : FnAt P w K mg base 11 2 "_law_kind" (fs_law_kind 10) := at_law_kind (k := 10) Z T.t_law_kind h_law_kind_9 (h_law_kind_two.mono (by decide))
  have h_law_kind := h_law_kind_10
  have h_law_number : FnAt P w K mg base 2 1 "_law_number" fs_law_number := at_law_number (k := 1) T.t_law_number (h_law_draw.mono (by decide))
  have h_law_named : FnAt P w K mg base 2 3 "_law_named" fs_law_named := at_law_named (k := 1) Z T.t_law_named (h_law_draw.mono (by decide))
  have h_law_int_0 : FnAt P w K mg base 2 3 "_law_int" (fs_law_int 0) := by
    obtain ⟨f, fd, G, hm, hb⟩ := T.t_law_int.ex
    exact fnAt G hm hb (FnOk.none0 rfl int0)
  have h_law_frac_0 : FnAt P w K mg base 2 3 "_law_frac" (fs_law_frac 0) := by
    obtain ⟨f, fd, G, hm, hb⟩ := T.t_law_frac.ex
    exact fnAt G hm hb (FnOk.none0 rfl frac0)
  have h_law_rest_0 : FnAt P w K mg base 2 4 "_law_rest" (fs_law_rest 0) := by
    obtain ⟨f, fd, G, hm, hb⟩ := T.t_law_rest.ex
    exact fnAt G hm hb (FnOk.none0 rfl rest0)
  have h_law_poly_0 : FnAt P w K mg base 2 3 "_law_poly" (fs_law_poly 0) := by
    obtain ⟨f, fd, G, hm, hb⟩ := T.t_law_poly.ex
    exact fnAt G hm hb (FnOk.none0 rfl poly0)
  have h_law_row_0 : FnAt P w K mg base 2 4 "_law_row" (fs_law_row 0) := by
    obtain ⟨f, fd, G, hm, hb⟩ := T.t_law_row.ex
    exact fnAt G hm hb (FnOk.none0 rfl row0)
  have h_law_table_0 : FnAt P w K mg base 2 5 "_law_table" (fs_law_table 0) := by
    obtain ⟨f, fd, G, hm, hb⟩ := T.t_law_table.ex
    exact fnAt G hm hb (FnOk.none0 rfl table0)
  have h_law_int_1 : FnAt P w K mg base 3 3 "_law_int" (fs_law_int 1) := at_law_int (N := 0) (k := 2) T.t_law_int (h_law_named.mono (by decide)) (h_law_draw.mono (by decide)) (h_law_number.mono (by decide)) (h_law_int_0.mono (by decide)) (h_law_row_0.mono (by decide)) (h_law_poly_0.mono (by decide)) (h_law_frac_0.mono (by decide)) (h_law_rest_0.mono (by decide))
  have h_law_frac_1 : FnAt P w K mg base 4 3 "_law_frac" (fs_law_frac 1) := at_law_frac (N := 0) (k := 3) Z T.t_law_frac (h_law_named.mono (by decide)) (h_law_draw.mono (by decide)) (h_law_int_1.mono (by decide)) (h_law_frac_0.mono (by decide))
  have h_law_rest_1 : FnAt P w K mg base 4 4 "_law_rest" (fs_law_rest 1) := at_law_rest (N := 0) (k := 3) Z T.t_law_rest (h_law_named.mono (by decide)) (h_law_draw.mono (by decide)) (h_law_int_1.mono (by decide)) (h_law_rest_0.mono (by decide))
  have h_law_poly_1 : FnAt P w K mg base 4 3 "_law_poly" (fs_law_poly 1) := at_law_poly (N := 0) (k := 3) Z T.t_law_poly (h_law_draw.mono (by decide)) (h_law_int_1.mono (by decide)) (h_law_poly_0.mono (by decide))
  have h_law_row_1 : FnAt P w K mg base 4 4 "_law_row" (fs_law_row 1) := at_law_row (N := 0) (k := 3) Z T.t_law_row (h_law_named.mono (by decide)) (h_law_draw.mono (by decide)) (h_law_int_1.mono (by decide)) (h_law_row_0.mono (by decide)) (h_law_table_0.mono (by decide))
  have h_law_table_1 : FnAt P w K mg base 5 5 "_law_table" (fs_law_table 1) := at_law_table (N := 0) (k := 4) Z T.t_law_table (h_law_named.mono (by decide)) (h_law_draw.mono (by decide)) (h_law_row_1.mono (by decide)) (h_law_table_0.mono (by decide))
  have h_law_int_2 : FnAt P w K mg base 5 3 "_law_int" (fs_law_int 2) := at_law_int (N := 1) (k := 4) T.t_law_int (h_law_named.mono (by decide)) (h_law_draw.mono (by decide)) (h_law_number.mono (by decide)) (h_law_int_1.mono (by decide)) (h_law_row_1.mono (by decide)) (h_law_poly_1.mono (by decide)) (h_law_frac_1.mono (by decide)) (h_law_rest_1.mono (by decide))
  have h_law_frac_2 : FnAt P w K mg base 6 3 "_law_frac" (fs_law_frac 2) := at_law_frac (N := 1) (k := 5) Z T.t_law_frac (h_law_named.mono (by decide)) (h_law_draw.mono (by decide)) (h_law_int_2.mono (by decide)) (h_law_frac_1.mono (by decide))
  have h_law_rest_2 : FnAt P w K mg base 6 4 "_law_rest" (fs_law_rest 2) := at_law_rest (N := 1) (k := 5) Z T.t_law_rest (h_law_named.mono (by decide)) (h_law_draw.mono (by decide)) (h_law_int_2.mono (by decide)) (h_law_rest_1.mono (by decide))
  have h_law_poly_2 : FnAt P w K mg base 6 3 "_law_poly" (fs_law_poly 2) := at_law_poly (N := 1) (k := 5) Z T.t_law_poly (h_law_draw.mono (by decide)) (h_law_int_2.mono (by decide)) (h_law_poly_1.mono (by decide))
  have h_law_row_2 : FnAt P w K mg base 6 4 "_law_row" (fs_law_row 2) := at_law_row (N := 1) (k := 5) Z T.t_law_row (h_law_named.mono (by decide)) (h_law_draw.mono (by decide)) (h_law_int_2.mono (by decide)) (h_law_row_1.mono (by decide)) (h_law_table_1.mono (by decide))
  have h_law_table_2 : FnAt P w K mg base 7 5 "_law_table" (fs_law_table 2) := at_law_table (N := 1) (k := 6) Z T.t_law_table (h_law_named.mono (by decide)) (h_law_draw.mono (by decide)) (h_law_row_2.mono (by decide)) (h_law_table_1.mono (by decide))
  have h_law_int_3 : FnAt P w K mg base 7 3 "_law_int" (fs_law_int 3) := at_law_int (N := 2) (k := 6) T.t_law_int (h_law_named.mono (by decide)) (h_law_draw.mono (by decide)) (h_law_number.mono (by decide)) (h_law_int_2.mono (by decide)) (h_law_row_2.mono (by decide)) (h_law_poly_2.mono (by decide)) (h_law_frac_2.mono (by decide)) (h_law_rest_2.mono (by decide))
  have h_law_frac_3 : FnAt P w K mg base 8 3 "_law_frac" (fs_law_frac 3) := at_law_frac (N := 2) (k := 7) Z T.t_law_frac (h_law_named.mono (by decide)) (h_law_draw.mono (by decide)) (h_law_int_3.mono (by decide)) (h_law_frac_2.mono (by decide))
  have h_law_rest_3 : FnAt P w K mg base 8 4 "_law_rest" (fs_law_rest 3) := at_law_rest (N := 2) (k := 7) Z T.t_law_rest (h_law_named.mono (by decide)) (h_law_draw.mono (by decide)) (h_law_int_3.mono (by decide)) (h_law_rest_2.mono (by decide))
  have h_law_poly_3 : FnAt P w K mg base 8 3 "_law_poly" (fs_law_poly 3) := at_law_poly (N := 2) (k := 7) Z T.t_law_poly (h_law_draw.mono (by decide)) (h_law_int_3.mono (by decide)) (h_law_poly_2.mono (by decide))
  have h_law_row_3 : FnAt P w K mg base 8 4 "_law_row" (fs_law_row 3) := at_law_row (N := 2) (k := 7) Z T.t_law_row (h_law_named.mono (by decide)) (h_law_draw.mono (by decide)) (h_law_int_3.mono (by decide)) (h_law_row_2.mono (by decide)) (h_law_table_2.mono (by decide))
  have h_law_table_3 : FnAt P w K mg base 9 5 "_law_table" (fs_law_table 3) := at_law_table (N := 2) (k := 8) Z T.t_law_table (h_law_named.mono (by decide)) (h_law_draw.mono (by decide)) (h_law_row_3.mono (by decide)) (h_law_table_2.mono (by decide))
  have h_law_int_4 : FnAt P w K mg base 9 3 "_law_int" (fs_law_int 4) := at_law_int (N := 3) (k := 8) T.t_law_int (h_law_named.mono (by decide)) (h_law_draw.mono (by decide)) (h_law_number.mono (by decide)) (h_law_int_3.mono (by decide)) (h_law_row_3.mono (by decide)) (h_law_poly_3.mono (by decide)) (h_law_frac_3.mono (by decide)) (h_law_rest_3.mono (by decide))
  have h_law_frac_4 : FnAt P w K mg base 10 3 "_law_frac" (fs_law_frac 4) := at_law_frac (N := 3) (k := 9) Z T.t_law_frac (h_law_named.mono (by decide)) (h_law_draw.mono (by decide)) (h_law_int_4.mono (by decide)) (h_law_frac_3.mono (by decide))
  have h_law_rest_4 : FnAt P w K mg base 10 4 "_law_rest" (fs_law_rest 4) := at_law_rest (N := 3) (k := 9) Z T.t_law_rest (h_law_named.mono (by decide)) (h_law_draw.mono (by decide)) (h_law_int_4.mono (by decide)) (h_law_rest_3.mono (by decide))
  have h_law_poly_4 : FnAt P w K mg base 10 3 "_law_poly" (fs_law_poly 4) := at_law_poly (N := 3) (k := 9) Z T.t_law_poly (h_law_draw.mono (by decide)) (h_law_int_4.mono (by decide)) (h_law_poly_3.mono (by decide))
  have h_law_row_4 : FnAt P w K mg base 10 4 "_law_row" (fs_law_row 4) := at_law_row (N := 3) (k := 9) Z T.t_law_row (h_law_named.mono (by decide)) (h_law_draw.mono (by decide)) (h_law_int_4.mono (by decide)) (h_law_row_3.mono (by decide)) (h_law_table_3.mono (by decide))
  have h_law_table_4 : FnAt P w K mg base 11 5 "_law_table" (fs_law_table 4) := at_law_table (N := 3) (k := 10) Z T.t_law_table (h_law_named.mono (by decide)) (h_law_draw.mono (by decide)) (h_law_row_4.mono (by decide)) (h_law_table_3.mono (by decide))
  have h_law_int := h_law_int_4
  have h_law_frac := h_law_frac_4
  have h_law_rest := h_law_rest_4
  have h_law_poly := h_law_poly_4
  have h_law_row := h_law_row_4
  have h_law_table := h_law_table_4
  have h_law_any : FnAt P w K mg base 12 3 "_law_any" fs_law_any := at_law_any (k := 11) T.t_law_any (h_law_draw.mono (by decide)) (h_law_int.mono (by decide)) (h_law_frac.mono (by decide)) (h_law_rest.mono (by decide)) (h_law_poly.mono (by decide)) (h_law_row.mono (by decide)) (h_law_table.mono (by decide))
  have h_law_told : FnAt P w K mg base 28 2 "_law_told" (fs_law_told 10) := at_law_told (k := 27) kE Z T.t_law_told (h_kind_of.mono (by decide))
  have h_law_ones : FnAt P w K mg base 1 2 "_law_ones" fs_law_ones := at_law_ones (k := 0) Z T.t_law_ones
  exact at_law (k := 28) Z GL (h_law_draws.mono (by decide)) (h_law_draw.mono (by decide)) (h_law_any.mono (by decide)) (h_law_copy.mono (by decide)) (h_law_kind.mono (by decide)) (h_law_told.mono (by decide)) (h_law_same.mono (by decide)) (h_law_ones.mono (by decide))
theorem err_text : ErrT (inClass (topS 1) 0) where
  body := ⟨_, _, _, _, _, _, _, _, _, _, rfl, rfl⟩
  head := ⟨_, rfl, rfl⟩
  kind := rfl
  co := rfl
  gen := rfl
  cell := by decide +kernel
  free := by decide +kernel
  ls := rfl
  la := rfl
  lc := rfl
  lp := rfl
end
theorem all_mk {l : PySem.W.OpenLaw} {w : World} {K : PySem.W.Frag} {h : Heap} {mg : Str → Option Value} {fa cReckonError cWrong fE fL : Addr} {oc kV dc pm cd ct : Value} {od an : Option Addr} {sl : Array (Option Value)} (X : K.In h) (G : h.Ns mainGlobals mg) (hfa : mg "law" = some (.ref fa))
    (h_ReckonError : PySem.W.nsIn K mainGlobals "ReckonError" = some (some (.ref cReckonError))) (h_Wrong : PySem.W.nsIn K mainGlobals "Wrong" = some (some (.ref cWrong)))
    (h_law : PySem.W.nsIn K mainGlobals "law" = some (some (.ref fL))) (l_law : K.lookup fL = some ⟨oc, od, .func (PySem.W.fnOf "law" "law" (defArgs (topS 41)) (defBody (topS 41)) (defScope (topS 41)) .none kV dc pm an cd ct), sl⟩) (c_law : PySem.W.codeIn K cd "law" = true) (k_law : PySem.W.keepIn K (.ref fL) = true)
    (i_Wrong : PySem.W.findIn K (.ref cWrong) "__init__" = some (some (.ref fE)))
    (E : EnF l.prog K mg (inClass (topS 1) 0) fE cReckonError) (e_Wrong : ErrC K cReckonError cWrong)
    (kE : KE K ⟨cReckonError, cWrong⟩) (Z : Nms w K mg ⟨cReckonError, cWrong⟩) (T : Tops K mg) :
    ∃ fd : FuncData, (∀ (s : Shared) (v : Value), BindsTo s fd ⟨[v], []⟩ [("script", v)]) ∧ ∀ base : Heap, K.In base → base.Ns mainGlobals mg → FnOk l.prog w K mg base (L2.CX l.prog w) 29 fa fd ["script"] (spD K 1 fs_law) := by
  have e := hfa.symm.trans (PySem.W.mg_of X G h_law)
  cases e
  exact ⟨PySem.W.fnOf "law" "law" (defArgs (topS 41)) (defBody (topS 41)) (defScope (topS 41)) .none kV dc pm an cd ct, fun s v => .of_eq rfl, fun base _ _ =>
    law_ok (fun_mk l_law c_law k_law) Z T kE (fun k => er_of Z.m_Wrong e_Wrong E err_text i_Wrong)⟩
theorem walk {l : PySem.W.OpenLaw} {q : Program} {loose : List Str} {XP : (Str → Option Value) → Heap → Prop} {YP : World → Heap → Prop} {d : DefRec} {K : Params → PySem.W.Frag} (hn : l.most = some 63) (hdf : d.params.defaults = []) (hY : ∀ (w : World) (h : Heap), YP w h → (K w.params).In h)
    (F : ∀ (w : World) (mg : Str → Option Value) (fa : Addr) (h : Heap), XP mg h → (K w.params).In h → h.Ns mainGlobals mg → mg d.name = some (.ref fa) →
      ∃ fd : FuncData, (∀ (s : Shared) (u : Value), BindsTo s fd ⟨[u], []⟩ [("script", u)]) ∧ ∀ base : Heap, (K w.params).In base → base.Ns mainGlobals mg → FnOk l.prog w (K w.params) mg base (L2.CX l.prog w) 29 fa fd ["script"] (spD (K w.params) 1 fs_law)) :
    PySem.W.WalkO q loose XP YP l.row.toRowW d [] (fun f vs => PySem.call f vs) :=
  walkX (n := 63) (k := 29) (x := "script") (CX := fun w => L2.CX l.prog w) (sp := fun w => spD (K w.params) 1 fs_law) hn (by decide) hdf ⟨rfl, by decide, by decide⟩ hY F (fun w H a ns hn _ hS => law_sp (by decide) (fun ns hn => ⟨ns, rfl, hn, fun _ => rfl⟩) H a ns hn hS) fun w H s e s' h => noCX h
end K03

set_option Elab.async false
set_option maxRecDepth 100000
open PySem PySem.W PyProof.Rows
set_option maxRecDepth 100000 in
set_option maxHeartbeats 0 in
theorem PySem.Challenge.cw_papersums_k03_kinds_of_trees_holds : PySem.Challenge.rw_papersums_k03_kinds_of_trees.Holds := by
  w_on; o_law; k_head; (case hw => w_witness2)
  k_fill
  refine K03.walk (l := PySem.Challenge.rw_papersums_k03_kinds_of_trees) rfl rfl (fun w h Y => PySem.W.kIn_of Y) ?F
  case F =>
  intro w mg fa h XP KX G hmg
  refine' K03.all_mk KX G hmg ?h_ReckonError ?h_Wrong ?h_law ?l_law ?c_law ?k_law ?i_Wrong ?E ?e_Wrong ?kE ?Z ?T
  (case h_ReckonError => k_is); (case h_Wrong => k_is); (case h_law => k_is); (case l_law => k_is); (case c_law => k_is); (case k_law => k_is); (case i_Wrong => k_is)
  case E => refine' DL.enF KX G (fun _ _ _ _ _ _ _ _ us hl => match us, hl with | [_, _], _ => rfl) ?top ?l ?c ?lc ?hv ?hf ?lcc ?hB ?sup ?any ?ty; (case l => k_is); (case c => k_is); (case lc => k_is); (case hv => exact rfl); (case hf => kernel_rfl); (case lcc => k_is); (case hB => k_is); (case sup => k_is); (case any => k_is); (case ty => k_is); (case top => kernel_rfl)
  case e_Wrong => refine' DL.errF ?xL ?rf ?sa ?exC ?tyC ?kC ?mro ?sup ?ve ?noAt; (case xL => k_is); (case rf => rfl); (case sa => k_is); (case exC => k_is); (case tyC => k_is); (case kC => k_is); (case mro => k_is); (case sup => kernel_rfl); (case ve => k_is); (case noAt => k_is)
  case kE =>
    refine' K03.KE.mk ?wr
    case wr => refine' DL.exmF ?a ?b ?c ?d; (case a => k_is); (case b => k_is); (case c => k_is); (case d => k_is)
  case Z =>
    constructor
    case u_FRAC => refine' DL.gtupF KX G ?a ?l ?z ?v; (case a => k_is); (case l => k_is); (case z => decide +kernel); (case v => rfl)
    case u_INT => refine' DL.gtupF KX G ?a ?l ?z ?v; (case a => k_is); (case l => k_is); (case z => decide +kernel); (case v => rfl)
    case d_FORMS =>
      refine' DL.gtabF KX G ?a ?l ?k ?s ?v; (case a => k_is); (case l => k_is); (case s => decide +kernel)
      case k => exact ⟨⟨_, _, rfl, rfl⟩, ⟨⟨_, _, rfl, rfl⟩, ⟨⟨_, _, rfl, rfl⟩, ⟨⟨_, _, rfl, rfl⟩, ⟨⟨_, _, rfl, rfl⟩, ⟨⟨_, _, rfl, rfl⟩, ⟨⟨_, _, rfl, rfl⟩, ⟨⟨_, _, rfl, rfl⟩, ⟨⟨_, _, rfl, rfl⟩, ⟨⟨_, _, rfl, rfl⟩, ⟨⟨_, _, rfl, rfl⟩, ⟨⟨_, _, rfl, rfl⟩, ⟨⟨_, _, rfl, rfl⟩, ⟨⟨_, _, rfl, rfl⟩, ⟨⟨_, _, rfl, rfl⟩, ⟨⟨_, _, rfl, rfl⟩, ⟨⟨_, _, rfl, rfl⟩, trivial⟩⟩⟩⟩⟩⟩⟩⟩⟩⟩⟩⟩⟩⟩⟩⟩⟩
      case v =>
        refine' DL.tabT ?l0 ?z0 ?v0 (DL.tabT ?l1 ?z1 ?v1 (DL.tabT ?l2 ?z2 ?v2 (DL.tabT ?l3 ?z3 ?v3 (DL.tabT ?l4 ?z4 ?v4 (DL.tabT ?l5 ?z5 ?v5 (DL.tabT ?l6 ?z6 ?v6 (DL.tabT ?l7 ?z7 ?v7 (DL.tabT ?l8 ?z8 ?v8 (DL.tabT ?l9 ?z9 ?v9 (DL.tabT ?l10 ?z10 ?v10 (DL.tabT ?l11 ?z11 ?v11 (DL.tabT ?l12 ?z12 ?v12 (DL.tabT ?l13 ?z13 ?v13 (DL.tabT ?l14 ?z14 ?v14 (DL.tabT ?l15 ?z15 ?v15 (DL.tabT ?l16 ?z16 ?v16 (DL.tab0)))))))))))))))))
        (case l0 => k_is); (case z0 => decide +kernel); (case v0 => rfl)
        (case l1 => k_is); (case z1 => decide +kernel); (case v1 => rfl)
        (case l2 => k_is); (case z2 => decide +kernel); (case v2 => rfl)
        (case l3 => k_is); (case z3 => decide +kernel); (case v3 => rfl)
        (case l4 => k_is); (case z4 => decide +kernel); (case v4 => rfl)
        (case l5 => k_is); (case z5 => decide +kernel); (case v5 => rfl)
        (case l6 => k_is); (case z6 => decide +kernel); (case v6 => rfl)
        (case l7 => k_is); (case z7 => decide +kernel); (case v7 => rfl)
        (case l8 => k_is); (case z8 => decide +kernel); (case v8 => rfl)
        (case l9 => k_is); (case z9 => decide +kernel); (case v9 => rfl)
        (case l10 => k_is); (case z10 => decide +kernel); (case v10 => rfl)
        (case l11 => k_is); (case z11 => decide +kernel); (case v11 => rfl)
        (case l12 => k_is); (case z12 => decide +kernel); (case v12 => rfl)
        (case l13 => k_is); (case z13 => decide +kernel); (case v13 => rfl)
        (case l14 => k_is); (case z14 => decide +kernel); (case v14 => rfl)
        (case l15 => k_is); (case z15 => decide +kernel); (case v15 => rfl)
        (case l16 => k_is); (case z16 => decide +kernel); (case v16 => rfl)
    case g_MOST_COLUMNS => refine' DL.gint KX G ?a; (case a => k_is)
    case g_MOST_FORM => refine' DL.gint KX G ?a; (case a => k_is)
    case g_MOST_LONG => refine' DL.gint KX G ?a; (case a => k_is)
    case g_MOST_MODULUS => refine' DL.gint KX G ?a; (case a => k_is)
    case g_MOST_ROWS => refine' DL.gint KX G ?a; (case a => k_is)
    case b_all => refine' PySem.W.mg_none_of KX G ?a; (case a => k_is)
    case b_bool => refine' PySem.W.mg_none_of KX G ?a; (case a => k_is)
    case b_dict => refine' PySem.W.mg_none_of KX G ?a; (case a => k_is)
    case b_int => refine' PySem.W.mg_none_of KX G ?a; (case a => k_is)
    case b_isinstance => refine' PySem.W.mg_none_of KX G ?a; (case a => k_is)
    case b_len => refine' PySem.W.mg_none_of KX G ?a; (case a => k_is)
    case b_list => refine' PySem.W.mg_none_of KX G ?a; (case a => k_is)
    case b_max => refine' PySem.W.mg_none_of KX G ?a; (case a => k_is)
    case b_range => refine' PySem.W.mg_none_of KX G ?a; (case a => k_is)
    case b_sorted => refine' PySem.W.mg_none_of KX G ?a; (case a => k_is)
    case b_str => refine' PySem.W.mg_none_of KX G ?a; (case a => k_is)
    case b_tuple => refine' PySem.W.mg_none_of KX G ?a; (case a => k_is)
    case x_err =>
      refine' DL.all_cons (DL.xfF ?ga0 ?gg0 ?ex0 ?hd0 ?na0) (DL.all_cons (DL.xfF ?ga1 ?gg1 ?ex1 ?hd1 ?na1) (DL.all_nil))
      (case ga0 => k_is); (case gg0 => k_is); (case ex0 => k_is); (case hd0 => k_is); (case na0 => k_is)
      (case ga1 => k_is); (case gg1 => k_is); (case ex1 => k_is); (case hd1 => k_is); (case na1 => k_is)
    case m_ReckonError => refine' PySem.W.mg_of KX G ?a; (case a => k_is)
    case m_Wrong => refine' PySem.W.mg_of KX G ?a; (case a => k_is)
  case T =>
    constructor
    case t_need => refine' DL.fnF KX G (fun _ F => F.binds (ps := ["is_fine"]) fun _ _ _ _ _ _ us hl => match us, hl with | [_], _ => rfl) ?a ?l ?c ?k; (case a => k_is); (case l => k_is); (case c => k_is); (case k => k_is)
    case t_long_enough => refine' DL.fnF KX G (fun _ F => F.binds (ps := ["many"]) fun _ _ _ _ _ _ us hl => match us, hl with | [_], _ => rfl) ?a ?l ?c ?k; (case a => k_is); (case l => k_is); (case c => k_is); (case k => k_is)
    case t_written => refine' DL.fnF KX G (fun _ F => F.binds (ps := ["tree", "low", "high"]) fun _ _ _ _ _ _ us hl => match us, hl with | [_, _, _], _ => rfl) ?a ?l ?c ?k; (case a => k_is); (case l => k_is); (case c => k_is); (case k => k_is)
    case t_joined => refine' DL.fnF KX G (fun _ F => F.binds (ps := ["one", "other"]) fun _ _ _ _ _ _ us hl => match us, hl with | [_, _], _ => rfl) ?a ?l ?c ?k; (case a => k_is); (case l => k_is); (case c => k_is); (case k => k_is)
    case t_multiplied => refine' DL.fnF KX G (fun _ F => F.binds (ps := ["one", "other"]) fun _ _ _ _ _ _ us hl => match us, hl with | [_, _], _ => rfl) ?a ?l ?c ?k; (case a => k_is); (case l => k_is); (case c => k_is); (case k => k_is)
    case t_divided => refine' DL.fnF KX G (fun _ F => F.binds (ps := ["one", "other"]) fun _ _ _ _ _ _ us hl => match us, hl with | [_, _], _ => rfl) ?a ?l ?c ?k; (case a => k_is); (case l => k_is); (case c => k_is); (case k => k_is)
    case t_kind_of_two => refine' DL.fnF KX G (fun _ F => F.binds (ps := ["word", "one", "other"]) fun _ _ _ _ _ _ us hl => match us, hl with | [_, _, _], _ => rfl) ?a ?l ?c ?k; (case a => k_is); (case l => k_is); (case c => k_is); (case k => k_is)
    case t_kind_of_call => refine' DL.fnF KX G (fun _ F => F.binds (ps := ["word", "trees", "kinds"]) fun _ _ _ _ _ _ us hl => match us, hl with | [_, _, _], _ => rfl) ?a ?l ?c ?k; (case a => k_is); (case l => k_is); (case c => k_is); (case k => k_is)
    case t_kind_of_form => refine' DL.fnF KX G (fun _ F => F.binds (ps := ["word", "trees", "kinds"]) fun _ _ _ _ _ _ us hl => match us, hl with | [_, _, _], _ => rfl) ?a ?l ?c ?k; (case a => k_is); (case l => k_is); (case c => k_is); (case k => k_is)
    case t_short_enough => refine' DL.fnF KX G (fun _ F => F.binds (ps := ["kind", "most"]) fun _ _ _ _ _ _ us hl => match us, hl with | [_, _], _ => rfl) ?a ?l ?c ?k; (case a => k_is); (case l => k_is); (case c => k_is); (case k => k_is)
    case t_kind_of => refine' DL.fnF KX G (fun _ F => F.binds (ps := ["tree", "names"]) fun _ _ _ _ _ _ us hl => match us, hl with | [_, _], _ => rfl) ?a ?l ?c ?k; (case a => k_is); (case l => k_is); (case c => k_is); (case k => k_is)
    case t_law_draws => refine' DL.fnF KX G (fun _ F => F.binds (ps := ["script"]) fun _ _ _ _ _ _ us hl => match us, hl with | [_], _ => rfl) ?a ?l ?c ?k; (case a => k_is); (case l => k_is); (case c => k_is); (case k => k_is)
    case t_law_draw => refine' DL.fnF KX G (fun _ F => F.binds (ps := ["draws", "limit"]) fun _ _ _ _ _ _ us hl => match us, hl with | [_, _], _ => rfl) ?a ?l ?c ?k; (case a => k_is); (case l => k_is); (case c => k_is); (case k => k_is)
    case t_law_same => refine' DL.fnF KX G (fun _ F => F.binds (ps := ["x", "due"]) fun _ _ _ _ _ _ us hl => match us, hl with | [_, _], _ => rfl) ?a ?l ?c ?k; (case a => k_is); (case l => k_is); (case c => k_is); (case k => k_is)
    case t_law_copy => refine' DL.fnF KX G (fun _ F => F.binds (ps := ["thing"]) fun _ _ _ _ _ _ us hl => match us, hl with | [_], _ => rfl) ?a ?l ?c ?k; (case a => k_is); (case l => k_is); (case c => k_is); (case k => k_is)
    case t_law_kind_two => refine' DL.fnF KX G (fun _ F => F.binds (ps := ["word", "one", "other"]) fun _ _ _ _ _ _ us hl => match us, hl with | [_, _, _], _ => rfl) ?a ?l ?c ?k; (case a => k_is); (case l => k_is); (case c => k_is); (case k => k_is)
    case t_law_kind => refine' DL.fnF KX G (fun _ F => F.binds (ps := ["tree", "names"]) fun _ _ _ _ _ _ us hl => match us, hl with | [_, _], _ => rfl) ?a ?l ?c ?k; (case a => k_is); (case l => k_is); (case c => k_is); (case k => k_is)
    case t_law_number => refine' DL.fnF KX G (fun _ F => F.binds (ps := ["draws"]) fun _ _ _ _ _ _ us hl => match us, hl with | [_], _ => rfl) ?a ?l ?c ?k; (case a => k_is); (case l => k_is); (case c => k_is); (case k => k_is)
    case t_law_named => refine' DL.fnF KX G (fun _ F => F.binds (ps := ["draws", "names", "kind"]) fun _ _ _ _ _ _ us hl => match us, hl with | [_, _, _], _ => rfl) ?a ?l ?c ?k; (case a => k_is); (case l => k_is); (case c => k_is); (case k => k_is)
    case t_law_int => refine' DL.fnF KX G (fun _ F => F.binds (ps := ["draws", "names", "deep"]) fun _ _ _ _ _ _ us hl => match us, hl with | [_, _, _], _ => rfl) ?a ?l ?c ?k; (case a => k_is); (case l => k_is); (case c => k_is); (case k => k_is)
    case t_law_frac => refine' DL.fnF KX G (fun _ F => F.binds (ps := ["draws", "names", "deep"]) fun _ _ _ _ _ _ us hl => match us, hl with | [_, _, _], _ => rfl) ?a ?l ?c ?k; (case a => k_is); (case l => k_is); (case c => k_is); (case k => k_is)
    case t_law_rest => refine' DL.fnF KX G (fun _ F => F.binds (ps := ["draws", "names", "modulus", "deep"]) fun _ _ _ _ _ _ us hl => match us, hl with | [_, _, _, _], _ => rfl) ?a ?l ?c ?k; (case a => k_is); (case l => k_is); (case c => k_is); (case k => k_is)
    case t_law_poly => refine' DL.fnF KX G (fun _ F => F.binds (ps := ["draws", "names", "deep"]) fun _ _ _ _ _ _ us hl => match us, hl with | [_, _, _], _ => rfl) ?a ?l ?c ?k; (case a => k_is); (case l => k_is); (case c => k_is); (case k => k_is)
    case t_law_row => refine' DL.fnF KX G (fun _ F => F.binds (ps := ["draws", "names", "many", "deep"]) fun _ _ _ _ _ _ us hl => match us, hl with | [_, _, _, _], _ => rfl) ?a ?l ?c ?k; (case a => k_is); (case l => k_is); (case c => k_is); (case k => k_is)
    case t_law_table => refine' DL.fnF KX G (fun _ F => F.binds (ps := ["draws", "names", "rows", "columns", "deep"]) fun _ _ _ _ _ _ us hl => match us, hl with | [_, _, _, _, _], _ => rfl) ?a ?l ?c ?k; (case a => k_is); (case l => k_is); (case c => k_is); (case k => k_is)
    case t_law_any => refine' DL.fnF KX G (fun _ F => F.binds (ps := ["draws", "names", "deep"]) fun _ _ _ _ _ _ us hl => match us, hl with | [_, _, _], _ => rfl) ?a ?l ?c ?k; (case a => k_is); (case l => k_is); (case c => k_is); (case k => k_is)
    case t_law_told => refine' DL.fnF KX G (fun _ F => F.binds (ps := ["tree", "names"]) fun _ _ _ _ _ _ us hl => match us, hl with | [_, _], _ => rfl) ?a ?l ?c ?k; (case a => k_is); (case l => k_is); (case c => k_is); (case k => k_is)
    case t_law_ones => refine' DL.fnF KX G (fun _ F => F.binds (ps := ["word", "many"]) fun _ _ _ _ _ _ us hl => match us, hl with | [_, _], _ => rfl) ?a ?l ?c ?k; (case a => k_is); (case l => k_is); (case c => k_is); (case k => k_is)

