import PyProof.Rows.All
import Wide.All
import OpenK.AllK
import Wide.FinOn
import HandS.ForMost
import HandS.IsInst
import HandS.Style
import HandS.Flow
import HandS.Exc
import HandS.TryOnly
import HandS.ExcOwn
import HandS.WordsExc
import HandS.WideBits
import HandS.Wide
import HandS.TupAny
import HandS.Walk
import HandS.ExcIs
import HandS.RaiseMore
import HandS.TupMul
import KE.KBits
import HandS.Zip
import HandS.Deep
import HandS.More
import HandS.SetFor
import HandS.FStrTup
import HandS.Ends
import PyProof.ReprRoads
import PyProof.FitsInt
import PyProof.CallFns
import HandS.Text
import HandS.StrMore
import HandS.RevRange
import KE.KDictKeyed
import HandS.Lambda
import KE.DataEq
import HandS.Flt
import HandS.Steps
import KE.GoesEnum
import HandS.Defaults
import PyProof.StrOps2
import HandS.ReplaceList
import HandS.SortInts
import HandS.EndOwn
import KE.KNestM
import KE.DataMinMax
import KE.SortData
import HandS.SortKw
import HandS.SetKeys
import KE.KDictWalk
import HandS.DictTup
import KE.KDictPairs
import HandS.TupLe
import KE.KEqNest
import PySem.Challenge.RW_surewire_k51_rings_of_tables
set_option Elab.async false
set_option linter.all false
set_option maxRecDepth 100000
set_option maxHeartbeats 2000000
/-! ## the data layer: what a reading gives, told by plain data; what stands is told by slots -/
namespace DL
open PySem L2

/-- plain data -/
inductive D where
  | non | bl (b : Bool) | int (i : Int) | str (x : Str) | ty (n : String) | ref (a : Addr)
  | tup (l : List D) | lst (l : List D) | scr (l : List D)
  | dic (l : List (Key × D)) | dit (l : List (List Key × D))
  | obj (C : Addr) (fs : List (Str × D))
  | exc (C : Addr)
/-- what one owned object holds -/
inductive OB where
  | lst (l : List D) | dic (l : List (Key × D)) | dit (l : List (List Key × D)) | obj (C : Addr) (fs : List (Str × D))
def OB.d : OB → D
  | .lst l => .lst l
  | .dic l => .dic l
  | .dit l => .dit l
  | .obj C fs => .obj C fs
/-- what is known of a slot -/
inductive EV where
  | any | val (d : D) | own (o : OB)
abbrev Env := List EV

def Ex (H H' : Hp) : Prop := ∀ a o, H a = some o → H' a = some o
theorem Ex.refl (H : Hp) : Ex H H := fun _ _ h => h
theorem Ex.trans {H H1 H2 : Hp} (a : Ex H H1) (b : Ex H1 H2) : Ex H H2 := fun x o h => b x o (a x o h)
theorem Ex.new {H : Hp} {p : Addr} {o : HO} (h : H p = none) : Ex H (upd H p o) := fun a u e => by
  rw [upd_ne (ne_of_none e h)]; exact e
theorem Ex.back {H H' : Hp} {p : Addr} (e : Ex H H') (h : H' p = none) : H p = none := by
  cases h1 : H p with
  | none => rfl
  | some o => rw [e p o h1] at h; cases h
theorem Ex.both {F H : Hp} {p : Addr} {o : HO} (e : Ex F H) : Ex (upd F p o) (upd H p o) := fun a u h => by
  by_cases q : a = p
  · subst q; rw [upd_same] at h ⊢; exact h
  · rw [upd_ne q] at h ⊢; exact e a u h
theorem Ex.right {F H : Hp} {p : Addr} {o : HO} (e : Ex F H) (h : F p = none) : Ex F (upd H p o) := fun a u q => by
  rw [upd_ne (ne_of_none q h)]; exact e a u q
theorem Ex.left {F H : Hp} {p : Addr} {o : HO} (e : Ex F H) (h : H p = some o) : Ex (upd F p o) H := fun a u q => by
  by_cases z : a = p
  · subst z; rw [upd_same] at q; rw [h]; exact q
  · rw [upd_ne z] at q; exact e a u q
theorem Ex.rd {H H' : Hp} {a : Addr} {u : HO} (e : Ex H H') (h : Rd H a u) : Rd H' a u := by
  rcases h with h | ⟨o, h⟩
  · exact Or.inl (e a _ h)
  · exact Or.inr ⟨o, e a _ h⟩
theorem Ex.l {K : PySem.W.Frag} {H H' : Hp} {a : Addr} {xs : List V} (e : Ex H H') (h : SqL K H a xs) : SqL K H' a xs := by
  rcases h with h | h
  · exact Or.inl (e.rd h)
  · exact Or.inr h
theorem Ex.t {K : PySem.W.Frag} {H H' : Hp} {a : Addr} {xs : List V} (e : Ex H H') (h : SqT K H a xs) : SqT K H' a xs := by
  rcases h with h | h
  · exact Or.inl (e.rd h)
  · exact Or.inr h

/-- an exception of the class at C, caught and kept -/
def ExK (C a : Addr) : HO := .ext fun h => ∃ (oe : Obj) (vs : Array Value), h.get? a = some oe ∧ Zc (.ref C) none oe ∧ oe.data = .fields vs
mutual
/-- the value v is the data d, all of it standing in F -/
inductive Rep (K : PySem.W.Frag) (F : Hp) : V → D → Prop
  | non : Rep K F .non .non
  | bl (b : Bool) : Rep K F (.bl b) (.bl b)
  | int (i : Int) : Rep K F (.int i) (.int i)
  | str (x : Str) : Rep K F (.str x) (.str x)
  | ty (n : String) : Rep K F (.ty n) (.ty n)
  | ref (a : Addr) : Rep K F (.ref a) (.ref a)
  | tup {a : Addr} {vs : List V} {l : List D} : SqT K F a vs → RepL K F vs l → Rep K F (.ref a) (.tup l)
  | lst {a : Addr} {vs : List V} {l : List D} : F a = some (.lst vs) → RepL K F vs l → Rep K F (.ref a) (.lst l)
  | scr {a : Addr} {vs : List V} {l : List D} : SqL K F a vs → RepL K F vs l → Rep K F (.ref a) (.scr l)
  | dic {a : Addr} {ks : List Key} {vs : List V} {ds : List D} : F a = some (.dK (ks.zip vs)) → ks.length = ds.length → RepL K F vs ds → Rep K F (.ref a) (.dic (ks.zip ds))
  | dit {a : Addr} {ks : List (List Key)} {vs : List V} {ds : List D} : F a = some (.dT (ks.zip vs)) → ks.length = ds.length → RepL K F vs ds → Rep K F (.ref a) (.dit (ks.zip ds))
  | obj {a C dx : Addr} {ks : List Str} {vs : List V} {ds : List D} : F a = some (.ins C dx (ks.zip vs)) → ks.length = ds.length → RepL K F vs ds → Rep K F (.ref a) (.obj C (ks.zip ds))
  | exc {a C : Addr} : F a = some (ExK C a) → Rep K F (.ref a) (.exc C)
inductive RepL (K : PySem.W.Frag) (F : Hp) : List V → List D → Prop
  | nil : RepL K F [] []
  | cons {v : V} {vs : List V} {d : D} {ds : List D} : Rep K F v d → RepL K F vs ds → RepL K F (v :: vs) (d :: ds)
end
section
variable {K : PySem.W.Frag} {F F' : Hp}
mutual
theorem Rep.mono (e : Ex F F') : ∀ {v : V} {d : D}, Rep K F v d → Rep K F' v d
  | _, _, .non => .non
  | _, _, .bl b => .bl b
  | _, _, .int i => .int i
  | _, _, .str x => .str x
  | _, _, .ty n => .ty n
  | _, _, .ref a => .ref a
  | _, _, .tup h r => .tup (e.t h) (RepL.mono e r)
  | _, _, .lst h r => .lst (e _ _ h) (RepL.mono e r)
  | _, _, .scr h r => .scr (e.l h) (RepL.mono e r)
  | _, _, .dic h l r => .dic (e _ _ h) l (RepL.mono e r)
  | _, _, .dit h l r => .dit (e _ _ h) l (RepL.mono e r)
  | _, _, .obj h l r => .obj (e _ _ h) l (RepL.mono e r)
  | _, _, .exc h => .exc (e _ _ h)
theorem RepL.mono (e : Ex F F') : ∀ {vs : List V} {ds : List D}, RepL K F vs ds → RepL K F' vs ds
  | _, _, .nil => .nil
  | _, _, .cons h r => .cons (Rep.mono e h) (RepL.mono e r)
end
theorem RepL.length : ∀ {vs : List V} {ds : List D}, RepL K F vs ds → vs.length = ds.length
  | _, _, .nil => rfl
  | _, _, .cons _ r => by rw [List.length_cons, List.length_cons, r.length]
theorem RepL.get : ∀ {vs : List V} {ds : List D} {i : Nat} {d : D}, RepL K F vs ds → ds[i]? = some d → ∃ v, vs[i]? = some v ∧ Rep K F v d
  | _, _, _, _, .nil, h => by simp at h
  | _, _, 0, _, .cons h _, e => by simp at e; subst e; exact ⟨_, rfl, h⟩
  | _, _, i + 1, _, .cons _ r, e => by
    obtain ⟨v, h1, h2⟩ := RepL.get (i := i) r (by simpa using e)
    exact ⟨v, by simpa using h1, h2⟩
theorem RepL.append : ∀ {vs ws : List V} {ds es : List D}, RepL K F vs ds → RepL K F ws es → RepL K F (vs ++ ws) (ds ++ es)
  | _, _, _, _, .nil, s => s
  | _, _, _, _, .cons h r, s => .cons h (RepL.append r s)
theorem RepL.take : ∀ {vs : List V} {ds : List D} (n : Nat), RepL K F vs ds → RepL K F (vs.take n) (ds.take n)
  | _, _, 0, _ => .nil
  | _, _, _ + 1, .nil => .nil
  | _, _, n + 1, .cons h r => .cons h (RepL.take n r)
theorem RepL.drop : ∀ {vs : List V} {ds : List D} (n : Nat), RepL K F vs ds → RepL K F (vs.drop n) (ds.drop n)
  | _, _, 0, r => r
  | _, _, _ + 1, .nil => .nil
  | _, _, n + 1, .cons _ r => RepL.drop n r
theorem RepL.set {v : V} {d : D} (h : Rep K F v d) : ∀ {vs : List V} {ds : List D} (n : Nat), RepL K F vs ds → RepL K F (vs.set n v) (ds.set n d)
  | _, _, _, .nil => .nil
  | _, _, 0, .cons _ r => .cons h r
  | _, _, n + 1, .cons q r => .cons q (RepL.set h n r)
theorem RepL.reverse : ∀ {vs : List V} {ds : List D}, RepL K F vs ds → RepL K F vs.reverse ds.reverse
  | _, _, .nil => .nil
  | _, _, .cons h r => by
    rw [List.reverse_cons, List.reverse_cons]
    exact (RepL.reverse r).append (.cons h .nil)
/-- ints, truths, texts: the values are those of the data -/
theorem RepL.ints : ∀ {vs : List V} {ns : List Int}, RepL K F vs (ns.map D.int) → vs = ns.map V.int
  | _, [], h => by cases h; rfl
  | _, n :: r, h => by
    cases h with
    | cons q t => cases q; rw [RepL.ints t]; rfl
theorem RepL.bools : ∀ {vs : List V} {ns : List Bool}, RepL K F vs (ns.map D.bl) → vs = ns.map V.bl
  | _, [], h => by cases h; rfl
  | _, n :: r, h => by
    cases h with
    | cons q t => cases q; rw [RepL.bools t]; rfl
theorem RepL.of_ints : ∀ {ns : List Int}, RepL K F (ns.map V.int) (ns.map D.int)
  | [] => .nil
  | n :: _ => .cons (.int n) RepL.of_ints
/-- data that no heap is asked for -/
def flat : D → Bool
  | .non | .bl _ | .int _ | .str _ | .ty _ | .ref _ => true
  | _ => false
theorem Rep.flat {v : V} {d : D} (h : Rep K F v d) (f : flat d = true) : Rep K F' v d := by
  cases h <;> first | (cases f; done) | constructor
theorem RepL.flat : ∀ {vs : List V} {ds : List D}, RepL K F vs ds → ds.all DL.flat = true → RepL K F' vs ds
  | _, _, .nil, _ => .nil
  | _, _, .cons h r, f => by
    rw [List.all_cons, Bool.and_eq_true] at f
    exact .cons (h.flat f.1) (RepL.flat r f.2)
end

/-- the owned object at a holds o; its parts stand in F -/
def ORep (K : PySem.W.Frag) (F H : Hp) (a : Addr) : OB → Prop
  | .lst l => ∃ vs, H a = some (.lst vs) ∧ RepL K F vs l
  | .dic l => ∃ ks vs ds, H a = some (.dK (List.zip ks vs)) ∧ List.length ks = List.length ds ∧ RepL K F vs ds ∧ l = ks.zip ds
  | .dit l => ∃ ks vs ds, H a = some (.dT (List.zip ks vs)) ∧ List.length ks = List.length ds ∧ RepL K F vs ds ∧ l = ks.zip ds
  | .obj C fs => ∃ dx ks vs ds, H a = some (.ins C dx (List.zip ks vs)) ∧ List.length ks = List.length ds ∧ RepL K F vs ds ∧ fs = ks.zip ds
section
variable {K : PySem.W.Frag} {F F' H H' : Hp} {a : Addr} {o : OB}
theorem ORep.mono (h : ORep K F H a o) (e : Ex F F') (k : ∀ u, H a = some u → H' a = some u) : ORep K F' H' a o := by
  cases o with
  | lst l => obtain ⟨vs, x, r⟩ := h; exact ⟨vs, k _ x, r.mono e⟩
  | dic l => obtain ⟨ks, vs, ds, x, z, r, q⟩ := h; exact ⟨ks, vs, ds, k _ x, z, r.mono e, q⟩
  | dit l => obtain ⟨ks, vs, ds, x, z, r, q⟩ := h; exact ⟨ks, vs, ds, k _ x, z, r.mono e, q⟩
  | obj C fs => obtain ⟨dx, ks, vs, ds, x, z, r, q⟩ := h; exact ⟨dx, ks, vs, ds, k _ x, z, r.mono e, q⟩
theorem ORep.ho (h : ORep K F H a o) : ∃ u, H a = some u := by
  cases o with
  | lst l => obtain ⟨vs, x, r⟩ := h; exact ⟨_, x⟩
  | dic l => obtain ⟨ks, vs, ds, x, _⟩ := h; exact ⟨_, x⟩
  | dit l => obtain ⟨ks, vs, ds, x, _⟩ := h; exact ⟨_, x⟩
  | obj C fs => obtain ⟨dx, ks, vs, ds, x, _⟩ := h; exact ⟨_, x⟩
/-- an owned object, given up: from now on it stands -/
theorem ORep.give (h : ORep K F H a o) (n : F a = none) : ∃ u, H a = some u ∧ Rep K (upd F a u) (.ref a) o.d := by
  cases o with
  | lst l => obtain ⟨vs, x, r⟩ := h; exact ⟨_, x, .lst upd_same (r.mono (Ex.new n))⟩
  | dic l => obtain ⟨ks, vs, ds, x, z, r, q⟩ := h; subst q; exact ⟨_, x, .dic upd_same z (r.mono (Ex.new n))⟩
  | dit l => obtain ⟨ks, vs, ds, x, z, r, q⟩ := h; subst q; exact ⟨_, x, .dit upd_same z (r.mono (Ex.new n))⟩
  | obj C fs => obtain ⟨dx, ks, vs, ds, x, z, r, q⟩ := h; subst q; exact ⟨_, x, .obj upd_same z (r.mono (Ex.new n))⟩
end

/-- what grows between two moments: what stands (F) and all that is tracked (H) -/
structure Grow (F0 H0 F H : Hp) : Prop where
  gf : Ex F0 F
  gh : Ex H0 H
  fh : Ex F H
  gn : ∀ a, F a ≠ none → F0 a ≠ none ∨ H0 a = none
section
variable {F0 H0 F1 H1 F H : Hp}
theorem Grow.refl (e : Ex F H) : Grow F H F H := ⟨Ex.refl _, Ex.refl _, e, fun _ h => .inl h⟩
theorem Grow.trans (a : Grow F0 H0 F1 H1) (b : Grow F1 H1 F H) : Grow F0 H0 F H := ⟨a.gf.trans b.gf, a.gh.trans b.gh, b.fh, fun x h => by
  rcases b.gn x h with q | q
  · exact a.gn x q
  · exact .inr (a.gh.back q)⟩
/-- a new object, standing -/
theorem Grow.new {p : Addr} {o : HO} (g : Grow F0 H0 F H) (n : H p = none) : Grow F0 H0 (upd F p o) (upd H p o) := ⟨g.gf.trans (Ex.new (g.fh.back n)), g.gh.trans (Ex.new n), g.fh.both, fun x h => by
  by_cases q : x = p
  · subst q; exact .inr (g.gh.back n)
  · rw [upd_ne q] at h; exact g.gn x h⟩
/-- an owned new one is given up -/
theorem Grow.give {p : Addr} {o : HO} (g : Grow F0 H0 F H) (n : F p = none) (n0 : H0 p = none) (e : H p = some o) : Grow F0 H0 (upd F p o) H := ⟨g.gf.trans (Ex.new n), g.gh, g.fh.left e, fun x h => by
  by_cases q : x = p
  · subst q; exact .inr n0
  · rw [upd_ne q] at h; exact g.gn x h⟩
end

/-- where a def begins: what stands, what is tracked, which slots hold the objects handed in to be changed -/
structure Bs where
  F : Hp
  H : Hp
  fx : Nat → Option Addr
/-- the slots as they are known; oa i the address of what slot i owns -/
structure Sig (K : PySem.W.Frag) (b : Bs) (F : Hp) (oa : Nat → Addr) (σ : L2.St) (H : Hp) (env : Env) : Prop where
  g : Grow b.F b.H F H
  len : σ.length = env.length
  val : ∀ (i : Nat) (d : D), env[i]? = some (EV.val d) → ∃ v : V, σ[i]? = some (some v) ∧ Rep K F v d
  own : ∀ (i : Nat) (o : OB), env[i]? = some (EV.own o) → σ[i]? = some (some (.ref (oa i))) ∧ F (oa i) = none ∧ b.H (oa i) = none ∧ ORep K F H (oa i) o
  dist : ∀ (i j : Nat) (o u : OB), env[i]? = some (EV.own o) → env[j]? = some (.own u) → oa i = oa j → i = j
  fix : ∀ (i : Nat) (a : Addr), b.fx i = some a → oa i = a ∧ H a ≠ none
section
variable {K : PySem.W.Frag} {b : Bs} {F F1 H H1 : Hp} {oa : Nat → Addr} {σ : L2.St} {env env' : Env} {i : Nat} {v : V} {d : D} {o : OB}
/-- what is owned is not there where nothing is -/
theorem Sig.ne (S : Sig K b F oa σ H env) {p : Addr} (n : H p = none) (e : env[i]? = some (.own o)) : oa i ≠ p := fun q => by
  obtain ⟨_, _, _, r⟩ := S.own i o e
  obtain ⟨u, hu⟩ := r.ho
  rw [q, n] at hu; cases hu
/-- more stands, all else as it was -/
theorem Sig.grow (S : Sig K b F oa σ H env) (g : Grow F H F1 H1) : Sig K b F1 oa σ H1 env where
  g := S.g.trans g
  len := S.len
  val := fun i d e => by
    obtain ⟨v, h1, h2⟩ := S.val i d e
    exact ⟨v, h1, h2.mono g.gf⟩
  own := fun i o e => by
    obtain ⟨h1, h2, h3, h4⟩ := S.own i o e
    refine ⟨h1, ?_, h3, h4.mono g.gf fun u q => g.gh _ _ q⟩
    cases q : F1 (oa i) with
    | none => rfl
    | some u =>
      rcases g.gn (oa i) (by rw [q]; simp) with z | z
      · exact absurd h2 z
      · obtain ⟨w, hw⟩ := h4.ho
        rw [z] at hw; cases hw
  dist := S.dist
  fix := fun i c e => by
    obtain ⟨h1, h2⟩ := S.fix i c e
    refine ⟨h1, fun z => ?_⟩
    exact h2 (g.gh.back z)
theorem Sig.new {p : Addr} {u : HO} (S : Sig K b F oa σ H env) (n : H p = none) : Sig K b (upd F p u) oa σ (upd H p u) env := S.grow ((Grow.refl S.g.fh).new n)
/-- slot i holds v -/
theorem Sig.set (S : Sig K b F oa σ H env) (r : Rep K F v d) : Sig K b F oa (σ.set i (some v)) H (env.set i (.val d)) where
  g := S.g
  len := by simp [S.len]
  val := fun j e h => by
    by_cases q : i = j
    · subst q
      rw [List.getElem?_set] at h
      rw [List.getElem?_set]
      have l := S.len
      split at h
      · split at h
        · cases h
          refine ⟨v, ?_, r⟩
          simp_all
        · cases h
      · rename_i z; exact absurd rfl z
    · rw [List.getElem?_set_ne q] at h
      rw [List.getElem?_set_ne q]
      exact S.val j e h
  own := fun j e h => by
    by_cases q : i = j
    · subst q
      rw [List.getElem?_set] at h
      split at h
      · split at h <;> cases h
      · rename_i z; exact absurd rfl z
    · rw [List.getElem?_set_ne q] at h
      rw [List.getElem?_set_ne q]
      exact S.own j e h
  dist := fun j k e u h1 h2 => by
    have t : ∀ (j : Nat) (e : OB), (env.set i (.val d))[j]? = some (.own e) → env[j]? = some (.own e) := fun j e h => by
      by_cases q : i = j
      · subst q
        rw [List.getElem?_set] at h
        split at h
        · split at h <;> cases h
        · rename_i z; exact absurd rfl z
      · rw [List.getElem?_set_ne q] at h; exact h
    exact S.dist j k e u (t _ _ h1) (t _ _ h2)
  fix := S.fix
/-- the slot of what is owned, given up -/
theorem Sig.give (S : Sig K b F oa σ H env) (e : env[i]? = some (.own o)) : ∃ F', Sig K b F' oa σ H (env.set i (.val o.d)) ∧ Ex F F' := by
  obtain ⟨h1, h2, h3, h4⟩ := S.own i o e
  obtain ⟨u, hu, r⟩ := h4.give h2
  refine ⟨upd F (oa i) u, ⟨S.g.give h2 h3 hu, by simp [S.len], fun j w h => ?_, fun j w h => ?_, fun j k w x p q z => ?_, S.fix⟩, Ex.new h2⟩
  · by_cases q : i = j
    · subst q
      rw [List.getElem?_set] at h
      split at h
      · split at h
        · cases h; exact ⟨_, h1, r⟩
        · cases h
      · rename_i z; exact absurd rfl z
    · rw [List.getElem?_set_ne q] at h
      obtain ⟨v, x, y⟩ := S.val j w h
      exact ⟨v, x, y.mono (Ex.new h2)⟩
  · by_cases q : i = j
    · subst q
      rw [List.getElem?_set] at h
      split at h
      · split at h <;> cases h
      · rename_i z; exact absurd rfl z
    · rw [List.getElem?_set_ne q] at h
      obtain ⟨x1, x2, x3, x4⟩ := S.own j w h
      refine ⟨x1, ?_, x3, x4.mono (Ex.new h2) fun _ y => y⟩
      rw [upd_ne fun z => q (S.dist j i w o h e z).symm]
      exact x2
  · have t : ∀ (j : Nat) (e : OB), (env.set i (.val o.d))[j]? = some (.own e) → env[j]? = some (.own e) := fun j e h => by
      by_cases q : i = j
      · subst q
        rw [List.getElem?_set] at h
        split at h
        · split at h <;> cases h
        · rename_i z; exact absurd rfl z
      · rw [List.getElem?_set_ne q] at h; exact h
    exact S.dist j k w x (t _ _ p) (t _ _ q) z
/-- less is known: every slot as it was, or not told -/
def Env.le : Env → Env → Prop
  | [], [] => True
  | a :: r, b :: s => (b = .any ∨ b = a) ∧ Env.le r s
  | _, _ => False
theorem Env.le.get : ∀ {env env' : Env} {i : Nat} {x : EV}, Env.le env env' → env'[i]? = some x → x = .any ∨ env[i]? = some x
  | [], [], _, _, _, h => by simp at h
  | _ :: _, _ :: _, 0, _, l, h => by
    simp at h; subst h
    rcases l.1 with q | q
    · exact .inl q
    · exact .inr (by rw [q]; rfl)
  | _ :: r, _ :: s, i + 1, _, l, h => by
    rcases Env.le.get (i := i) l.2 (by simpa using h) with q | q
    · exact .inl q
    · exact .inr (by simpa using q)
  | [], _ :: _, _, _, l, _ => l.elim
  | _ :: _, [], _, _, l, _ => l.elim
theorem Env.le.length : ∀ {env env' : Env}, Env.le env env' → env.length = env'.length
  | [], [], _ => rfl
  | _ :: _, _ :: _, l => by rw [List.length_cons, List.length_cons, Env.le.length l.2]
  | [], _ :: _, l => l.elim
  | _ :: _, [], l => l.elim
theorem Env.le.rfl : ∀ {env : Env}, Env.le env env
  | [] => trivial
  | _ :: _ => ⟨.inr (by rfl), Env.le.rfl⟩
theorem Sig.le (S : Sig K b F oa σ H env) (l : Env.le env env') : Sig K b F oa σ H env' where
  g := S.g
  len := by rw [S.len, l.length]
  val := fun i d e => by
    rcases l.get e with q | q
    · cases q
    · exact S.val i d q
  own := fun i o e => by
    rcases l.get e with q | q
    · cases q
    · exact S.own i o q
  dist := fun i j o u e f z => by
    rcases l.get e with q | q
    · cases q
    · rcases l.get f with p | p
      · cases p
      · exact S.dist i j o u q p z
  fix := S.fix
/-- a new one that no slot owns stands from now on -/
theorem Sig.stand {a : Addr} {u : HO} (S : Sig K b F oa σ H env) (n : F a = none) (n0 : b.H a = none) (ne : ∀ (j : Nat) (o : OB), env[j]? = some (.own o) → oa j ≠ a) (h : H a = some u) : Sig K b (upd F a u) oa σ H env where
  g := S.g.give n n0 h
  len := S.len
  val := fun i d e => by
    obtain ⟨v, h1, h2⟩ := S.val i d e
    exact ⟨v, h1, h2.mono (Ex.new n)⟩
  own := fun i o e => by
    obtain ⟨h1, h2, h3, h4⟩ := S.own i o e
    exact ⟨h1, by rw [upd_ne (ne i o e)]; exact h2, h3, h4.mono (Ex.new n) fun _ q => q⟩
  dist := S.dist
  fix := S.fix
end
end DL

namespace DL
open PySem L2

/-- what an expression gives: data that stands, or what a slot owns -/
inductive Res where
  | val (d : D) | slot (i : Nat)
def RR (K : PySem.W.Frag) (F : Hp) (oa : Nat → Addr) (v : V) : Res → Prop
  | .val d => Rep K F v d
  | .slot i => v = .ref (oa i)
/-- it reads as d -/
def Rd (env : Env) : Res → D → Prop
  | .val d, e => d = e
  | .slot i, e => ∃ o, env[i]? = some (.own o) ∧ o.d = e
section
variable {K : PySem.W.Frag} {b : Bs} {F F' H : Hp} {oa : Nat → Addr} {σ : L2.St} {env env' : Env} {v : V} {r : Res} {d : D} {l : List D}
theorem RR.mono (h : RR K F oa v r) (e : Ex F F') : RR K F' oa v r := by
  cases r with
  | val d => exact Rep.mono e h
  | slot i => exact h
theorem Rd.lst' (S : Sig K b F oa σ H env) (h : RR K F oa v r) (q : Rd env r (.lst l)) : ∃ a vs, v = .ref a ∧ H a = some (.lst vs) ∧ RepL K F vs l := by
  cases r with
  | val d =>
    cases (show d = .lst l from q)
    cases h with
    | lst x y => exact ⟨_, _, rfl, S.g.fh _ _ x, y⟩
  | slot i =>
    obtain ⟨o, e, z⟩ := q
    obtain ⟨_, _, _, x⟩ := S.own i o e
    cases o with
    | lst l' =>
      cases z
      obtain ⟨vs, x1, x2⟩ := x
      exact ⟨_, vs, h, x1, x2⟩
    | dic _ => cases z
    | dit _ => cases z
    | obj _ _ => cases z
theorem Rd.scr (S : Sig K b F oa σ H env) (h : RR K F oa v r) (q : Rd env r (.scr l)) : ∃ a vs, v = .ref a ∧ SqL K H a vs ∧ RepL K F vs l := by
  cases r with
  | val d =>
    cases (show d = .scr l from q)
    cases h with
    | scr x y => exact ⟨_, _, rfl, S.g.fh.l x, y⟩
  | slot i =>
    obtain ⟨o, e, z⟩ := q
    cases o <;> cases z
/-- a list to be read: one of the call's own, or the script -/
def RdL (env : Env) (r : Res) (k : List D) : Prop := Rd env r (.lst k) ∨ Rd env r (.scr k)
theorem RdL.g (S : Sig K b F oa σ H env) (h : RR K F oa v r) (q : RdL env r l) : ∃ a vs, v = .ref a ∧ SqL K H a vs ∧ RepL K F vs l := by
  rcases q with q | q
  · obtain ⟨a, vs, e, s, p⟩ := Rd.lst' S h q
    exact ⟨a, vs, e, .inl (.inl s), p⟩
  · exact Rd.scr S h q
theorem Rd.tup (S : Sig K b F oa σ H env) (h : RR K F oa v r) (q : Rd env r (.tup l)) : ∃ a vs, v = .ref a ∧ SqT K H a vs ∧ RepL K F vs l := by
  cases r with
  | val d =>
    cases (show d = .tup l from q)
    cases h with
    | tup x y => exact ⟨_, _, rfl, S.g.fh.t x, y⟩
  | slot i =>
    obtain ⟨o, e, z⟩ := q
    cases o <;> cases z
theorem Rd.flat (h : RR K F oa v r) (q : Rd env r d) (f : flat d = true) : Rep K F v d := by
  cases r with
  | val e => cases (show e = d from q); exact h
  | slot i =>
    obtain ⟨o, e, z⟩ := q
    cases o <;> (subst z; cases f)
/-- read as it stands in the whole heap -/
theorem Rd.rep (S : Sig K b F oa σ H env) (h : RR K F oa v r) (q : Rd env r d) : Rep K H v d := by
  cases r with
  | val e => cases (show e = d from q); exact Rep.mono S.g.fh h
  | slot i =>
    obtain ⟨o, e, z⟩ := q
    subst z
    cases (show v = .ref (oa i) from h)
    obtain ⟨_, _, _, x⟩ := S.own i o e
    cases o with
    | lst l' => obtain ⟨vs, x1, x2⟩ := x; exact .lst x1 (x2.mono S.g.fh)
    | dic l' => obtain ⟨ks, vs, ds, x1, x2, x3, x4⟩ := x; subst x4; exact .dic x1 x2 (x3.mono S.g.fh)
    | dit l' => obtain ⟨ks, vs, ds, x1, x2, x3, x4⟩ := x; subst x4; exact .dit x1 x2 (x3.mono S.g.fh)
    | obj C fs => obtain ⟨dx, ks, vs, ds, x1, x2, x3, x4⟩ := x; subst x4; exact .obj x1 x2 (x3.mono S.g.fh)
end

/-- what a step leaves: what stands stands; what no slot owns is as it was -/
structure Stp (oa : Nat → Addr) (env : Env) (F H : Hp) (env' : Env) (F' H' : Hp) : Prop where
  ff : Ex F F'
  kp : ∀ a u, H a = some u → (∀ (j : Nat) (o : OB), env[j]? = some (.own o) → oa j ≠ a) → H' a = some u
  gn : ∀ a, F' a ≠ none → F a ≠ none ∨ H a = none
  th : ∀ a, H a ≠ none → H' a ≠ none
  sub : ∀ (j : Nat) (o : OB), env'[j]? = some (.own o) → ∃ o', env[j]? = some (.own o')
section
variable {K : PySem.W.Frag} {b : Bs} {F F1 F2 H H1 H2 : Hp} {oa : Nat → Addr} {σ : L2.St} {env e1 e2 : Env} {p : Addr} {u : HO}
theorem Stp.refl : Stp oa env F H env F H := ⟨Ex.refl _, fun _ _ h _ => h, fun _ h => .inl h, fun _ h => h, fun j o h => ⟨o, h⟩⟩
theorem Stp.trans (x : Stp oa env F H e1 F1 H1) (y : Stp oa e1 F1 H1 e2 F2 H2) : Stp oa env F H e2 F2 H2 := ⟨x.ff.trans y.ff, fun a u h n => y.kp a u (x.kp a u h n) fun j o e => by
    obtain ⟨o', e'⟩ := x.sub j o e
    exact n j o' e', fun a h => by
    rcases y.gn a h with z | z
    · exact x.gn a z
    · refine .inr ?_
      cases w : H a with
      | none => rfl
      | some v => exact absurd z (x.th a (by rw [w]; simp)), fun a h => y.th a (x.th a h), fun j o e => by
    obtain ⟨o', e'⟩ := y.sub j o e
    exact x.sub j o' e'⟩
theorem Stp.new (n : H p = none) (nf : F p = none) : Stp oa env F H env (upd F p u) (upd H p u) := ⟨Ex.new nf, fun a v h _ => Ex.new n a v h, fun a h => by
    by_cases q : a = p
    · subst q; exact .inr n
    · rw [upd_ne q] at h; exact .inl h, fun a h z => h ((Ex.new n).back z), fun j o e => ⟨o, e⟩⟩
theorem Stp.newH (n : H p = none) : Stp oa env F H env F (upd H p u) := ⟨Ex.refl _, fun a v h _ => Ex.new n a v h, fun a h => .inl h, fun a h z => h ((Ex.new n).back z), fun j o e => ⟨o, e⟩⟩
theorem Stp.none (x : Stp oa env F H e1 F1 H1) (n : H1 p = none) : H p = none := by
  cases w : H p with
  | none => rfl
  | some v => exact absurd n (x.th p (by rw [w]; simp))
end

def Ev (K : PySem.W.Frag) (te : TE) (env : Env) (r : Res) (env' : Env) : Prop := ∀ (b : Bs) (F : Hp) (oa : Nat → Addr) (σ : L2.St) (H : Hp), Sig K b F oa σ H env → ∀ Q : VK,
  (∀ v F' H', Sig K b F' oa σ H' env' → Stp oa env F H env' F' H' → RR K F' oa v r → Q v H') → te σ H Q
/-- a new object that nobody has yet -/
def NewAt (K : PySem.W.Frag) (b : Bs) (F : Hp) (oa : Nat → Addr) (H : Hp) (env : Env) (a : Addr) (o : OB) : Prop :=
  F a = none ∧ b.H a = none ∧ (∀ (j : Nat) (u : OB), env[j]? = some (.own u) → oa j ≠ a) ∧ (∀ j, b.fx j ≠ some a) ∧ ORep K F H a o
def EvN (K : PySem.W.Frag) (te : TE) (env : Env) (o : OB) (env' : Env) : Prop := ∀ (b : Bs) (F : Hp) (oa : Nat → Addr) (σ : L2.St) (H : Hp), Sig K b F oa σ H env → ∀ Q : VK,
  (∀ a F' H', Sig K b F' oa σ H' env' → Stp oa env F H env' F' H' → H a = none → NewAt K b F' oa H' env' a o → Q (.ref a) H') → te σ H Q
def RRs (K : PySem.W.Frag) (F : Hp) (oa : Nat → Addr) : List V → List Res → Prop
  | [], [] => True
  | v :: vs, r :: rs => RR K F oa v r ∧ RRs K F oa vs rs
  | _, _ => False
theorem RRs.mono {K : PySem.W.Frag} {F F' : Hp} {oa : Nat → Addr} (e : Ex F F') : ∀ {vs : List V} {rs : List Res}, RRs K F oa vs rs → RRs K F' oa vs rs
  | [], [], _ => trivial
  | _ :: _, _ :: _, h => ⟨h.1.mono e, RRs.mono e h.2⟩
  | [], _ :: _, h => h.elim
  | _ :: _, [], h => h.elim
section
variable {K : PySem.W.Frag} {te ta tb tc : TE} {t u : TT} {env e1 e2 e3 : Env} {r r1 r2 : Res} {d : D} {o : OB} {i j : Nat} {n m : Int}
theorem Ev.give (h : EvN K te env o e1) : Ev K te env (.val o.d) e1 := fun b F oa σ H S Q k => h b F oa σ H S Q fun a F' H' S' e na ⟨n, n0, ne, _, x⟩ => by
  obtain ⟨u, hu, r⟩ := x.give n
  refine k _ _ _ (S'.stand n n0 ne hu) ⟨e.ff.trans (Ex.new n), e.kp, fun c h => ?_, e.th, e.sub⟩ r
  by_cases q : c = a
  · subst q; exact .inr na
  · rw [upd_ne q] at h; exact e.gn c h
end
end DL

namespace DL
open PySem L2

/-! ### operators by all that they serve -/
theorem OpR.or {X : Cx} {f : Value → Value → Sem Value} {r1 r2 : R2} (h1 : OpR X f r1) (h2 : OpR X f r2) : OpR X f (fun x y H Q => r1 x y H Q ∨ r2 x y H Q) := by
  intro pins s σ H x y v u Q I rx ry h
  rcases h with h | h
  · exact h1 pins s σ H x y v u Q I rx ry h
  · exact h2 pins s σ H x y v u Q I rx ry h
theorem CallR.or {X : Cx} {f : Value} {r1 r2 : List V → Hp → VK → Prop} (h1 : CallR X f r1) (h2 : CallR X f r2) : CallR X f (fun xs H Q => r1 xs H Q ∨ r2 xs H Q) := by
  intro pins s σ H xs us Q I r h
  rcases h with h | h
  · exact h1 pins s σ H xs us Q I r h
  · exact h2 pins s σ H xs us Q I r h
def rS : R2 := fun x y H Q => ∃ i j, x = .str i ∧ y = .str j ∧ i.length + j.length ≤ sizeLine ∧ Q (.str (i ++ j)) H
def rAddU (K : PySem.W.Frag) : R2 := fun x y H Q => rI0 (fun i j => .int (i + j)) x y H Q ∨ (rS x y H Q ∨ (rCatA K x y H Q ∨ rCat x y H Q))
theorem op_addU {X : Cx} {K : PySem.W.Frag} (e : X.K = K := by rfl) : OpR X (binaryOp .Add) (rAddU K) := by subst e; exact OpR.or op_add (OpR.or op_add_str (OpR.or op_catA op_cat))
def rSubU : R2 := rI0 fun i j => .int (i - j)
theorem op_subU {X : Cx} : OpR X (binaryOp .Sub) rSubU := op_sub
def rMulU : R2 := fun x y H Q => rI CMul (fun i j => .int (i * j)) x y H Q ∨ (rI CMulX (fun i j => .int (i * j)) x y H Q ∨ rRep x y H Q)
theorem op_mulU {X : Cx} : OpR X (binaryOp .Mult) rMulU := OpR.or op_mul (OpR.or op_mulX op_rep)
def rDivU : R2 := rI CDivW fun i j => .int (i / j)
theorem op_divU {X : Cx} : OpR X (binaryOp .FloorDiv) rDivU := op_fdivW
def rModU : R2 := rI (fun _ j => 0 < j) fun i j => .int (i % j)
theorem op_modU {X : Cx} : OpR X (binaryOp .Mod) rModU := op_mod
def rPowU : R2 := rI CPow fun i j => .int (i ^ j.toNat)
theorem op_powU {X : Cx} : OpR X (binaryOp .Pow) rPowU := op_pow
def rShlU : R2 := rI CShl fun i j => .int (i * 2 ^ j.toNat)
theorem op_shlU {X : Cx} : OpR X (binaryOp .LShift) rShlU := op_shlW
def rShrU : R2 := rI (fun _ j => 0 ≤ j) fun i j => .int (i / 2 ^ j.toNat)
theorem op_shrU {X : Cx} : OpR X (binaryOp .RShift) rShrU := op_shr
def rAndU : R2 := rI0 fun i j => .int (Builtin.bitAnd i j)
theorem op_andU {X : Cx} : OpR X (binaryOp .BitAnd) rAndU := op_and
def rOrU : R2 := rI0 fun i j => .int (Builtin.bitOr i j)
theorem op_orU {X : Cx} : OpR X (binaryOp .BitOr) rOrU := op_or
def rXorU : R2 := rI0 fun i j => .int (Builtin.bitXor i j)
theorem op_xorU {X : Cx} : OpR X (binaryOp .BitXor) rXorU := op_xor
def rLtU : R2 := rI0 fun i j => .bl (decide (i < j))
def rLeU : R2 := rI0 fun i j => .bl (decide (i ≤ j))
def rGtU : R2 := rI0 fun i j => .bl (decide (j < i))
def rGeU : R2 := rI0 fun i j => .bl (decide (j ≤ i))
theorem op_ltU {X : Cx} : OpR X (compareOp .Lt) rLtU := op_lt
theorem op_leU {X : Cx} : OpR X (compareOp .LtE) rLeU := op_le
theorem op_gtU {X : Cx} : OpR X (compareOp .Gt) rGtU := op_gt
theorem op_geU {X : Cx} : OpR X (compareOp .GtE) rGeU := op_ge
def rIsNn : R2 := fun x y H Q => y = .non ∧ Q (.bl (decide (x = .non))) H
def rNotNn : R2 := fun x y H Q => y = .non ∧ Q (.bl (!decide (x = .non))) H
def rIsU : R2 := fun x y H Q => rIsNn x y H Q ∨ rIsB x y H Q
def rNotU : R2 := fun x y H Q => rNotNn x y H Q ∨ rNotB x y H Q
theorem op_isU {X : Cx} : OpR X (compareOp .Is) rIsU := OpR.or op_isN op_isBl
theorem op_notU {X : Cx} : OpR X (compareOp .IsNot) rNotU := OpR.or op_notN op_notBl
def rLen1 (K : PySem.W.Frag) : List V → Hp → VK → Prop := fun xs H Q => ∃ x n, xs = [x] ∧ LenV K x H n ∧ Q (.int n) H
def rLen2 : List V → Hp → VK → Prop := fun xs H Q => ∃ a kvs, xs = [V.ref a] ∧ H a = some (.dK kvs) ∧ Q (.int kvs.length) H
def rLenU (K : PySem.W.Frag) : List V → Hp → VK → Prop := fun xs H Q => rLen1 K xs H Q ∨ rLen2 xs H Q
theorem call_lenU {X : Cx} {K : PySem.W.Frag} (e : X.K = K := by rfl) : CallR X (.builtin "len") (rLenU K) := by subst e; exact CallR.or call_len call_lenD
theorem call_allU {X : Cx} {K : PySem.W.Frag} (hc : X.calm = true) (e : X.K = K := by rfl) : CallR X (.builtin "all") (rAll K) := by subst e; exact cr_all hc
theorem call_sumU {X : Cx} {K : PySem.W.Frag} (hc : X.calm = true) (e : X.K = K := by rfl) : CallR X (.builtin "sum") (rSum K) := by subst e; exact cr_sum hc
theorem ix_U {X : Cx} {K : PySem.W.Frag} (e : X.K = K := by rfl) : IxR X (rIx K) := by subst e; exact ix_seq
def rAbs : List V → Hp → VK → Prop := fun xs H Q => ∃ i, xs = [.int i] ∧ Q (.int (if i < 0 then -i else i)) H
theorem call_absU {X : Cx} : CallR X (.builtin "abs") rAbs := call_abs
def rMax2 : List V → Hp → VK → Prop := fun xs H Q => ∃ i j, xs = [.int i, .int j] ∧ Q (.int (if j > i then j else i)) H
def rMin2 : List V → Hp → VK → Prop := fun xs H Q => ∃ i j, xs = [.int i, .int j] ∧ Q (.int (if j < i then j else i)) H
theorem call_max2U {X : Cx} (hc : X.calm = true) : CallR X (.builtin "max") rMax2 := call_max2 hc
theorem call_min2U {X : Cx} (hc : X.calm = true) : CallR X (.builtin "min") rMin2 := call_min2 hc
def rInt1 : List V → Hp → VK → Prop := fun xs H Q => (∃ i, xs = [.int i] ∧ Q (.int i) H) ∨ ∃ k, xs = [.bl k] ∧ Q (.int (if k then 1 else 0)) H
theorem call_intU {X : Cx} : CallR X (.type "int") rInt1 := call_int1
def rListOf (K : PySem.W.Frag) : List V → Hp → VK → Prop := fun xs H Q => ∃ p ys, xs = [.ref p] ∧ (SqL K H p ys ∨ SqT K H p ys) ∧ ∀ l, H l = none → Q (.ref l) (upd H l (.lst ys))
theorem call_listU {X : Cx} {K : PySem.W.Frag} (e : X.K = K := by rfl) : CallR X (.type "list") (rListOf K) := by subst e; exact call_list_of
def rTupleOf (K : PySem.W.Frag) : List V → Hp → VK → Prop := fun xs H Q => ∃ p ys, xs = [.ref p] ∧ ((SqL K H p ys ∧ ∀ l, H l = none → Q (.ref l) (upd H l (.tup ys))) ∨ (SqT K H p ys ∧ Q (.ref p) H))
theorem call_tupleU {X : Cx} {K : PySem.W.Frag} (e : X.K = K := by rfl) : CallR X (.type "tuple") (rTupleOf K) := by subst e; exact call_tuple_of
def rSlU (K : PySem.W.Frag) : V → Option Int → Option Int → Hp → VK → Prop := fun x lo hi H Q => rSlL K x lo hi H Q ∨ (rSlA K x lo hi H Q ∨ rSlS x lo hi H Q)
theorem SlR.or {X : Cx} {r1 r2 : V → Option Int → Option Int → Hp → VK → Prop} (h1 : SlR X r1) (h2 : SlR X r2) : SlR X (fun x l u H Q => r1 x l u H Q ∨ r2 x l u H Q) := by
  intro pins s σ H x v vl vu l u sl Q I rx hs pl pu h
  rcases h with h | h
  · exact h1 pins s σ H x v vl vu l u sl Q I rx hs pl pu h
  · exact h2 pins s σ H x v vl vu l u sl Q I rx hs pl pu h
theorem sl_U {X : Cx} {K : PySem.W.Frag} (e : X.K = K := by rfl) : SlR X (rSlU K) := by subst e; exact SlR.or sl_list (SlR.or sl_tupA sl_str)

/-! ### PyData of data -/
mutual
def py : D → Option PyData
  | .non => some .none
  | .bl b => some (.bool b)
  | .int i => some (.int i)
  | .str x => some (.str x)
  | .tup l => (pys l).map .tuple
  | .lst l => (pys l).map .list
  | .ty _ => none
  | .scr _ => none
  | .ref _ => none
  | .dic _ => none
  | .dit _ => none
  | .obj _ _ => none
  | .exc _ => none
def pys : List D → Option (List PyData)
  | [] => some []
  | d :: r => match py d, pys r with
    | some x, some y => some (x :: y)
    | _, _ => none
end
mutual
theorem Rep.dp {K : PySem.W.Frag} {H : Hp} : ∀ {v : V} {d : D} {p : PyData}, Rep K H v d → py d = some p → Dp K H v p
  | _, _, _, .non, e => by unfold py at e; cases e; exact .non
  | _, _, _, .bl b, e => by unfold py at e; cases e; exact .bl b
  | _, _, _, .int b, e => by unfold py at e; cases e; exact .int b
  | _, _, _, .str b, e => by unfold py at e; cases e; exact .str b
  | _, _, _, .tup (l := l) h r, e => by
    unfold py at e
    cases q : pys l with
    | none => rw [q] at e; cases e
    | some x => rw [q] at e; cases e; exact .tup h (RepL.dp r q)
  | _, _, _, .lst (l := l) h r, e => by
    unfold py at e
    cases q : pys l with
    | none => rw [q] at e; cases e
    | some x => rw [q] at e; cases e; exact .lst (.inl (.inl h)) (RepL.dp r q)
  | _, _, _, .ty _, e => by unfold py at e; cases e
  | _, _, _, .scr _ _, e => by unfold py at e; cases e
  | _, _, _, .ref _, e => by unfold py at e; cases e
  | _, _, _, .dic _ _ _, e => by unfold py at e; cases e
  | _, _, _, .dit _ _ _, e => by unfold py at e; cases e
  | _, _, _, .obj _ _ _, e => by unfold py at e; cases e
  | _, _, _, .exc _, e => by unfold py at e; cases e
theorem RepL.dp {K : PySem.W.Frag} {H : Hp} : ∀ {vs : List V} {ds : List D} {ps : List PyData}, RepL K H vs ds → pys ds = some ps → DpAll K H vs ps
  | _, _, _, .nil, e => by unfold pys at e; cases e; exact .nil
  | _, _, _, .cons (d := d) (ds := ds) h r, e => by
    unfold pys at e
    cases q1 : py d with
    | none => rw [q1] at e; cases e
    | some x =>
      cases q2 : pys ds with
      | none => rw [q1, q2] at e; cases e
      | some y => rw [q1, q2] at e; cases e; exact .cons (Rep.dp h q1) (RepL.dp r q2)
end
section
variable {K : PySem.W.Frag} {te ta tb tc : TE} {t u : TT} {env e1 e2 e3 : Env} {r r1 r2 : Res} {d d1 d2 : D} {o : OB} {i j : Int} {x y : Str} {c c1 c2 : Bool} {l m : List D}
/-! ### operators -/
def isNon : D → Bool
  | .non => true
  | _ => false
theorem rep_non {F : Hp} {v : V} (h : Rep K F v d) : decide (v = V.non) = isNon d := by
  cases h <;> first | rfl | simp [isNon]
/-! ### tests -/
/-! ### calls of built-ins -/
end
end DL

namespace DL
open PySem L2

section
variable {K : PySem.W.Frag} {te ta tb tc : TE} {t u : TT} {env e1 e2 e3 : Env} {r r1 r2 : Res} {d d1 d2 : D} {o : OB} {i j : Int} {x y : Str} {c c1 c2 : Bool} {l m : List D}
/-! ### isinstance -/
/-! ### subscripts -/
def cutD {α : Type} (xs : List α) (lo hi : Option Int) : List α := (xs.drop (HT.sIx xs.length 0 lo)).take (HT.sIx xs.length xs.length hi - HT.sIx xs.length 0 lo)
theorem cut_rep {F : Hp} {vs : List V} {lo hi : Option Int} (h : RepL K F vs l) : RepL K F (cutV vs lo hi) (cutD l lo hi) := by
  unfold cutV cutD
  rw [h.length]
  exact (h.drop _).take _
/-! ### displays, list(..), tuple(..), + -/
/-! ### what is walked -/
/-- both: for x in e, by what e is -/
def iSeqU (K : PySem.W.Frag) (te : TE) : TI := fun σ H R => iList K te σ H R ∨ (iTup K te σ H R ∨ iStr te σ H R)
theorem PI.or {X : Cx} {tg e : Expr} {w1 w2 : TI} (h1 : PI X tg e w1) (h2 : PI X tg e w2) : PI X tg e (fun σ H R => w1 σ H R ∨ w2 σ H R) := ⟨fun pins s σ H R I h => by
  rcases h with h | h
  · exact h1.run pins s σ H R I h
  · exact h2.run pins s σ H R I h⟩
theorem pi_seqU {X : Cx} {K : PySem.W.Frag} {tg e : Expr} {te : TE} (h : PE X e te) (q : X.K = K := by rfl) : PI X tg e (iSeqU K te) := by subst q; exact PI.or (pi_list h) (PI.or (pi_tup h) (pi_str h))
/-- the ints of a range -/
def rng (lo : Int) (n : Nat) : List D := (List.range n).map fun i => .int (lo + (i : Nat))
def rngC (lo c : Int) (n : Nat) : List D := (List.range n).map fun i => .int (lo + (i : Nat) * c)
theorem rng_get {lo : Int} {n i : Nat} {d : D} (h : (rng lo n)[i]? = some d) : d = .int (lo + (i : Nat)) ∧ i < n := by
  unfold rng at h
  rw [List.getElem?_map] at h
  by_cases q : i < n
  · rw [List.getElem?_range q] at h; cases h; exact ⟨rfl, q⟩
  · rw [List.getElem?_eq_none (by simpa using Nat.le_of_not_lt q)] at h; cases h
theorem rngC_get {lo c : Int} {n i : Nat} {d : D} (h : (rngC lo c n)[i]? = some d) : d = .int (lo + (i : Nat) * c) ∧ i < n := by
  unfold rngC at h
  rw [List.getElem?_map] at h
  by_cases q : i < n
  · rw [List.getElem?_range q] at h; cases h; exact ⟨rfl, q⟩
  · rw [List.getElem?_eq_none (by simpa using Nat.le_of_not_lt q)] at h; cases h
theorem rng_len {lo : Int} {n : Nat} : (rng lo n).length = n := by unfold rng; simp
theorem rngC_len {lo c : Int} {n : Nat} : (rngC lo c n).length = n := by unfold rngC; simp
end
end DL

namespace DL
open PySem L2

/-! ### targets -/
section
variable {K : PySem.W.Frag} {te ta tb tc : TE} {t u : TT} {env env' e1 e2 e3 : Env} {r r1 r2 : Res} {d d1 d2 : D} {o : OB} {i j : Nat} {c c1 c2 : Bool} {l m : List D} {g : TG}
/-! ### comprehensions -/
def wipeE (env : Env) : List Nat → Env
  | [] => env
  | v :: vs => (wipeE env vs).set v .any
theorem wipeE_len (env : Env) : ∀ vs : List Nat, (wipeE env vs).length = env.length
  | [] => rfl
  | v :: vs => by unfold wipeE; rw [List.length_set, wipeE_len env vs]
theorem wipeE_get {x : EV} : ∀ {vs : List Nat} {i : Nat}, (wipeE env vs)[i]? = some x → x = .any ∨ (i ∉ vs ∧ env[i]? = some x)
  | [], i, h => .inr ⟨by simp, h⟩
  | v :: vs, i, h => by
    unfold wipeE at h
    by_cases q : v = i
    · subst q
      rw [List.getElem?_set] at h
      split at h
      · split at h
        · cases h; exact .inl rfl
        · cases h
      · rename_i z; exact absurd rfl z
    · rw [List.getElem?_set_ne q] at h
      rcases wipeE_get h with z | ⟨z1, z2⟩
      · exact .inl z
      · exact .inr ⟨by simp only [List.mem_cons, not_or]; exact ⟨fun z => q z.symm, z1⟩, z2⟩
theorem wipe_out {σ : L2.St} : ∀ {vs : List Nat} {i : Nat}, i ∉ vs → (wipe σ vs)[i]? = σ[i]?
  | [], _, _ => rfl
  | v :: vs, i, h => by
    simp only [List.mem_cons, not_or] at h
    unfold wipe
    rw [List.getElem?_set_ne (Ne.symm h.1), wipe_out h.2]
theorem Sig.wiped {b : Bs} {F : Hp} {oa : Nat → Addr} {σ : L2.St} {H : Hp} (S : Sig K b F oa σ H env) (vs : List Nat) : Sig K b F oa (L2.wipe σ vs) H (wipeE env vs) where
  g := S.g
  len := by rw [wipe_length, wipeE_len, S.len]
  val := fun i d e => by
    rcases wipeE_get e with q | ⟨q, e⟩
    · cases q
    · rw [wipe_out q]; exact S.val i d e
  own := fun i o e => by
    rcases wipeE_get e with q | ⟨q, e⟩
    · cases q
    · rw [wipe_out q]; exact S.own i o e
  dist := fun i j o u e f z => by
    rcases wipeE_get e with q | ⟨_, e⟩
    · cases q
    · rcases wipeE_get f with q | ⟨_, f⟩
      · cases q
      · exact S.dist i j o u e f z
  fix := S.fix
/-- behind a turn: the slots vs as they were ahead, the others as they are -/
def back (vs : List Nat) : Nat → Env → Env → Env
  | n, a :: r, x :: s => (if vs.contains n then a else x) :: back vs (n + 1) r s
  | _, _, _ => []
end
end DL

namespace DL
open PySem L2

/-- what a def hands back -/
inductive Ret where
  | val (d : D) | new (o : OB) | exc (C : Addr)
def RetR (K : PySem.W.Frag) (b : Bs) (F : Hp) (H : Hp) (v : V) : Ret → Prop
  | .val d => Rep K F v d
  | .new o => ∃ a, v = .ref a ∧ F a = none ∧ b.H a = none ∧ (∀ j, b.fx j ≠ some a) ∧ ORep K F H a o
  | .exc _ => False
structure Sat (K : PySem.W.Frag) (b : Bs) (F : Hp) (W : WX) (D : Ends) (N B C : Env → Prop) (R : Ret → Env → Prop) : Prop where
  nx : ∀ env F' oa σ H, N env → Sig K b F' oa σ H env → Ex F F' → D.nx σ H
  bk : ∀ env F' oa σ H, B env → Sig K b F' oa σ H env → Ex F F' → D.bk σ H
  ct : ∀ env F' oa σ H, C env → Sig K b F' oa σ H env → Ex F F' → D.ct σ H
  rt : ∀ r env F' oa σ H v, R r env → Sig K b F' oa σ H env → Ex F F' → RetR K b F' H v r → D.rt v H
  xc : ∀ X env F' oa σ H, R (.exc X) env → Sig K b F' oa σ H env → Ex F F' → W (.ref X) none σ H
theorem Sat.mono {K : PySem.W.Frag} {b : Bs} {F F1 : Hp} {W : WX} {D : Ends} {N B C : Env → Prop} {R : Ret → Env → Prop} (s : Sat K b F W D N B C R) (e : Ex F F1) : Sat K b F1 W D N B C R :=
  ⟨fun env F' oa σ H h S x => s.nx env F' oa σ H h S (e.trans x), fun env F' oa σ H h S x => s.bk env F' oa σ H h S (e.trans x), fun env F' oa σ H h S x => s.ct env F' oa σ H h S (e.trans x), fun r env F' oa σ H v h S x q => s.rt r env F' oa σ H v h S (e.trans x) q, fun X env F' oa σ H h S x => s.xc X env F' oa σ H h S (e.trans x)⟩
/-- a statement: from env it goes on (N), breaks (B), continues (C), or hands back (R); pr: the slots whose objects were handed in to be changed -/
def Exec (K : PySem.W.Frag) (pr : List Nat) (W : WX) (t : TS) (env : Env) (N B C : Env → Prop) (R : Ret → Env → Prop) : Prop := ∀ (b : Bs) (F : Hp) (oa : Nat → Addr) (σ : L2.St) (H : Hp) (D : Ends),
  (∀ i, b.fx i ≠ none → i ∈ pr) → Sig K b F oa σ H env → Sat K b F W D N B C R → t D σ H

section
variable {K : PySem.W.Frag} {pr : List Nat} {W : WX} {te ta tb tc : TE} {t u : TT} {s s1 s2 : TS} {env env' e1 e2 e3 : Env} {r r1 r2 : Res} {d d1 d2 : D} {o : OB} {i j : Nat} {c c1 c2 : Bool} {l m : List D} {g : TG} {N N' B B' C C' : Env → Prop} {R R' : Ret → Env → Prop}
theorem x_mono (h : Exec K pr W s env N B C R) (hn : ∀ e, N e → N' e) (hb : ∀ e, B e → B' e) (hc : ∀ e, C e → C' e) (hr : ∀ r e, R r e → R' r e) : Exec K pr W s env N' B' C' R' := fun b F oa σ H D hp S st =>
  h b F oa σ H D hp S ⟨fun env F oa σ H h S => st.nx env F oa σ H (hn _ h) S, fun env F oa σ H h S => st.bk env F oa σ H (hb _ h) S, fun env F oa σ H h S => st.ct env F oa σ H (hc _ h) S, fun r env F oa σ H v h S x q => st.rt r env F oa σ H v (hr _ _ h) S x q, fun X env F oa σ H h S x => st.xc X env F oa σ H (hr _ _ h) S x⟩
end

/-! ### promises -/
/-- an argument: data, or an object handed in to be changed -/
inductive AV where
  | val (d : D) | own (o : OB)
structure ArgsR (K : PySem.W.Frag) (F H : Hp) (vs : List V) (as : List AV) : Prop where
  len : vs.length = as.length
  val : ∀ (i : Nat) (d : D), as[i]? = some (.val d) → ∃ v, vs[i]? = some v ∧ Rep K F v d
  own : ∀ (i : Nat) (o : OB), as[i]? = some (.own o) → ∃ a, vs[i]? = some (.ref a) ∧ F a = none ∧ ORep K F H a o
  dist : ∀ (i j : Nat) (o u : OB) (a : Addr), as[i]? = some (.own o) → as[j]? = some (.own u) → vs[i]? = some (.ref a) → vs[j]? = some (.ref a) → i = j
/-- an address of an object that was handed in to be changed -/
def ownA (vs : List V) (as : List AV) (a : Addr) : Prop := ∃ (i : Nat) (o : OB), as[i]? = some (.own o) ∧ vs[i]? = some (.ref a)
structure CallEnd (K : PySem.W.Frag) (F H F' H' : Hp) (vs : List V) (as as' : List AV) (v : V) (r : Ret) : Prop where
  ff : Ex F F'
  fh : Ex F' H'
  kp : ∀ a u, H a = some u → ¬ ownA vs as a → H' a = some u
  gn : ∀ a, F' a ≠ none → F a ≠ none ∨ H a = none
  th : ∀ a, H a ≠ none → H' a ≠ none
  own : ∀ (i : Nat) (o : OB), as[i]? = some (.own o) → ∃ o' a, as'[i]? = some (.own o') ∧ vs[i]? = some (.ref a) ∧ F' a = none ∧ ORep K F' H' a o'
  ret : match r with
    | .val d => Rep K F' v d
    | .new o => ∃ a, v = .ref a ∧ F' a = none ∧ H a = none ∧ ORep K F' H' a o
    | .exc _ => True
/-- what is wanted of what came -/
def outR (r : Ret) (E : XK) (Q : VK) (v : V) (H : Hp) : Prop := match r with
  | .exc C => E (.ref C) none H
  | _ => Q v H
/-- THE PROMISE: from arguments as it hands back r and leaves them as' -/
def SpG (K : PySem.W.Frag) (P : List AV → Ret → List AV → Prop) : Sp := fun vs H Q E => ∃ F as r as', Ex F H ∧ ArgsR K F H vs as ∧ P as r as' ∧ ∀ v F' H', CallEnd K F H F' H' vs as as' v r → outR r E Q v H'
def AV.ev : AV → EV
  | .val d => .val d
  | .own o => .own o
open Classical in
noncomputable def hideA (vs : List V) (as : List AV) (H : Hp) : Hp := fun a => if ownA vs as a then none else H a
theorem hideA_ex {vs : List V} {as : List AV} {H : Hp} : Ex (hideA vs as H) H := fun a o e => by
  unfold hideA at e
  split at e
  · cases e
  · exact e
/-- what was handed in is in its slots yet -/
def Held (as as' : List AV) (e : Env) : Prop := ∀ (i : Nat) (o : OB), as[i]? = some (AV.own o) → ∃ o', as'[i]? = some (AV.own o') ∧ e[i]? = some (EV.own o')
/-- a def's body keeps its promise -/
theorem run_SpG {K : PySem.W.Frag} {P : List AV → Ret → List AV → Prop} {Nm : List Str} {n : Nat} {t : TS} {vs : List V} {H : Hp} {Q : VK} {E : XK} (h : SpG K P vs H Q E) (hn : ∀ as r as', P as r as' → as.length = n ∧ n ≤ Nm.length)
    (body : ∀ as r as', P as r as' → ∃ pr : List Nat, (∀ (i : Nat) (o : OB), as[i]? = some (AV.own o) → i ∈ pr) ∧ Exec K pr (fun cls d _ H => E cls d H) t (as.map AV.ev ++ List.replicate (Nm.length - n) .any)
      (fun e => r = .val .non ∧ Held as as' e) (fun _ => False) (fun _ => False) (fun q e => q = r ∧ Held as as' e)) :
    t { nx := fun _ H' => Q .non H', rt := Q } (L2.start Nm vs) H := by
  obtain ⟨F, as, r, as', e, ar, p, k⟩ := h
  obtain ⟨hl, hnm⟩ := hn as r as' p
  obtain ⟨pr, hpr, hx⟩ := body as r as' p
  have lvs : vs.length = n := by rw [ar.len, hl]
  have stg : ∀ (i : Nat) (v : V), vs[i]? = some v → (L2.start Nm vs)[i]? = some (some v) := fun i v h => by
    unfold L2.start
    have hi : i < vs.length := (List.getElem?_eq_some_iff.mp h).1
    rw [List.getElem?_append_left (by simpa using hi), List.getElem?_map, h]; rfl
  have evg : ∀ (i : Nat) (x : EV), (as.map AV.ev ++ List.replicate (Nm.length - n) .any)[i]? = some x → x = .any ∨ ∃ a, as[i]? = some a ∧ x = a.ev := fun i x h => by
    by_cases hi : i < as.length
    · rw [List.getElem?_append_left (by simpa using hi), List.getElem?_map] at h
      cases z : as[i]? with
      | none => rw [z] at h; cases h
      | some a => rw [z] at h; cases h; exact .inr ⟨a, rfl, rfl⟩
    · rw [List.getElem?_append_right (by simpa using Nat.le_of_not_lt hi)] at h
      have := List.getElem?_eq_some_iff.mp h
      obtain ⟨h1, h2⟩ := this
      rw [List.getElem_replicate] at h2
      exact .inl h2.symm
  have evo : ∀ (i : Nat) (o : OB), (as.map AV.ev ++ List.replicate (Nm.length - n) .any)[i]? = some (.own o) → as[i]? = some (.own o) := fun i o h => by
    rcases evg i _ h with z | ⟨a, h1, h2⟩
    · cases z
    · cases a with
      | val d => cases h2
      | own u => cases h2; exact h1
  -- the addresses
  let oa : Nat → Addr := fun i => match vs[i]? with
    | some (.ref a) => a
    | _ => 0
  have oav : ∀ (i : Nat) (a : Addr), vs[i]? = some (.ref a) → oa i = a := fun i a h => by show (match vs[i]? with | some (.ref a) => a | _ => 0) = a; rw [h]
  let fx : Nat → Option Addr := fun i => match as[i]? with
    | some (.own _) => some (oa i)
    | _ => none
  have fxs : ∀ i a, fx i = some a → ∃ o, as[i]? = some (.own o) ∧ a = oa i := fun i a h => by
    have h' : (match as[i]? with | some (.own _) => some (oa i) | _ => none) = some a := h
    cases z : as[i]? with
    | none => rw [z] at h'; cases h'
    | some x =>
      rw [z] at h'
      cases x with
      | val d => cases h'
      | own o => cases h'; exact ⟨o, rfl, rfl⟩
  have hidN : ∀ (i : Nat) (o : OB) (a : Addr), as[i]? = some (.own o) → vs[i]? = some (.ref a) → hideA vs as H a = none := fun i o a h1 h2 => by
    unfold hideA
    rw [if_pos ⟨i, o, h1, h2⟩]
  have S : Sig K ⟨F, hideA vs as H, fx⟩ F oa (L2.start Nm vs) H (as.map AV.ev ++ List.replicate (Nm.length - n) .any) := by
    refine ⟨⟨Ex.refl _, hideA_ex, e, fun a h => .inl h⟩, ?_, fun i d h => ?_, fun i o h => ?_, fun i j o u h1 h2 q => ?_, fun i a h => ?_⟩
    · unfold L2.start; simp [lvs, hl]
    · rcases evg i _ h with z | ⟨a, h1, h2⟩
      · cases z
      · cases a with
        | own o => cases h2
        | val d' =>
          cases h2
          obtain ⟨v, q1, q2⟩ := ar.val i d h1
          exact ⟨v, stg i v q1, q2⟩
    · have h1 := evo i o h
      obtain ⟨a, q1, q2, q3⟩ := ar.own i o h1
      rw [oav i a q1]
      exact ⟨stg i _ q1, q2, hidN i o a h1 q1, q3⟩
    · have h1 := evo i o h1
      have h2 := evo j u h2
      obtain ⟨a, q1, _⟩ := ar.own i o h1
      obtain ⟨a', q1', _⟩ := ar.own j u h2
      rw [oav i a q1, oav j a' q1'] at q
      subst q
      exact ar.dist i j o u a h1 h2 q1 q1'
    · obtain ⟨o, h1, rfl⟩ := fxs i a h
      obtain ⟨a, q1, _, q3⟩ := ar.own i o h1
      obtain ⟨w, hw⟩ := q3.ho
      exact ⟨rfl, by rw [oav i a q1, hw]; simp⟩
  have fin : ∀ env F' oa' σ' H' v, Sig K ⟨F, hideA vs as H, fx⟩ F' oa' σ' H' env → Held as as' env → (RetR K ⟨F, hideA vs as H, fx⟩ F' H' v r ∨ ∃ C, r = .exc C) → outR r E Q v H' := fun env F' oa' σ' H' v S' ho hr => by
    have fxo : ∀ (i : Nat) (o : OB) (a : Addr), as[i]? = some (.own o) → vs[i]? = some (.ref a) → oa' i = a ∧ H' a ≠ none := fun i o a h1 h2 => by
      have q : fx i = some a := by
        show (match as[i]? with | some (.own _) => some (oa i) | _ => none) = some a
        rw [h1, oav i a h2]
      exact S'.fix i a q
    have hkp : ∀ a u, H a = some u → ¬ ownA vs as a → H' a = some u := fun a u h n => S'.g.gh a u (by
      show hideA vs as H a = some u
      unfold hideA
      rw [if_neg n]; exact h)
    refine k v F' H' ⟨S'.g.gf, S'.g.fh, hkp, fun a h => ?_, fun a h => ?_, fun i o h => ?_, ?_⟩
    · rcases S'.g.gn a h with q | q
      · exact .inl q
      · by_cases z : ownA vs as a
        · obtain ⟨i, o, h1, h2⟩ := z
          obtain ⟨o', h3, h4⟩ := ho i o h1
          obtain ⟨_, x2, _⟩ := S'.own i o' h4
          rw [(fxo i o a h1 h2).1] at x2
          exact absurd x2 h
        · refine .inr ?_
          have q' : hideA vs as H a = none := q
          unfold hideA at q'
          rw [if_neg z] at q'
          exact q'
    · by_cases z : ownA vs as a
      · obtain ⟨i, o, h1, h2⟩ := z
        exact (fxo i o a h1 h2).2
      · cases w : H a with
        | none => exact absurd w h
        | some u => rw [hkp a u w z]; simp
    · obtain ⟨o', h3, h4⟩ := ho i o h
      obtain ⟨a, q1, _⟩ := ar.own i o h
      obtain ⟨_, x2, _, x4⟩ := S'.own i o' h4
      rw [(fxo i o a h q1).1] at x2 x4
      exact ⟨o', a, h3, q1, x2, x4⟩
    · cases r with
      | exc C => trivial
      | val d =>
        rcases hr with hr | ⟨_, hr⟩
        · exact hr
        · cases hr
      | new o =>
        rcases hr with hr | ⟨_, hr⟩
        rotate_left
        · cases hr
        obtain ⟨a, rfl, h1, h2, h3, h4⟩ := hr
        refine ⟨a, rfl, h1, ?_, h4⟩
        have h2' : hideA vs as H a = none := h2
        unfold hideA at h2'
        split at h2'
        · rename_i z
          obtain ⟨i, o', h5, h6⟩ := z
          refine absurd ?_ (h3 i)
          show (match as[i]? with | some (.own _) => some (oa i) | _ => none) = some a
          rw [h5, oav i a h6]
        · exact h2'
  refine hx ⟨F, hideA vs as H, fx⟩ F oa (L2.start Nm vs) H _ (fun i h => ?_) S ⟨fun env F' oa σ H h S x => ?_, fun _ _ _ _ _ h => h.elim, fun _ _ _ _ _ h => h.elim, fun q env F' oa σ H v h S x hr => ?_, fun X env F' oa σ H h S x => ?_⟩
  · cases z : fx i with
    | none => exact absurd z h
    | some a =>
      obtain ⟨o, h1, _⟩ := fxs i a z
      exact hpr i o h1
  · obtain ⟨h1, h2⟩ := h
    subst h1
    exact fin env F' oa σ H .non S h2 (.inl .non)
  · obtain ⟨h1, h2⟩ := h
    subst h1
    have := fin env F' oa σ H v S h2 (.inl hr)
    cases q with
    | exc C => exact hr.elim
    | val d => exact this
    | new o => exact this
  · obtain ⟨h1, h2⟩ := h
    subst h1
    exact fin env F' oa σ H .non S h2 (.inr ⟨_, rfl⟩)
/-- raise C('..') -/
def tRaise (W : WX) (C : Addr) : TS := fun _ σ H => W (.ref C) none σ H
section
variable {K : PySem.W.Frag} {pr : List Nat} {W : WX} {env e1 : Env} {N B C : Env → Prop} {R : Ret → Env → Prop} {X : Addr}
end
end DL

namespace DL
open PySem L2

/-! ### calls -/
section
variable {K : PySem.W.Frag} {env e1 : Env} {P : List AV → Ret → List AV → Prop} {rs : List Res} {as as' : List AV} {d : D} {o : OB} {ta : TA} {E : XK}
def slots : List Res → List Nat
  | [] => []
  | .val _ :: r => slots r
  | .slot i :: r => i :: slots r
/-! ### expressions that raise -/
variable {W : WX} {X : Addr} {te tb tl : TE} {t u : TT} {rr : R2} {e2 : Env} {r : Res} {cc : Bool} {pr : List Nat} {N B C : Env → Prop} {R : Ret → Env → Prop} {g : TG}
end
end DL

/-! ### an exception that is caught, and kept by a name behind its clause -/
namespace L2
open PySem PySem.Spec PyProof.Rows DL
section
variable {X : Cx} {pins : List (Addr × Obj)} {σ : L2.St} {H : Hp} {s : Shared}
/-- what 'except x as n: m = n' wishes: slot j is m's, i is n's -/
def wKeep (K : PySem.W.Frag) (c : Value) (i j : Nat) (D : Ends) : WX := fun cls d σ H =>
  ∃ C, cls = .ref C ∧ d = none ∧ PySem.W.exmOne K cls c = some true ∧ ∀ a, H a = none → D.nx (((σ.set i (some (.ref a))).set j (some (.ref a))).set i none) (upd H a (ExK C a))
end
section
variable {X : Cx} {x n : Str} {c : Value} {i j : Nat} {body suite : List Stmt} {b₀ : Stmt} {np pos pos' : Pos} {tb : WX → TS}
end
end L2

namespace DL
open PySem L2
section
variable {K : PySem.W.Frag} {b : Bs} {F H : Hp} {oa : Nat → Addr} {σ : L2.St} {env : Env} {i j : Nat}
theorem Sig.unset (S : Sig K b F oa σ H env) : Sig K b F oa (σ.set i none) H (env.set i .any) where
  g := S.g
  len := by simp [S.len]
  val := fun n d e => by
    by_cases q : i = n
    · subst q
      rw [List.getElem?_set] at e
      split at e
      · split at e <;> cases e
      · rename_i z; exact absurd rfl z
    · rw [List.getElem?_set_ne q] at e
      rw [List.getElem?_set_ne q]
      exact S.val n d e
  own := fun n d e => by
    by_cases q : i = n
    · subst q
      rw [List.getElem?_set] at e
      split at e
      · split at e <;> cases e
      · rename_i z; exact absurd rfl z
    · rw [List.getElem?_set_ne q] at e
      rw [List.getElem?_set_ne q]
      exact S.own n d e
  dist := fun n m o u e f z => by
    have t : ∀ (n : Nat) (o : OB), (env.set i .any)[n]? = some (EV.own o) → env[n]? = some (EV.own o) := fun n o e => by
      by_cases q : i = n
      · subst q
        rw [List.getElem?_set] at e
        split at e
        · split at e <;> cases e
        · rename_i z; exact absurd rfl z
      · rw [List.getElem?_set_ne q] at e; exact e
    exact S.dist n m o u (t _ _ e) (t _ _ f) z
  fix := S.fix
end
/-- try: body / except c as n: m = n -/
def tTry (K : PySem.W.Frag) (c : Value) (i j : Nat) (tb : WX → TS) : TS := fun D σ H => tb (wKeep K c i j D) D σ H
section
variable {K : PySem.W.Frag} {pr : List Nat} {W : WX} {env : Env} {i j : Nat} {N B C : Env → Prop} {R : Ret → Env → Prop} {c : Value} {tb : WX → TS}
/-- what is caught goes on with slot j holding it -/
def caught (K : PySem.W.Frag) (c : Value) (i j : Nat) (N : Env → Prop) (R : Ret → Env → Prop) : Ret → Env → Prop := fun q e => match q with
  | .exc X => PySem.W.exmOne K (.ref X) c = some true ∧ N (((e.set i (.val (.exc X))).set j (.val (.exc X))).set i .any)
  | q => R q e
end

/-! ### isinstance, of exceptions too -/
def rIsX (K : PySem.W.Frag) : List V → Hp → VK → Prop := fun xs H Q => ∃ (a C : Addr) (c : V) (u : Value) (b : Bool), xs = [.ref a, c] ∧ H a = some (ExK C a) ∧ ExcC K C ∧ ClsV c u ∧ PySem.W.kitOne K (.ref C) u = some b ∧ Q (.bl b) H
def rIsXT (K : PySem.W.Frag) : List V → Hp → VK → Prop := fun xs H Q => ∃ (a C tp : Addr) (cs : List V) (us : List Value) (b : Bool), xs = [.ref a, .ref tp] ∧ H a = some (ExK C a) ∧ ExcC K C ∧ H tp = some (.tup cs) ∧ Paired ClsV cs us ∧ PySem.W.kitAny K (.ref C) us = some b ∧ Q (.bl b) H
theorem exk_at {X : Cx} {pins : List (Addr × Obj)} {σ : L2.St} {H : Hp} {s : Shared} {a C : Addr} (I : Inv X pins σ H s) (h : H a = some (ExK C a)) : ∃ oe, PySem.W.InstAt s.heap a oe C none := by
  obtain ⟨⟨oe, vs, h1, h2, h3⟩, _⟩ := (show ObjOk X.prog X.w H s.heap a (ExK C a) from I.hok a _ h)
  obtain ⟨oc, od, dt, sl⟩ := oe
  obtain ⟨z1, z2⟩ := h2
  dsimp only at z1 z2 h3
  subst z1 z2 h3
  exact ⟨_, h1, rfl, rfl, trivial⟩
section
variable {X : Cx}
theorem call_isX : CallR X (.builtin "isinstance") (rIsX X.K) := by
  intro pins s σ H xs us Q I r h
  obtain ⟨a, C, c, u, b, rfl, ha, x, k, e, q⟩ := h
  obtain ⟨u1, u2, rfl, r1, r2⟩ := vals2 r
  have e2 := k.eq r2
  subst e2
  cases (show u1 = Value.ref a from r1)
  obtain ⟨oe, J⟩ := exk_at I ha
  exact PySem.W.kia_one (PySem.W.handS_kitx_exc x.hg x.hk x.hs x.hd x.ha x.hn x.ht x.hm) I.kIn J e (fun z => nomatch z) fun tk => ⟨.bl b, H, I.tok tk, rfl, q⟩
theorem call_isXT : CallR X (.builtin "isinstance") (rIsXT X.K) := by
  intro pins s σ H xs us Q I r h
  obtain ⟨a, C, tp, cs, ws, b, rfl, ha, x, hT, k, e, q⟩ := h
  obtain ⟨u1, u2, rfl, r1, r2⟩ := vals2 r
  cases (show u1 = Value.ref a from r1)
  cases (show u2 = Value.ref tp from r2)
  obtain ⟨oe, J⟩ := exk_at I ha
  obtain ⟨_, its, rv, o, h1, h2, n, h3⟩ := (show ObjOk X.prog X.w H s.heap tp (.tup cs) from I.hok tp _ hT)
  have e3 := ClsV.all k rv
  subst e3
  obtain ⟨oc, od, dt, sl⟩ := o
  dsimp only at h2 h3
  subst h2 h3
  exact PySem.W.kia_tup (PySem.W.handS_kitx_exc x.hg x.hk x.hs x.hd x.ha x.hn x.ht x.hm) I.kIn J h1 e (fun z => nomatch z) fun tk => ⟨.bl b, H, I.tok tk, rfl, q⟩
end
def rIsiU (K : PySem.W.Frag) : List V → Hp → VK → Prop := fun xs H Q => rIsi K xs H Q ∨ (rIsiT K xs H Q ∨ (rIsX K xs H Q ∨ rIsXT K xs H Q))
theorem call_isiA {X : Cx} {K : PySem.W.Frag} (e : X.K = K := by rfl) : CallR X (.builtin "isinstance") (rIsiU K) := by subst e; exact CallR.or call_isi (CallR.or call_isiT (CallR.or call_isX call_isXT))
/-- raise C('..') -/
theorem ps_raiseC {X : Cx} {W : WX} {C : Addr} {e : Expr} {pos : Pos} (hc : X.calm = true) (tk : Takes X W) (he : PMk X e (fun _ H Q => Q (.ref C) none H)) : PS X (.Raise (some e) none pos) (tRaise W C) := ps_raise hc tk he
end DL

namespace DL
open PySem L2

/-! ### operators and built-ins by what their operands came to -/
section
variable {K : PySem.W.Frag} {te ta tb tc : TE} {t u : TT} {env e e1 e2 e3 : Env} {r r1 r2 r3 : Res} {d d1 d2 : D} {o : OB} {i j k' : Int} {x y : Str} {c c1 c2 : Bool} {l m : List D} {rr : R2}
end

/-! ### defs -/
/-- a def that may be called by its name -/
structure Df (P : Program) (w : World) (K : PySem.W.Frag) (mg : Str → Option Value) (base : Heap) (k : Nat) (x : Str) (sp : Sp) : Prop where
  ex : ∃ (f : Addr) (fd : FuncData) (ps : List Str), FnOk P w K mg base CX0 k f fd ps sp ∧ mg x = some (.ref f) ∧ PySem.W.keepIn K (.ref f) = true ∧ Binds K fd ps []
section
variable {X : Cx} {k j : Nat} {x : Str} {sp : Sp} {p pos : Pos} {e : Expr} {es : List Expr} {t : TA}
end
/-- .. that may raise -/
structure Dx (P : Program) (w : World) (K : PySem.W.Frag) (mg : Str → Option Value) (base : Heap) (k : Nat) (x : Str) (sp : Sp) : Prop where
  ex : ∃ (f : Addr) (fd : FuncData) (ps : List Str), FnOk P w K mg base (L2.CX P w) k f fd ps sp ∧ mg x = some (.ref f) ∧ PySem.W.keepIn K (.ref f) = true ∧ Binds K fd ps []
section
variable {X : Cx} {W : WX} {k j : Nat} {x : Str} {sp : Sp} {p pos : Pos} {e : Expr} {es : List Expr} {t : TA}
theorem pe_dx (c : Dx X.prog X.w X.K X.mg X.base k x sp) (tk : Takes X W) (hr : Room j X.A) (hk : k ≤ j) (hg : Gl X x) (ha : PA X (e :: es) t)
    (hdb : (x == ("__debug__" : Str)) = false := by decide) (he : starEach (e :: es) X.env = (false, eval e X.env) :: starEach es X.env := by rfl) (hpl : (backTo pos (starEach es X.env)).any (·.1) = false := by rfl) :
    PE X (.Call (.Name x p) (e :: es) [] pos) (tCallS sp (WE W) t) := by
  obtain ⟨f, fd, ps, F, hm, kp, b⟩ := c.ex
  exact pe_callS F (hr.mono hk) hg hm kp b (fun σ => passAt tk σ) ha hdb he hpl
/-- .. and does not, where it is called -/
theorem pe_dx0 (c : Dx X.prog X.w X.K X.mg X.base k x sp) (hr : Room j X.A) (hk : k ≤ j) (hg : Gl X x) (ha : PA X (e :: es) t)
    (hdb : (x == ("__debug__" : Str)) = false := by decide) (he : starEach (e :: es) X.env = (false, eval e X.env) :: starEach es X.env := by rfl) (hpl : (backTo pos (starEach es X.env)).any (·.1) = false := by rfl) :
    PE X (.Call (.Name x p) (e :: es) [] pos) (tCall sp [] E0 t) := by
  obtain ⟨f, fd, ps, F, hm, kp, b⟩ := c.ex
  exact pe_call F (hr.mono hk) hg hm kp b .nil passL ha hdb he hpl
end
theorem vals_noOwn {ds : List D} {i : Nat} {o : OB} : (ds.map AV.val)[i]? ≠ some (AV.own o) := by
  rw [List.getElem?_map]
  cases ds[i]? <;> simp
section
variable {K : PySem.W.Frag} {env e1 : Env} {f : List D → D → Prop} {g : List D → OB → Prop} {rs : List Res} {ds : List D} {d : D} {o : OB} {ta : TA} {E : XK}
end
section
variable {K : PySem.W.Frag} {env e1 : Env} {f : List D → Ret → Prop} {rs : List Res} {ds : List D} {d : D} {o : OB} {ta : TA} {W : WX} {C : Addr} {E : XK}
end
section
variable {P : Program} {w : World} {K : PySem.W.Frag} {mg : Str → Option Value} {base : Heap} {x qn : Str} {st : Stmt} {fa : Addr} {fd : FuncData} {N ps : List Str} {k : Nat}
theorem spG_len {Pr : List AV → Ret → List AV → Prop} {n : Nat} (hn : ∀ as r as', Pr as r as' → as.length = n) {vs : List V} {H : Hp} {Q : VK} {E : XK} (h : SpG K Pr vs H Q E) : vs.length = n := by
  obtain ⟨F, as, r, as', _, ar, p, _⟩ := h
  rw [ar.len, hn as r as' p]
theorem Fn.ofG {Pr : List AV → Ret → List AV → Prop} (F : Fun K x qn st fa fd) (S : FnScope N ps (defScope st)) (hn : ∀ as r as', Pr as r as' → as.length = ps.length)
    (body : ∀ (cdv : Value) (A : Around) (outer : List PySem.Env) (s : Shared) (H : Hp) (E : XK), Room k (A.deeper (PyProof.Rows.envOfC qn (defScope st) s.heap.objs.size fa cdv)) →
      ∃ t, PSs (cxOf CX0 P w K mg base N qn (defScope st) fa cdv A outer s H E).nox (defBody st) t ∧ ∀ as r as', Pr as r as' → ∃ pr : List Nat, (∀ (i : Nat) (o : OB), as[i]? = some (AV.own o) → i ∈ pr) ∧ Exec K pr (fun cls d _ H => E cls d H) t (as.map AV.ev ++ List.replicate (N.length - ps.length) .any)
      (fun e => r = .val .non ∧ Held as as' e) (fun _ => False) (fun _ => False) (fun q e => q = r ∧ Held as as' e)) : FnOk P w K mg base CX0 (k + 1) fa fd ps (SpG K Pr) :=
  F.ok S (fun vs H Q E h => spG_len hn h) (fun cdv A outer s H vs Q E hr h => by
    obtain ⟨t, h1, h2⟩ := body cdv A outer s H E hr
    have hpl : ps.length ≤ N.length := by have := congrArg List.length S.pre; rw [List.length_take] at this; omega
    exact ⟨t, h1, run_SpG h (fun as r as' p => ⟨hn as r as' p, hpl⟩) h2⟩)
theorem Dx.of {sp : Sp} (h : FnOk P w K mg base (L2.CX P w) k fa fd ps sp) (F : Fun K x qn st fa fd) (hm : mg x = some (.ref fa)) (b : Binds K fd ps []) : Dx P w K mg base k x sp := ⟨fa, fd, ps, h, hm, F.kp, b⟩
theorem Df.of {sp : Sp} (h : FnOk P w K mg base CX0 k fa fd ps sp) (F : Fun K x qn st fa fd) (hm : mg x = some (.ref fa)) (b : Binds K fd ps []) : Df P w K mg base k x sp := ⟨fa, fd, ps, h, hm, F.kp, b⟩
end
end DL

namespace DL
open PySem L2
/-! ### == of data, by a plain function -/
mutual
def pl : Nat → D → Bool
  | _, .non => true
  | _, .bl _ => true
  | _, .int _ => true
  | _, .str x => PyData.canLay0 (.str x)
  | n + 1, .tup l => plL n l
  | n + 1, .lst l => plL n l
  | _, _ => false
def plL : Nat → List D → Bool
  | _, [] => true
  | n, d :: r => pl n d && plL n r
end
/-! ### items -/
/-! ### comprehensions over one name, the slots left as they are -/
section
variable {K : PySem.W.Frag} {te : TE} {t : TT} {env e1 : Env} {wi : TI} {j : Nat}
end
/-! ### isinstance of data -/
end DL

namespace DL
open PySem L2
section
variable {K : PySem.W.Frag} {pr : List Nat} {W : WX} {s : TS} {env e1 : Env} {i j : Nat} {N B C : Env → Prop} {R : Ret → Env → Prop} {wi : TI} {ds : List D}
theorem small_of {n : Int} (c : Int) (h0 : 0 ≤ n) (h1 : n ≤ 70) (hc : c = 1 ∨ c = 2 ∨ c = 3 ∨ c = 8) : Builtin.Range.small 0 n c = true := by
  have k1 : ∀ m : Nat, m < 71 → Builtin.Range.small 0 (m : Int) 1 = true := by decide
  have k2 : ∀ m : Nat, m < 71 → Builtin.Range.small 0 (m : Int) 2 = true := by decide
  have k3 : ∀ m : Nat, m < 71 → Builtin.Range.small 0 (m : Int) 3 = true := by decide
  have k8 : ∀ m : Nat, m < 71 → Builtin.Range.small 0 (m : Int) 8 = true := by decide
  have e : n = ((n.toNat : Nat) : Int) := by omega
  rw [e]
  rcases hc with h | h | h | h <;> subst h
  · exact k1 _ (by omega)
  · exact k2 _ (by omega)
  · exact k3 _ (by omega)
  · exact k8 _ (by omega)
theorem rg_of {n c : Int} (h : Builtin.Range.small 0 n c = true) (hc : 0 < c ∧ c < 1000) : RgC 0 n c (if 0 < n then (n - 1) / c + 1 else 0).toNat := by
  refine ⟨by omega, by omega, h, ?_⟩
  unfold Builtin.Range.rangeSize
  rw [if_pos (show c > 0 from hc.1)]
  by_cases q : 0 < n
  · rw [if_pos q, if_pos q]
    have : 0 ≤ (n - 1) / c := Int.ediv_nonneg (by omega) (by omega)
    rw [show n - 0 - 1 = n - 1 by omega]
    omega
  · rw [if_neg q, if_neg q]; rfl
/-- range(0, n, 3) for n to 70 -/
theorem rg3 {n : Int} (h0 : 0 ≤ n) (h1 : n ≤ 70) : RgC 0 n 3 (if 0 < n then (n - 1) / 3 + 1 else 0).toNat := rg_of (small_of 3 h0 h1 (by omega)) (by omega)
theorem log2_lt {n : Int} {k : Nat} (h0 : 0 < n) (h : n < 2 ^ k) (hk : k < 9000) : 0 < n ∧ n.natAbs.log2 < 9000 := by
  refine ⟨h0, ?_⟩
  have e : ((2 ^ k : Nat) : Int) = 2 ^ k := by simp
  have a : n.natAbs < 2 ^ k := by omega
  have := (Nat.log2_lt (n := n.natAbs) (k := k) (by omega)).mpr a
  omega
end
end DL

/-! ### methods of data by what their operands came to -/
namespace L2
open PySem PySem.Spec PyProof.Rows
end L2
namespace DL
open PySem L2
section
variable {K : PySem.W.Frag} {te tb : TE} {ta : TA} {env e e1 e2 : Env} {r r' : Res} {rs : List Res} {d : D} {l : List D} {i j : Nat} {n : Int} {x y : Str}
end
end DL

namespace DL
open PySem L2
/-! ### more statements and operators -/
section
variable {K : PySem.W.Frag} {pr : List Nat} {W : WX} {te ta tb : TE} {env e1 e2 e : Env} {r r1 r2 : Res} {i j : Nat} {l m : List D} {N B C : Env → Prop} {R : Ret → Env → Prop} {n k : Int} {d d1 d2 : D} {c : Bool}
end
end DL
namespace DL
open PySem L2
end DL

/-! ### a tuple times any small number -/
namespace L2
open PySem PySem.Spec PyProof.Rows
theorem mulT_same (l : Addr) (items : Array Value) (n : Nat) (dd : Option Addr) (sl : Array (Option Value)) (x : Int) (u : Tok) (c0 : (decide (x < -(2 ^ 63)) || decide (x ≥ 2 ^ 63)) = false) (c1 : (items.isEmpty || x == 1) = true) :
    Meets (Builtin.«tuple.__mul__» ⟨[.ref l, .int x u], []⟩) (fun _ R s => s.heap.get? l = some { cls := .type "tuple", dict := dd, data := .seq items n, slots := sl } ∧ R (.ok (.ret (.ref l))) s) := .of_wp fun prog w A R s h => by
  obtain ⟨hp, g, d, tk, os⟩ := s
  obtain ⟨hl, h⟩ := h
  have g1 := AutoSeq1.idx_int
  wp_walk using wpAny_loadPart' hl
  repeat (first
    | (refine wpAny_ite_false (decide_eq_false (by rw [c0]; decide)) ?_; wp_walk using wpAny_loadPart' hl)
    | (refine wpAny_ite_true (decide_eq_true c1) ?_; wp_walk using wpAny_loadPart' hl))
  exact ⟨_, rfl, h⟩
theorem mulT_none (l : Addr) (items : Array Value) (n : Nat) (dd : Option Addr) (sl : Array (Option Value)) (x : Int) (u : Tok) (c0 : (decide (x < -(2 ^ 63)) || decide (x ≥ 2 ^ 63)) = false) (c1 : (items.isEmpty || x == 1) = false) (c2 : (decide (x ≤ 0) || items.isEmpty) = true) :
    Meets (Builtin.«tuple.__mul__» ⟨[.ref l, .int x u], []⟩) (fun _ R s => s.heap.get? l = some { cls := .type "tuple", dict := dd, data := .seq items n, slots := sl } ∧
      R (.ok (.ret (.ref s.heap.objs.size))) { s with heap := s.heap.push { cls := .type "tuple", data := .seq #[] }, toks := s.toks }) := .of_wp fun prog w A R s h => by
  obtain ⟨hp, g, d, tk, os⟩ := s
  obtain ⟨hl, h⟩ := h
  have g1 := AutoSeq1.idx_int
  wp_walk using wpAny_loadPart' hl
  repeat (first
    | (refine wpAny_ite_false (decide_eq_false (by rw [c0]; decide)) ?_; wp_walk using wpAny_loadPart' hl)
    | (refine wpAny_ite_false (decide_eq_false (by rw [c1]; decide)) ?_; wp_walk using wpAny_loadPart' hl)
    | (refine wpAny_ite_true (decide_eq_true c2) ?_; wp_walk using wpAny_loadPart' hl))
  exact ⟨_, rfl, h⟩
/-- a tuple times k, a new one: up to 4000000 items -/
theorem rep_new {X : Cx} {pins : List (Addr × Obj)} {s : Shared} {σ : L2.St} {H : Hp} {l : Addr} {k : Int} {t : Tok} {xs : List V} {Q : VK} (I : Inv X pins σ H s) (hT : SqT X.K H l xs) (hne : xs ≠ []) (h1 : 2 ≤ k) (h2 : k ≤ 4000) (hz : xs.length ≤ 1000)
    (q : ∀ p, H p = none → Q (.ref p) (upd H p (.tup (List.replicate k.toNat xs).flatten))) : wpAny (model X.prog X.w) X.A (binaryOp .Mult (.ref l) (.int k t)) (EP X pins σ Q) X.xe s := by
  obtain ⟨its, r, ⟨⟨_, dd, _, sl⟩, ho, rfl, n, rfl⟩, hs⟩ := I.tuple hT
  have le : its.length = xs.length := r.length.symm
  have size : its.toArray.size = xs.length := le
  have full : its.toArray.isEmpty = false := by
    cases its with
    | nil => exact absurd (List.eq_nil_of_length_eq_zero le.symm) hne
    | cons _ _ => rfl
  have most : k.toNat * xs.length ≤ 4000 * 1000 := Nat.mul_le_mul (by omega) hz
  have mosti : ((its.toArray.size : Nat) : Int) * k ≤ 4000000 := by
    have e : ((its.toArray.size : Nat) : Int) * k = ((k.toNat * xs.length : Nat) : Int) := by
      rw [size, Int.natCast_mul, Int.toNat_of_nonneg (by omega), Int.mul_comm]
    rw [e]; omega
  have c0 : (decide (k < -(2 ^ 63)) || decide (k ≥ 2 ^ 63)) = false := by simp; omega
  have c1 : (its.toArray.isEmpty || k == 1) = false := by rw [full]; simp; omega
  have c2 : (decide (k ≤ 0) || its.toArray.isEmpty) = false := by rw [full]; simp; omega
  have c4 : Builtin.Tuple.tupleTooMany (((its.toArray.size : Nat) : Int) * k) = false := by
    unfold Builtin.Tuple.tupleTooMany
    rw [sizeLine_eq]
    exact decide_eq_false (by omega)
  have fit : ∀ {α : Type} (ys : List α), ys.length = xs.length → (List.replicate k.toNat ys).flatten.length ≤ sizeLine := fun ys e => by
    rw [PyProof.Rows.lm_len_rep_flat, e, sizeLine_eq]; omega
  have mul := tuple_mulW l its.toArray n dd sl k t c0 c1 c2 (by omega) c4 (by rw [size_rep, List.size_toArray]; exact fit its le)
  rw [size_rep] at mul
  refine wpAny_binaryOp_repeat_ref (T := "tuple") (U := "int") (by decide) ⟨_, ho, rfl⟩ (fun s' => typeIs_int s' k t) noFill_tuple_mul F.fills_int_mul F.slot_int_rmul repeat_tuple F.slot_int_index.lookup
    (call_meets F.slot_int_rmul (typeIs_int s k t) F.entry_int_rmul (F.args_int_rmul_2 _ _) (int_rmul_tuple k t l its.toArray n dd sl)
      ⟨ho, rfl, ⟨_, ho, rfl⟩, call_meets F.slot_tuple_mul ⟨_, ho, rfl⟩ F.entry_tuple_mul (F.args_tuple_mul_2 _ _) mul ⟨ho, ?_⟩⟩)
  exact ⟨.ref s.heap.objs.size, _, I.laid (t' := s.toks) (o := .tup (List.replicate k.toNat xs).flatten) (fun b ob q => Heap.get?_push_of_some _ q) (Nat.le_refl _) ⟨fit xs rfl, _, r.rep k.toNat, IsTup.new _ _⟩, rfl, q _ (I.hok.fresh (Nat.le_refl _))⟩
/-- a tuple times any k to 100000: itself, or a new one -/
def rMulT (K : PySem.W.Frag) : R2 := fun x y H Q => ∃ l k xs, x = .ref l ∧ y = .int k ∧ SqT K H l xs ∧ k ≤ 4000 ∧ -1000 ≤ k ∧ xs.length ≤ 1000 ∧ (xs = [] → Q (.ref l) H) ∧ (k = 1 → Q (.ref l) H) ∧ (xs ≠ [] → k ≠ 1 → ∀ p, H p = none → Q (.ref p) (upd H p (.tup (List.replicate k.toNat xs).flatten)))
theorem op_mulT {X : Cx} : OpR X (binaryOp .Mult) (rMulT X.K) := by
  intro pins s σ H x y v u Q I rx ry h
  obtain ⟨l, k, xs, rfl, rfl, hT, h2, h1, hz, q0, q1, q2⟩ := h
  by_cases big : xs ≠ [] ∧ 2 ≤ k
  · cases rx
    obtain ⟨t, rfl⟩ := ry
    exact rep_new I hT big.1 big.2 h2 hz (q2 big.1 (by omega))
  · cases rx
    obtain ⟨t, rfl⟩ := ry
    obtain ⟨its, r, ⟨⟨cls, dd, data, sl⟩, ho, hc, n, hd⟩, hs⟩ := I.tuple hT
    simp only at hc hd
    subst hc hd
    have hle : its.length = xs.length := r.length.symm
    have c0 : (decide (k < -(2 ^ 63)) || decide (k ≥ 2 ^ 63)) = false := by
      rw [decide_eq_false (by omega), decide_eq_false (by omega)]; rfl
    by_cases one : xs = [] ∨ k = 1
    · have c1 : (its.toArray.isEmpty || k == 1) = true := by
        rcases one with e | e
        · have : its = [] := List.eq_nil_of_length_eq_zero (by rw [hle, e]; rfl)
          rw [this]; rfl
        · rw [e]; simp
      refine wpAny_binaryOp_repeat_ref (T := "tuple") (U := "int") (by decide) ⟨_, ho, rfl⟩ (fun s' => typeIs_int s' k t) noFill_tuple_mul F.fills_int_mul F.slot_int_rmul repeat_tuple F.slot_int_index.lookup
        (call_meets F.slot_int_rmul (typeIs_int s k t) F.entry_int_rmul (F.args_int_rmul_2 _ _) (int_rmul_tuple k t l its.toArray n dd sl)
          ⟨ho, rfl, ⟨_, ho, rfl⟩, call_meets F.slot_tuple_mul ⟨_, ho, rfl⟩ F.entry_tuple_mul (F.args_tuple_mul_2 _ _) (mulT_same l its.toArray n dd sl k t c0 c1) ⟨ho, ?_⟩⟩)
      refine ⟨.ref l, H, I, rfl, ?_⟩
      rcases one with e | e
      · exact q0 e
      · exact q1 e
    · have n1 : xs ≠ [] := fun e => one (.inl e)
      have n2 : k ≠ 1 := fun e => one (.inr e)
      have k0 : k ≤ 0 := by
        by_cases z : 2 ≤ k
        · exact absurd ⟨n1, z⟩ big
        · omega
      have hi : its.toArray.isEmpty = false := by
        cases its with
        | nil => exact absurd (List.eq_nil_of_length_eq_zero hle.symm) n1
        | cons a b => rfl
      have c1 : (its.toArray.isEmpty || k == 1) = false := by
        rw [hi, Bool.false_or]
        exact beq_eq_false_iff_ne.mpr n2
      have c2 : (decide (k ≤ 0) || its.toArray.isEmpty) = true := by rw [decide_eq_true k0]; rfl
      have e0 : k.toNat = 0 := by omega
      have q := q2 n1 n2
      rw [e0] at q
      refine wpAny_binaryOp_repeat_ref (T := "tuple") (U := "int") (by decide) ⟨_, ho, rfl⟩ (fun s' => typeIs_int s' k t) noFill_tuple_mul F.fills_int_mul F.slot_int_rmul repeat_tuple F.slot_int_index.lookup
        (call_meets F.slot_int_rmul (typeIs_int s k t) F.entry_int_rmul (F.args_int_rmul_2 _ _) (int_rmul_tuple k t l its.toArray n dd sl)
          ⟨ho, rfl, ⟨_, ho, rfl⟩, call_meets F.slot_tuple_mul ⟨_, ho, rfl⟩ F.entry_tuple_mul (F.args_tuple_mul_2 _ _) (mulT_none l its.toArray n dd sl k t c0 c1 c2) ⟨ho, ?_⟩⟩)
      refine ⟨.ref s.heap.objs.size, _, I.laid (t' := s.toks) (o := .tup []) (fun b ob q => Heap.get?_push_of_some _ q) (Nat.le_refl _) ?_, rfl, q _ (I.hok.fresh (Nat.le_refl _))⟩
      exact ⟨by decide, [], .nil, IsTup.new _ _⟩
end L2
namespace DL
open PySem L2
def rMulA (K : PySem.W.Frag) : R2 := fun x y H Q => rMulU x y H Q ∨ rMulT K x y H Q
theorem op_mulA {X : Cx} {K : PySem.W.Frag} (e : X.K = K := by rfl) : OpR X (binaryOp .Mult) (rMulA K) := by subst e; exact OpR.or op_mulU op_mulT
section
variable {K : PySem.W.Frag} {te ta tb : TE} {env e e1 e2 : Env} {r r1 r2 r' : Res} {i j : Int} {d d1 d2 : D} {l m : List D} {o o' : OB} {n : Nat}
/-- enumerate(xs) -/
def enumD (l : List D) : List D := (List.range l.length).map fun i => .tup [.int (i : Nat), l.getD i .non]
theorem enumD_len : (enumD l).length = l.length := by simp [enumD]
theorem enumD_get {i : Nat} (h : (enumD l)[i]? = some d) : ∃ x, l[i]? = some x ∧ d = .tup [.int (i : Nat), x] := by
  unfold enumD at h
  rw [List.getElem?_map] at h
  obtain ⟨k, hk, rfl⟩ := Option.map_eq_some_iff.mp h
  obtain ⟨h1, h2⟩ := List.getElem?_eq_some_iff.mp hk
  rw [List.length_range] at h1
  rw [List.getElem_range] at h2
  subst h2
  exact ⟨l[i], by simp [h1], by rw [List.getD_eq_getElem?_getD, List.getElem?_eq_getElem h1]; rfl⟩
def zipD (l m : List D) : List D := (l.zip m).map fun p => .tup [p.1, p.2]
end
/-! ### defs whose first argument is an object that they change -/
def PO (f : OB → List D → Ret → OB → Prop) : List AV → Ret → List AV → Prop := fun as r as' => ∃ o ds o', as = .own o :: ds.map AV.val ∧ as' = .own o' :: ds.map AV.val ∧ f o ds r o'
section
variable {K : PySem.W.Frag} {ta : TA} {env e1 : Env} {rs : List Res} {ds : List D} {d : D} {o o' ob : OB} {i : Nat} {f : OB → List D → Ret → OB → Prop} {E : XK}
end
section
variable {P : Program} {w : World} {K : PySem.W.Frag} {mg : Str → Option Value} {base : Heap} {x qn : Str} {st : Stmt} {fa : Addr} {fd : FuncData} {N ps : List Str} {k : Nat}
theorem Fn.ofO {f : OB → List D → Ret → OB → Prop} (F : Fun K x qn st fa fd) (S : FnScope N ps (defScope st)) (hn : ∀ o ds r o', f o ds r o' → ds.length + 1 = ps.length)
    (body : ∀ (cdv : Value) (A : Around) (outer : List PySem.Env) (s : Shared) (H : Hp) (E : XK), Room k (A.deeper (PyProof.Rows.envOfC qn (defScope st) s.heap.objs.size fa cdv)) →
      ∃ t, PSs (cxOf CX0 P w K mg base N qn (defScope st) fa cdv A outer s H E).nox (defBody st) t ∧ ∀ o ds r o', f o ds r o' → Exec K [0] (fun cls d _ H => E cls d H) t (EV.own o :: ds.map EV.val ++ List.replicate (N.length - ps.length) .any)
      (fun e => r = .val .non ∧ e[0]? = some (.own o')) (fun _ => False) (fun _ => False) (fun q e => q = r ∧ e[0]? = some (.own o'))) : FnOk P w K mg base CX0 (k + 1) fa fd ps (SpG K (PO f)) :=
  Fn.ofG F S (fun as r as' ⟨o, ds, o', h1, _, h4⟩ => by rw [h1, List.length_cons, List.length_map]; exact hn o ds r o' h4) fun cdv A outer s H E hr => by
    obtain ⟨t, h1, h2⟩ := body cdv A outer s H E hr
    refine ⟨t, h1, fun as r as' ⟨o, ds, o', e1, e2, hf⟩ => ⟨[0], fun i ob h => ?_, ?_⟩⟩
    · subst e1
      cases i with
      | zero => exact List.mem_cons_self
      | succ i => rw [List.getElem?_cons_succ] at h; exact absurd h vals_noOwn
    subst e1 e2
    have held : ∀ e : Env, e[0]? = some (.own o') → Held (.own o :: ds.map AV.val) (.own o' :: ds.map AV.val) e := fun e he i ob h => by
      cases i with
      | zero => exact ⟨o', rfl, he⟩
      | succ i => rw [List.getElem?_cons_succ] at h; exact absurd h vals_noOwn
    have em : (AV.own o :: ds.map AV.val).map AV.ev = EV.own o :: ds.map EV.val := by rw [List.map_cons, List.map_map]; rfl
    rw [em]
    exact x_mono (h2 o ds r o' hf) (fun e h => ⟨h.1, held e h.2⟩) (fun _ h => h) (fun _ h => h) fun q e h => ⟨h.1, held e h.2⟩
end
end DL

namespace DL
open PySem L2
/-! ### a comprehension whose part changes the object in the first slot -/
section
variable {K : PySem.W.Frag} {te : TE} {wi : TI} {env R : Env} {k : Nat} {ds : List D}
end
end DL

/-! ### xs.insert, a list times n, isinstance of several classes -/
namespace L2
open PySem
end L2
namespace DL
open PySem L2
section
variable {K : PySem.W.Frag} {pr : List Nat} {W : WX} {te ta tb : TE} {ts : TA} {env e1 e2 e : Env} {r : Res} {i : Nat} {l m : List D} {N B C : Env → Prop} {R : Ret → Env → Prop} {n j : Int} {d : D} {c : Bool}
end
end DL
namespace DL
open PySem L2
theorem ixN_nat {n i : Nat} (h : i < n) : ixN n (i : Int) = some i := by
  unfold ixN
  rw [if_pos (by omega), if_pos (by omega)]; rfl
end DL
namespace DL
open PySem L2
end DL

/-! ### len(set(xs)), xs.pop(i), xs.remove(x), xs[::-1], objects lent to a call -/
namespace L2
open PySem PySem.Spec PyProof.Rows
/-- how many unlike ones -/
def unlike (ns : List Int) : Nat := (PyProof.Rows.firstMet (fun i => ns.getD i 0) ns.length).length
end L2
namespace DL
open PySem L2
section
variable {K : PySem.W.Frag} {pr : List Nat} {W : WX} {te ta tb : TE} {ts : TA} {env e1 e2 e : Env} {r : Res} {i : Nat} {l m : List D} {N B C : Env → Prop} {R : Ret → Env → Prop} {n j : Int} {d : D} {c : Bool} {ns : List Int} {o : OB} {ds : List D} {rs : List Res}
theorem RepL.eraseIdx {F : Hp} : ∀ {vs : List V} {ds : List D} (n : Nat), RepL K F vs ds → RepL K F (vs.eraseIdx n) (ds.eraseIdx n)
  | _, _, _, .nil => .nil
  | _, _, 0, .cons _ r => r
  | _, _, n + 1, .cons q r => .cons q (RepL.eraseIdx n r)
/-- what each argument reads -/
inductive Rds (env : Env) : List Res → List D → Prop
  | nil : Rds env [] []
  | cons {r : Res} {d : D} {rs : List Res} {ds : List D} : Rd env r d → Rds env rs ds → Rds env (r :: rs) (d :: ds)
theorem Rds.rep {b : Bs} {F : Hp} {oa : Nat → Addr} {σ : L2.St} {H : Hp} (S : Sig K b F oa σ H env) : ∀ {vs : List V} {rs : List Res} {ds : List D}, RRs K F oa vs rs → Rds env rs ds → vs.length = ds.length ∧ ∀ (i : Nat) (d : D), ds[i]? = some d → ∃ v, vs[i]? = some v ∧ Rep K H v d
  | [], _, _, h, .nil => ⟨rfl, fun i d hi => by simp at hi⟩
  | _ :: _, _, _, h, .nil => h.elim
  | [], _, _, h, .cons _ _ => h.elim
  | v :: vs, _, _, h, .cons q t => by
    obtain ⟨h1, h2⟩ := Rds.rep S h.2 t
    refine ⟨by rw [List.length_cons, List.length_cons, h1], fun i d hi => ?_⟩
    cases i with
    | zero => simp at hi; subst hi; exact ⟨v, rfl, q.rep S h.1⟩
    | succ i => simp at hi; exact h2 i d hi
end
end DL

/-! ### xs[k] += n; in, of data of any depth; more that raises -/
namespace L2
open PySem PySem.Spec PyProof.Rows
end L2
namespace DL
open PySem L2
section
variable {X : Cx} {k j : Nat} {x : Str} {sp : Sp} {p pos : Pos}
end
theorem room65 {k : Nat} {A : Around} (r : Room k A) : A.units + 65 < cLine := by have := r.un; omega
section
variable {K : PySem.W.Frag} {pr : List Nat} {W : WX} {te ta tb to : TE} {ts : TA} {env e1 e2 e : Env} {r r1 r2 : Res} {i : Nat} {l m : List D} {N B C : Env → Prop} {R : Ret → Env → Prop} {n j k0 : Int} {d : D} {c : Bool} {X : Addr} {t u : TT}
/-! raising in parts -/
end
end DL

/-! ### instances of own classes: made, read, written -/
namespace DL
open PySem L2
section
variable {K : PySem.W.Frag} {F : Hp}
end
section
variable {K : PySem.W.Frag} {pr : List Nat} {W : WX} {te ta tv : TE} {ts : TA} {env e1 e2 e : Env} {r : Res} {rs : List Res} {i : Nat} {N B C : Env → Prop} {R : Ret → Env → Prop} {d : D} {ds : List D} {Cc : Addr} {fs : List (Str × D)} {f : Str} {o : OB}
end
/-- a class whose instances are made by a call of its name -/
structure Mf (P : Program) (w : World) (K : PySem.W.Frag) (mg : Str → Option Value) (base : Heap) (k : Nat) (x : Str) (C : Addr) (sp : Sp) : Prop where
  ex : ∃ (f : Addr) (fd : FuncData) (ps : List Str), Mk K C f ∧ FnOk P w K mg base CX0 k f fd ps sp ∧ mg x = some (.ref C) ∧ Binds K fd ps []
section
variable {X : Cx} {k j : Nat} {x : Str} {C : Addr} {sp : Sp} {p pos : Pos} {e : Expr} {es : List Expr} {t : TA}
end
theorem Mf.of {P : Program} {w : World} {K : PySem.W.Frag} {mg : Str → Option Value} {base : Heap} {k : Nat} {x : Str} {C fa : Addr} {fd : FuncData} {ps : List Str} {sp : Sp} (M : Mk K C fa) (h : FnOk P w K mg base CX0 k fa fd ps sp) (hm : mg x = some (.ref C)) (b : Binds K fd ps []) : Mf P w K mg base k x C sp := ⟨fa, fd, ps, M, h, hm, b⟩
end DL
namespace DL
open PySem L2
/-! ### try: .. except C: .. -/
def tTryO (K : PySem.W.Frag) (c : Value) (ts : TS) (tb : WX → TS) : TS := fun D σ H => tb (wOnly K c (fun _ _ _ => ts) (fun _ _ _ _ => False) D) D σ H
section
variable {K : PySem.W.Frag} {pr : List Nat} {W : WX} {env : Env} {N B C M : Env → Prop} {R : Ret → Env → Prop} {c : Value} {tb : WX → TS} {ts : TS}
end
end DL
namespace L2
open PySem PySem.Spec PyProof.Rows
section
variable {prog : Program} {w : World} {A : Around} {E : Value → Shared → Prop} {s : Shared}
end
end L2
namespace DL
open PySem L2
section
variable {K : PySem.W.Frag} {pr : List Nat} {W : WX} {te : TE} {env e1 : Env} {i : Nat} {l m : List D} {N B C : Env → Prop} {R : Ret → Env → Prop}
end
end DL

/-! ### repr of tuples, where nothing is under way: in the law's own def, called from the top -/
namespace L2
open PySem PySem.Spec PyProof.Rows
/-- what a def promises where it is called from the top -/
structure RunC (P : Program) (w : World) (K : PySem.W.Frag) (mg : Str → Option Value) (base : Heap) (CX : CXT) (f : Addr) (fd : FuncData) (ps : List Str) (sp : Sp) : Prop where
  run : ∀ (outer : List Env) (s : Shared) (H : Hp) (args : Args) (us : List Value) (vs : List V) (Q : VK) (E : XK), Env0 P w K mg base callerA outer s H → BindsTo s fd args (ps.zip us) → Vals vs us → sp vs H Q E →
    codeAny (model P w) callerA (.call (.ref f) args) (CR CX outer P w H s Q E) s
theorem RunC.imp {P : Program} {w : World} {K : PySem.W.Frag} {mg : Str → Option Value} {base : Heap} {CX : CXT} {f : Addr} {fd : FuncData} {ps : List Str} {sp sp' : Sp} (R : RunC P w K mg base CX f fd ps sp) (h : ∀ vs H Q E, sp' vs H Q E → sp vs H Q E) : RunC P w K mg base CX f fd ps sp' :=
  ⟨fun outer s H args us vs Q E e b r q => R.run outer s H args us vs Q E e b r (h _ _ _ _ q)⟩
end L2

namespace DL
open PySem L2
/-! ### what repr shows of data -/
section
variable {K : PySem.W.Frag} {e : Env} {r : Res} {l : List D}
end
section
variable {P : Program} {w : World} {K : PySem.W.Frag} {mg : Str → Option Value} {base : Heap} {x qn : Str} {st : Stmt} {fa : Addr} {fd : FuncData} {N ps : List Str} {k : Nat}
end
end DL

/-! ### methods of own classes that only read; isinstance of an instance -/
namespace DL
open PySem L2
/-- a method -/
structure Mt (P : Program) (w : World) (K : PySem.W.Frag) (mg : Str → Option Value) (base : Heap) (k : Nat) (C : Addr) (m : Str) (sp : Sp) : Prop where
  ex : ∃ (f : Addr) (fd : FuncData) (ps : List Str), Meth K C m f ∧ FnOk P w K mg base CX0 k f fd ps sp ∧ Binds K fd ps []
theorem Mt.of {P : Program} {w : World} {K : PySem.W.Frag} {mg : Str → Option Value} {base : Heap} {k : Nat} {m : Str} {C fa : Addr} {fd : FuncData} {ps : List Str} {sp : Sp} (M : Meth K C m fa) (h : FnOk P w K mg base CX0 k fa fd ps sp) (b : Binds K fd ps []) : Mt P w K mg base k C m sp := ⟨fa, fd, ps, M, h, b⟩
section
variable {X : Cx} {k j : Nat} {m : Str} {C : Addr} {sp : Sp} {apos pos : Pos} {o e : Expr} {es : List Expr} {t : TA} {ta : TE}
end
section
variable {K : PySem.W.Frag} {env e e1 e2 : Env} {f : List D → D → Prop} {rs : List Res} {ds : List D} {d : D} {ta : TE} {ts : TA} {E : XK} {Cc : Addr} {m : Str} {fs : List (Str × D)}
/-- what isinstance asks of an own class -/
structure InC (K : PySem.W.Frag) (C : Addr) : Prop where
  cl : Cls K C
  ha : PySem.W.findIn K (.ref C) "__class__" = some (some (.builtin "object.__class__"))
  hn : PySem.W.specialIn K (.builtin "object.__class__") "__get__" = some (some (.builtin "getset_descriptor.__get__"))
  ht : PySem.W.takesIn K (.builtin "object.__class__") = some true
  hm : PySem.W.mroIn K C (.type "object") = some true
end
end DL
/-! ### repr of tuples, ints and texts, at the top -/
namespace DL
open PySem L2
section
variable {K : PySem.W.Frag} {e : Env} {r : Res} {l : List D} {i : Int} {x : Str}
end
end DL

/-! ### instances made by an __init__ that may raise -/
namespace L2
open PySem PySem.Spec PyProof.Rows
section
variable {X : Cx} {CX : CXT} {k : Nat} {f C : Addr} {fd : FuncData} {ps : List Str} {sp : Sp} {E : St → XK} {x : Str} {p pos : Pos} {e : Expr} {es : List Expr} {t : TA}
theorem run_makeS {pins : List (Addr × Obj)} {σ : St} {H : Hp} {s : Shared} {Q : VK} {us : List Value} {vs : List V} (M : Mk X.K C f) (F : FnOk X.prog X.w X.K X.mg X.base CX k f fd ps sp) (hr : Room (k + 1) X.A) (hb : Binds X.K fd ps [])
    (hx : PassesAt CX X σ (E σ)) (I : Inv X pins σ H s) (r : Vals vs us)
    (h : ∀ x dx, H x = none → H dx = none → dx ≠ x → sp (.ref x :: vs) (upd (upd H dx (.own x)) x (.ins C dx [])) (fun v H2 => v = .non ∧ Q (.ref x) H2) (E σ)) :
    wpAny (model X.prog X.w) X.A (call (.ref C) us) (EP X pins σ Q) X.xe s := by
  have hq := h (s.heap.objs.size + 1) s.heap.objs.size (I.hok.fresh (Nat.le_succ _)) (I.hok.fresh (Nat.le_refl _)) (Nat.ne_of_lt (Nat.lt_succ_self _))
  have I2 := Inv.made (C := C) I
  have r2 : Vals (V.ref (s.heap.objs.size + 1) :: vs) (Value.ref (s.heap.objs.size + 1) :: us) := .cons rfl r
  have hl : (Value.ref (s.heap.objs.size + 1) :: us).length = ps.length := by
    have e := r2.length
    rw [F.len _ _ _ _ hq] at e
    exact e.symm
  have b := hb _ (Value.ref (s.heap.objs.size + 1) :: us) I2.kIn (by rw [List.append_nil]; exact hl)
  rw [List.append_nil] at b
  refine wpAny_call (make_map (f := f) I.kIn M.makes M.init (beq_iff_eq.mp M.fn) (codeAny_mono (F.run _ X.stack _ _ ⟨Value.ref (s.heap.objs.size + 1) :: us, []⟩ (Value.ref (s.heap.objs.size + 1) :: us) _ _ (E σ) (hr.make C us [])
    (I2.env0.make C us []) b r2 hq) fun r s' hq' => ?_))
  cases r with
  | error e => exact hx pins _ _ e s' I2 hq'
  | ok fl =>
    cases fl with
    | ret u =>
      obtain ⟨v, H', I3, rv, ev, q3⟩ := I2.after hq'
      subst ev
      exact ⟨rv, ⟨V.ref (s.heap.objs.size + 1), H', I3, rfl, q3⟩⟩
    | next => exact False.elim hq'
    | brk => exact False.elim hq'
    | cont => exact False.elim hq'
def tMakeS (C : Addr) (sp : Sp) (E : St → XK) (t : TA) : TE := fun σ H Q => t σ H fun vs H1 => ∀ x dx, H1 x = none → H1 dx = none → dx ≠ x →
  sp (.ref x :: vs) (upd (upd H1 dx (.own x)) x (.ins C dx [])) (fun v H2 => v = .non ∧ Q (.ref x) H2) (E σ)
theorem pe_makeS (M : Mk X.K C f) (F : FnOk X.prog X.w X.K X.mg X.base CX k f fd ps sp) (hr : Room (k + 1) X.A) (hg : Gl X x) (hm : X.mg x = some (.ref C)) (hb : Binds X.K fd ps []) (hx : ∀ σ, PassesAt CX X σ (E σ))
    (ha : PA X (e :: es) t) (hdb : (x == ("__debug__" : Str)) = false := by decide) (he : starEach (e :: es) X.env = (false, eval e X.env) :: starEach es X.env := by rfl) (hpl : (backTo pos (starEach es X.env)).any (·.1) = false := by rfl) :
    PE X (.Call (.Name x p) (e :: es) [] pos) (tMakeS C sp E t) := by
  refine ⟨fun pins s σ H Q I h => ?_⟩
  refine wpAny_Call_Name_kw (ld_glob I hg hm ?_ hdb)
  refine PySem.W.callWith_K (h₀ := X.base) I.ok.mod.kin M.kp (thn (ha.run pos pins s σ H _ I h) fun us s1 ⟨vs, H1, I1, r, q⟩ => ⟨I1.kIn, ?_⟩) he hpl
  exact run_makeS M F hr hb (hx σ) I1 r q
end
end L2
namespace DL
open PySem L2
structure Mx (P : Program) (w : World) (K : PySem.W.Frag) (mg : Str → Option Value) (base : Heap) (k : Nat) (x : Str) (C : Addr) (sp : Sp) : Prop where
  ex : ∃ (f : Addr) (fd : FuncData) (ps : List Str), Mk K C f ∧ FnOk P w K mg base (L2.CX P w) k f fd ps sp ∧ mg x = some (.ref C) ∧ Binds K fd ps []
theorem Mx.of {P : Program} {w : World} {K : PySem.W.Frag} {mg : Str → Option Value} {base : Heap} {k : Nat} {x : Str} {C fa : Addr} {fd : FuncData} {ps : List Str} {sp : Sp} (M : Mk K C fa) (h : FnOk P w K mg base (L2.CX P w) k fa fd ps sp) (hm : mg x = some (.ref C)) (b : Binds K fd ps []) : Mx P w K mg base k x C sp := ⟨fa, fd, ps, M, h, hm, b⟩
section
variable {X : Cx} {W : WX} {k j : Nat} {x : Str} {C : Addr} {sp : Sp} {p pos : Pos} {e : Expr} {es : List Expr} {t : TA}
theorem pe_mx (c : Mx X.prog X.w X.K X.mg X.base k x C sp) (tk : Takes X W) (hr : Room j X.A) (hk : k + 1 ≤ j) (hg : Gl X x) (ha : PA X (e :: es) t)
    (hdb : (x == ("__debug__" : Str)) = false := by decide) (he : starEach (e :: es) X.env = (false, eval e X.env) :: starEach es X.env := by rfl) (hpl : (backTo pos (starEach es X.env)).any (·.1) = false := by rfl) :
    PE X (.Call (.Name x p) (e :: es) [] pos) (tMakeS C sp (WE W) t) := by
  obtain ⟨f, fd, ps, M, F, hm, b⟩ := c.ex
  exact pe_makeS M F (hr.mono hk) hg hm b (fun σ => passAt tk σ) ha hdb he hpl
/-- .. and does not raise, where it is made -/
theorem pe_mx0 (c : Mx X.prog X.w X.K X.mg X.base k x C sp) (hr : Room j X.A) (hk : k + 1 ≤ j) (hg : Gl X x) (ha : PA X (e :: es) t)
    (hdb : (x == ("__debug__" : Str)) = false := by decide) (he : starEach (e :: es) X.env = (false, eval e X.env) :: starEach es X.env := by rfl) (hpl : (backTo pos (starEach es X.env)).any (·.1) = false := by rfl) :
    PE X (.Call (.Name x p) (e :: es) [] pos) (tMake C sp [] E0 t) := by
  obtain ⟨f, fd, ps, M, F, hm, b⟩ := c.ex
  exact pe_make M F (hr.mono hk) hg hm b .nil passL ha hdb he hpl
end
section
variable {K : PySem.W.Frag} {pr : List Nat} {W : WX} {ts : TA} {env e1 : Env} {rs : List Res} {ds : List D} {Cc Ce : Addr} {fs : List (Str × D)} {b : Bs} {F1 H1 : Hp} {oa : Nat → Addr} {σ : L2.St} {vs : List V} {x dx : Addr}
end
section
variable {P : Program} {w : World} {K : PySem.W.Frag} {mg : Str → Option Value} {base : Heap} {x qn : Str} {st : Stmt} {fa : Addr} {fd : FuncData} {N ps : List Str} {k : Nat}
end
end DL

namespace DL
open PySem L2
/-! ### rows of bits, in plain Lean -/
def gathA (a : Int) (l : List Int) : Int := l.foldl (fun n b => 2 * n + b) a
def gath (l : List Int) : Int := gathA 0 l
def Bits (l : List Int) : Prop := ∀ b, b ∈ l → b = 0 ∨ b = 1
theorem Bits.nil : Bits [] := fun _ h => by cases h
theorem Bits.append {l m : List Int} (h1 : Bits l) (h2 : Bits m) : Bits (l ++ m) := fun b h => by
  rcases List.mem_append.mp h with q | q
  · exact h1 b q
  · exact h2 b q
/-! bytes in bits -/
def val (l : List Int) : Int := l.foldl (fun n b => n * 256 + b) 0
end DL
namespace DL
open PySem L2
theorem sIx_some {n d : Nat} {v : Int} (h : 0 ≤ v) : HT.sIx n d (some v) = min v.toNat n := by
  show (if v < 0 then (v + (n : Int)).toNat else min v.toNat n) = _
  rw [if_neg (by omega)]
end DL

/-! ### texts: one sign in a text, join, index; a written dict; reversed(range(n)) -/
namespace DL
open PySem L2
def rSign (neg : Bool) : R2 := fun x y H Q => ∃ (c : Nat) (z : Str), x = .str ⟨#[c]⟩ ∧ y = .str z ∧ Q (.bl (if neg then !decide (c ∈ z.cps.toList) else decide (c ∈ z.cps.toList))) H
def rJoin (K : PySem.W.Frag) : V → List V → Hp → VK → Prop := fun x xs H Q => ∃ a p, ∃ ys : List Str, x = .str a ∧ xs = [.ref p] ∧ (SqL K H p (ys.map V.str) ∨ SqT K H p (ys.map V.str)) ∧
    (ys.map (·.length)).sum + ys.length * a.length ≤ 16777216 ∧ Q (.str (Txt.join a ys)) H
def rIdxS : V → List V → Hp → VK → Prop := fun x xs H Q => ∃ (a b : Str) (k : Nat), x = .str a ∧ xs = [.str b] ∧ Txt.index0 a b = some k ∧ Q (.int (k : Nat)) H
section
variable {X : Cx} {o e : Expr} {to te : TE} {apos pos : Pos}
end
section
variable {K : PySem.W.Frag} {e env e1 e2 : Env} {to te : TE} {r : Res} {a b z : Str} {ys : List Str} {k : Nat} {c : Nat} {neg : Bool} {da : Addr} {w : World} {d : D} {n : Int}
end
end DL

/-! ## dicts whose keys are nested tuples of ints (and None): told by what is true of their one object -/
namespace L2
open PySem PySem.Spec PyProof.Rows
mutual
def hash0 : NestedKey → Int
  | .none => reduceHash 0xFCA86420
  | .num i => hashInt i
  | .text _ => 0
  | .tup ks => reduceHash (Builtin.Tuple.tupleHashOf (hashes0 ks))
def hashes0 : List NestedKey → List Int
  | [] => []
  | k :: ks => hash0 k :: hashes0 ks
end
mutual
/-- the value is the key -/
inductive NKey (H : Hp) : V → NestedKey → Prop
  | non : NKey H .non .none
  | int (i : Int) : NKey H (.int i) (.num i)
  | tup {a : Addr} {vs : List V} {ks : List NestedKey} : H a = some (.tup vs) → NKeys H vs ks → NKey H (.ref a) (.tup ks)
inductive NKeys (H : Hp) : List V → List NestedKey → Prop
  | nil : NKeys H [] []
  | cons {v : V} {k : NestedKey} {vs : List V} {ks : List NestedKey} : NKey H v k → NKeys H vs ks → NKeys H (v :: vs) (k :: ks)
end
section
variable {P : Program} {w : World} {H H' : Hp} {h : Heap}
mutual
theorem NKey.mono (e : ∀ a xs, H a = some (.tup xs) → H' a = some (.tup xs)) : ∀ {v : V} {k : NestedKey}, NKey H v k → NKey H' v k
  | _, _, .non => .non
  | _, _, .int i => .int i
  | _, _, .tup h r => .tup (e _ _ h) (NKeys.mono e r)
theorem NKeys.mono (e : ∀ a xs, H a = some (.tup xs) → H' a = some (.tup xs)) : ∀ {vs : List V} {ks : List NestedKey}, NKeys H vs ks → NKeys H' vs ks
  | _, _, .nil => .nil
  | _, _, .cons h r => .cons (NKey.mono e h) (NKeys.mono e r)
end
mutual
theorem NKey.is (ok : HOk P w H h) : ∀ {v : V} {k : NestedKey} {u : Value}, NKey H v k → RelV v u → NestedIs h k u
  | _, _, _, .non, r => by cases r; exact .none
  | _, _, _, .int i, r => by obtain ⟨t, rfl⟩ := r; exact .int i t
  | _, _, _, .tup (vs := vs) e q, r => by
    cases r
    obtain ⟨_, its, rv, o, ho, hc, n, hd⟩ := (show ObjOk P w H h _ (.tup vs) from ok _ _ e)
    exact .tup ho hc hd (by simpa using NKeys.is ok q rv)
theorem NKeys.is (ok : HOk P w H h) : ∀ {vs : List V} {ks : List NestedKey} {us : List Value}, NKeys H vs ks → Vals vs us → NestedAll h ks us
  | _, _, _, .nil, r => by cases r; exact .nil
  | _, _, _, .cons h1 t, r => by
    cases r with
    | cons r1 r2 => exact .cons (NKey.is ok h1 r1) (NKeys.is ok t r2)
end
end
def ndE (x : NestedKey × Addr × Value) : DictEntry := ⟨hash0 x.1, .ref x.2.1, x.2.2⟩
def NdV : (NestedKey × Addr × V) → (NestedKey × Addr × Value) → Prop := fun p q => p.1 = q.1 ∧ p.2.1 = q.2.1 ∧ RelV p.2.2 q.2.2
/-- the dict's own object at a -/
def NdO (a : Addr) (kvs : List (NestedKey × Addr × V)) : HO := .ext fun h => ∃ xs : List (NestedKey × Addr × Value), Paired NdV kvs xs ∧ ∃ (o : Obj) (es : Array DictEntry) (ep : Nat), h.get? a = some o ∧ o.ExactDict ∧ o.data = .dict es ep ∧ es.toList = xs.map ndE
structure NdOk (H : Hp) (a : Addr) (kvs : List (NestedKey × Addr × V)) : Prop where
  sm : (a == sysModules) = false
  sz : kvs.length ≤ sizeLine
  nd : (kvs.map (·.1)).Nodup
  ks : ∀ e ∈ kvs, NKey H (.ref e.2.1) e.1 ∧ e.1.depth ≤ 8
theorem NdOk.mono {H H' : Hp} {a : Addr} {kvs : List (NestedKey × Addr × V)} (h : NdOk H a kvs) (e : ∀ a xs, H a = some (.tup xs) → H' a = some (.tup xs)) : NdOk H' a kvs := ⟨h.sm, h.sz, h.nd, fun x hx => ⟨(h.ks x hx).1.mono e, (h.ks x hx).2⟩⟩
theorem exists_val : ∀ v : V, ∃ u, RelV v u
  | .non => ⟨_, rfl⟩
  | .bl _ => ⟨_, rfl⟩
  | .int i => ⟨.int i 0, 0, rfl⟩
  | .str x => ⟨.str x 0, 0, rfl⟩
  | .byt b => ⟨.bytes b 0, 0, rfl⟩
  | .flt b => ⟨.float b 0, 0, rfl⟩
  | .ref _ => ⟨_, rfl⟩
  | .ty _ => ⟨_, rfl⟩
theorem ndO_code (a : Addr) (kvs : List (NestedKey × Addr × V)) (c : Addr) (q : Str) : NdO a kvs ≠ LamX.CodeO c q := fun z => by
  unfold NdO LamX.CodeO at z
  injection z with z
  have pv : ∃ xs : List (NestedKey × Addr × Value), Paired NdV kvs xs := by
    clear z
    induction kvs with
    | nil => exact ⟨[], .nil⟩
    | cons e r ih =>
      obtain ⟨xs, hx⟩ := ih
      obtain ⟨u, hu⟩ := exists_val e.2.2
      exact ⟨(e.1, e.2.1, u) :: xs, .cons ⟨rfl, rfl, hu⟩ hx⟩
  obtain ⟨xs, hx⟩ := pv
  let ob : Obj := { cls := .type "dict", data := .dict (xs.map ndE).toArray }
  let hh : Heap := ⟨Array.replicate (a + c + 1) ob, {}⟩
  have ga : ∀ b, b ≤ a + c → hh.get? b = some ob := fun b hb => by
    have e : hh.objs[b]? = some ob := by
      show (Array.replicate (a + c + 1) ob)[b]? = some ob
      rw [Array.getElem?_replicate, if_pos (Nat.lt_succ_of_le hb)]
    unfold Heap.get?
    rw [e]
  have h1 := congrFun z hh
  have h2 : ∃ xs : List (NestedKey × Addr × Value), Paired NdV kvs xs ∧ ∃ (o : Obj) (es : Array DictEntry) (ep : Nat), hh.get? a = some o ∧ o.ExactDict ∧ o.data = .dict es ep ∧ es.toList = xs.map ndE :=
    ⟨xs, hx, ob, (xs.map ndE).toArray, 0, ga a (Nat.le_add_right a c), ⟨rfl, rfl, rfl⟩, rfl, by simp⟩
  rw [h1] at h2
  obtain ⟨oc, vs, t, e1, e2, _⟩ := h2
  rw [ga c (Nat.le_add_left c a)] at e1
  cases e1
  cases e2
section
variable {X : Cx} {pins : List (Addr × Obj)} {σ : St} {H : Hp} {s : Shared} {a : Addr} {y v d : V} {u r : Value} {A : Around} {E : Value → Shared → Prop} {kvs : List (NestedKey × Addr × V)} {k : NestedKey}
/-- the key at hand -/
def NK (H : Hp) (y : V) (k : NestedKey) : Prop := ∃ b, y = .ref b ∧ NKey H y k ∧ k.depth ≤ 8
theorem NK.is (I : Inv X pins σ H s) (h : NK H y k) (ry : RelV y u) : ∃ b, u = .ref b ∧ y = .ref b ∧ (nestedKind X.prog X.w).is s.heap k b := by
  obtain ⟨b, rfl, h1, h2⟩ := h
  obtain rfl : u = Value.ref b := ry
  exact ⟨b, rfl, rfl, h1.is I.hok rfl, h2⟩
end
end L2

/-! ## plain functions for the defs (no program in sight) -/
namespace SM
open PySem L2

/-- data; an object that may change is told by its place in a plain heap -/
inductive D where
  | non | bl (b : Bool) | int (i : Int) | str (x : Str) | ty (n : String)
  | tup (l : List D) | wt (l : List D) | scr (l : List D) | ref (i : Nat) | nm (x : String) | exc (C : String)
instance : Inhabited D := ⟨.non⟩
inductive O where
  | lst (l : List D)
  /-- t: its keys are tuples; lk: a loop walks it -/
  | dic (t lk : Bool) (kvs : List (D × D))
  | obj (C : String) (fs : List (String × D))
  /-- a dict whose keys are nested tuples -/
  | nd (l : List (NestedKey × D))
abbrev Hs := List O
abbrev Sl := List (Option D)
inductive RE (α : Type) where
  | ok (a : α) (A : Hs) | exc (C : String) (A : Hs) | stuck
def RE.bind {α β : Type} (r : RE α) (f : α → Hs → RE β) : RE β := match r with
  | .ok a A => f a A
  | .exc C A => .exc C A
  | .stuck => .stuck
/-- an exception has no road from here -/
def RE.noX {α : Type} : RE α → RE α
  | .ok a A => .ok a A
  | _ => .stuck
abbrev E := Sl → Hs → RE D
abbrev Tt := Sl → Hs → RE Bool
abbrev As := Sl → Hs → RE (List D)
abbrev Fn := List D → Hs → RE D
inductive RS where
  | nx (σ : Sl) (A : Hs) | bk (σ : Sl) (A : Hs) | ct (σ : Sl) (A : Hs) | rt (d : D) (A : Hs) | exc (C : String) (σ : Sl) (A : Hs) | stuck
abbrev S := Sl → Hs → RS
/-- a new object -/
def alloc (A : Hs) (o : O) : RE D := .ok (.ref A.length) (A ++ [o])

def eVar (i : Nat) : E := fun env A => match env[i]? with
  | some (some d) => .ok d A
  | _ => .stuck
def eC (d : D) : E := fun _ A => .ok d A
def eOp (o : D → D → Hs → RE D) (a b : E) : E := fun env A => (a env A).bind fun x A1 => (b env A1).bind fun y A2 => o x y A2
def eUn (o : D → Hs → RE D) (a : E) : E := fun env A => (a env A).bind fun x A1 => o x A1
def aNil : As := fun _ A => .ok [] A
def aCons (a : E) (as : As) : As := fun env A => (a env A).bind fun x A1 => (as env A1).bind fun xs A2 => .ok (x :: xs) A2
def eCB (f : List D → Hs → RE D) (as : As) : E := fun env A => (as env A).bind fun ds A1 => f ds A1
/-- a call where nothing that is raised has a road -/
def eCall0 (f : Fn) (as : As) : E := fun env A => (as env A).bind fun ds A1 => (f ds A1).noX
def eCall (f : Fn) (as : As) : E := fun env A => (as env A).bind fun ds A1 => f ds A1
def make (C : String) (f : Fn) (ds : List D) (A1 : Hs) : RE D := match f (.ref A1.length :: ds) (A1 ++ [.obj C []]) with
    | .ok .non A2 => .ok (.ref A1.length) A2
    | .exc X A2 => .exc X A2
    | _ => .stuck
def eMake0 (C : String) (f : Fn) (as : As) : E := fun env A => (as env A).bind fun ds A1 => (make C f ds A1).noX
def eMake (C : String) (f : Fn) (as : As) : E := fun env A => (as env A).bind fun ds A1 => make C f ds A1
/-- the class of an object, its fields -/
def objAt (A : Hs) : D → Option (String × List (String × D))
  | .ref i => match A[i]? with
    | some (.obj C fs) => some (C, fs)
    | _ => none
  | _ => none
/-- what holds of all -/
def AllC (P : String → Prop) : List String → Prop
  | [] => True
  | c :: r => P c ∧ AllC P r
theorem AllC.of {P : String → Prop} {c : String} : ∀ {l : List String}, AllC P l → c ∈ l → P c
  | _ :: r, h, q => by
    rcases List.mem_cons.mp q with z | z
    · rw [z]; exact h.1
    · exact AllC.of h.2 z
def methOf (m : String) (tbl : List (String × Fn)) (A : Hs) (x : D) : Option Fn := match objAt A x with
  | some (C, fs) => if (fs.lookup m).isSome then none else tbl.lookup C
  | none => none
def eMeth (m : String) (tbl : List (String × Fn)) (o : E) (as : As) : E := fun env A => (o env A).bind fun x A1 => match methOf m tbl A1 x with
  | some f => (as env A1).bind fun ds A2 => f (x :: ds) A2
  | none => .stuck
def eMeth0 (m : String) (tbl : List (String × Fn)) (o : E) (as : As) : E := fun env A => (o env A).bind fun x A1 => match methOf m tbl A1 x with
  | some f => (as env A1).bind fun ds A2 => (f (x :: ds) A2).noX
  | none => .stuck
/-- o.f, o of one of the classes cs -/
def getFld (cs : List String) (f : String) (A : Hs) (x : D) : Option D := match objAt A x with
  | some (C, fs) => if C ∈ cs then fs.lookup f else none
  | none => none
def eFld (cs : List String) (f : String) (o : E) : E := fun env A => (o env A).bind fun x A1 => match getFld cs f A1 x with
  | some d => .ok d A1
  | none => .stuck
def eAnd (a b : E) : E := fun env A => (a env A).bind fun x A1 => match x with
  | .bl true => b env A1
  | .bl false => .ok (.bl false) A1
  | _ => .stuck
def eOr (a b : E) : E := fun env A => (a env A).bind fun x A1 => match x with
  | .bl false => b env A1
  | .bl true => .ok (.bl true) A1
  | _ => .stuck
def eNot (a : E) : E := fun env A => (a env A).bind fun x A1 => match x with
  | .bl c => .ok (.bl (!c)) A1
  | _ => .stuck
/-- a < b < c -/
def eCh (o o' : D → D → Hs → RE D) (a b c : E) : E := fun env A => (a env A).bind fun x A1 => (b env A1).bind fun y A2 => (o x y A2).bind fun z A3 => match z with
  | .bl false => .ok (.bl false) A3
  | .bl true => (c env A3).bind fun w A4 => o' y w A4
  | _ => .stuck
def tOf (a : E) : Tt := fun env A => (a env A).bind fun x A1 => match x with
  | .bl c => .ok c A1
  | _ => .stuck
def tAn (a b : Tt) : Tt := fun env A => (a env A).bind fun c A1 => if c = true then b env A1 else .ok false A1
def tOo (a b : Tt) : Tt := fun env A => (a env A).bind fun c A1 => if c = true then .ok true A1 else b env A1
def tNo (a : Tt) : Tt := fun env A => (a env A).bind fun c A1 => .ok (!c) A1
def tYe : Tt := fun _ A => .ok true A
def eIf (t : Tt) (a b : E) : E := fun env A => (t env A).bind fun c A1 => if c = true then a env A1 else b env A1
def eTup (as : As) : E := fun env A => (as env A).bind fun ds A1 => if ds.length ≤ sizeLine then .ok (.tup ds) A1 else .stuck
def eLst (as : As) : E := fun env A => (as env A).bind fun ds A1 => if ds.length ≤ sizeLine then alloc A1 (.lst ds) else .stuck
def eDNew (t : Bool) : E := fun _ A => alloc A (.dic t false [])
def oNo : Sl → Hs → RE (Option Int) := fun _ A => .ok none A
def oSo (a : E) : Sl → Hs → RE (Option Int) := fun env A => (a env A).bind fun x A1 => match x with
  | .int i => .ok (some i) A1
  | _ => .stuck
def eSl (o : D → Option Int → Option Int → Hs → RE D) (a : E) (l h : Sl → Hs → RE (Option Int)) : E := fun env A => (a env A).bind fun x A1 => (l env A1).bind fun lo A2 => (h env A2).bind fun hi A3 => o x lo hi A3

/-! ### statements -/
def sSeq (a b : S) : S := fun env A => match a env A with
  | .nx env' A' => b env' A'
  | r => r
def sNx : S := fun env A => .nx env A
def sBk : S := fun env A => .bk env A
def sCt : S := fun env A => .ct env A
def ofE (env : Sl) (r : RE D) (k : D → Hs → RS) : RS := match r with
  | .ok d A => k d A
  | .exc C A => .exc C env A
  | .stuck => .stuck
def ofT (env : Sl) (r : RE Bool) (k : Bool → Hs → RS) : RS := match r with
  | .ok d A => k d A
  | .exc C A => .exc C env A
  | .stuck => .stuck
def sDrop (a : E) : S := fun env A => ofE env (a env A) fun _ A1 => .nx env A1
def sRet (a : E) : S := fun env A => ofE env (a env A) fun d A1 => .rt d A1
def sRetN : S := fun _ A => .rt .non A
def sIf (t : Tt) (a b : S) : S := fun env A => ofT env (t env A) fun c A1 => if c = true then a env A1 else b env A1
/-- targets -/
abbrev G := D → Sl → Hs → Option Sl
def gN (i : Nat) : G := fun d env _ => some (env.set i (some d))
def gAll : List G → List D → Sl → Hs → Option Sl
  | [], [], env, _ => some env
  | g :: gs, d :: ds, env, A => match g d env A with
    | some env' => gAll gs ds env' A
    | none => none
  | _, _, _, _ => none
def gT (gs : List G) : G := fun d env A => match d with
  | .tup ds => gAll gs ds env A
  | _ => none
def sAsg (a : E) (g : G) : S := fun env A => ofE env (a env A) fun d A1 => match g d env A1 with
  | some env' => .nx env' A1
  | none => .stuck
def sSet (i : Nat) (a : E) : S := fun env A => ofE env (a env A) fun d A1 => .nx (env.set i (some d)) A1
/-- a, b = x, y -/
def sPar (i j : Nat) (as : As) : S := fun env A => match as env A with
  | .ok [x, y] A1 => .nx ((env.set i (some x)).set j (some y)) A1
  | .exc C A1 => .exc C env A1
  | _ => .stuck
def sAug (i : Nat) (o : D → D → Hs → RE D) (a : E) : S := fun env A => match env[i]? with
  | some (some x) => ofE env (a env A) fun y A1 => ofE env (o x y A1) fun z A2 => .nx (env.set i (some z)) A2
  | _ => .stuck
def putF (f : String) (d : D) : List (String × D) → List (String × D)
  | [] => [(f, d)]
  | (g, e) :: r => if g = f then (g, d) :: r else (g, e) :: putF f d r
def setFld (cs : List String) (A : Hs) (x : D) (f : String) (d : D) : Option Hs := match x with
  | .ref i => match A[i]? with
    | some (.obj C fs) => if C ∈ cs ∧ fs.length < 999 then some (A.set i (.obj C (putF f d fs))) else none
    | _ => none
  | _ => none
/-- o.f = e -/
def sFl (cs : List String) (f : String) (o a : E) : S := fun env A => ofE env (a env A) fun d A1 => ofE env (o env A1) fun x A2 => match setFld cs A2 x f d with
  | some A3 => .nx env A3
  | none => .stuck
/-- o.f op= e -/
def sFlAug (cs : List String) (f : String) (op : D → D → Hs → RE D) (o a : E) : S := fun env A => ofE env (o env A) fun x A1 => match getFld cs f A1 x with
  | some v => ofE env (a env A1) fun y A2 => ofE env (op v y A2) fun z A3 => match setFld cs A3 x f z with
    | some A4 => .nx env A4
    | none => .stuck
  | none => .stuck
/-- what is walked: the items; what must stand for the walk to go on -/
structure Wk where
  ds : List D
  gd : Hs → Prop
open Classical in
noncomputable def forL (g : G) (b : S) (gd : Hs → Prop) : List D → S
  | [], env, A => if gd A then .nx env A else .stuck
  | d :: ds, env, A => if gd A then match g d env A with
    | some env1 => match b env1 A with
      | .nx env2 A2 => forL g b gd ds env2 A2
      | .ct env2 A2 => forL g b gd ds env2 A2
      | .bk env2 A2 => .nx env2 A2
      | r => r
    | none => .stuck
    else .stuck
noncomputable def sFor (w : Sl → Hs → RE Wk) (g : G) (b : S) : S := fun env A => match w env A with
  | .ok k A1 => forL g b k.gd k.ds env A1
  | .exc C A1 => .exc C env A1
  | .stuck => .stuck
/-- some turns of a while -/
def whN (t : Tt) (b : S) : Nat → S
  | 0, _, _ => .stuck
  | n + 1, env, A => ofT env (t env A) fun c A1 => if c = true then match b env A1 with
      | .nx env2 A2 => whN t b n env2 A2
      | .ct env2 A2 => whN t b n env2 A2
      | .bk env2 A2 => .nx env2 A2
      | r => r
    else .nx env A1
open Classical in
noncomputable def sWh (t : Tt) (b : S) : S := fun env A => if h : ∃ n, whN t b n env A ≠ .stuck then whN t b h.choose env A else .stuck
/-- the slots of a block's own names, not known -/
def wipeS (env : Sl) : List Nat → Sl
  | [] => env
  | v :: vs => (wipeS env vs).set v none
open Classical in
noncomputable def lcL (g : G) (t : Tt) (a : E) (gd : Hs → Prop) (env : Sl) : List D → List D → Hs → RE (List D)
  | [], acc, A => if gd A then .ok acc A else .stuck
  | d :: ds, acc, A => if gd A then match g d env A with
    | some env1 => match t env1 A with
      | .ok true A1 => match a env1 A1 with
        | .ok x A2 => if acc.length < sizeLine then lcL g t a gd env ds (acc ++ [x]) A2 else .stuck
        | _ => .stuck
      | .ok false A1 => lcL g t a gd env ds acc A1
      | _ => .stuck
    | none => .stuck
    else .stuck
/-- a list comprehension; vs: the block's own slots -/
noncomputable def eLc (w : Sl → Hs → RE Wk) (g : G) (t : Tt) (a : E) (vs : List Nat) : E := fun env A => (w env A).bind fun k A1 => match lcL g t a k.gd (wipeS env vs) k.ds [] A1 with
  | .ok l A2 => alloc A2 (.lst l)
  | _ => .stuck
/-- a def by its body: n parameters, m names -/
def mkFn (n m : Nat) (b : S) : Fn := fun ds A => if ds.length = n then match b (ds.map some ++ List.replicate (m - n) none) A with
    | .nx _ A' => .ok .non A'
    | .rt d A' => .ok d A'
    | .exc C _ A' => .exc C A'
    | _ => .stuck
  else .stuck
/-- raise C('..') -/
def sRaise (C : String) : S := fun env A => .exc C env A
/-- try: b / except (catches) as i: slot j = it -/
def sTryK (catches : List String) (i j : Nat) (b : S) : S := fun env A => match b env A with
  | .exc C env1 A1 => if C ∈ catches then .nx (((env1.set i (some (.exc C))).set j (some (.exc C))).set i none) A1 else .stuck
  | r => r
/-- try: b / except (catches): s -/
def sTryO (catches : List String) (b s : S) : S := fun env A => match b env A with
  | .exc C env1 A1 => if C ∈ catches then s env1 A1 else .stuck
  | r => r

theorem whN_mono {t : Tt} {b : S} : ∀ {n : Nat} {env : Sl} {A : Hs}, whN t b n env A ≠ .stuck → whN t b (n + 1) env A = whN t b n env A := by
  intro n
  induction n with
  | zero => intro env A h; exact absurd rfl h
  | succ n ih =>
    intro env A h
    unfold whN at h ⊢
    cases ht : t env A with
    | stuck => rw [ht] at h; rfl
    | exc C A1 => rfl
    | ok c A1 =>
      rw [ht] at h
      cases c with
      | false => rfl
      | true =>
        simp only [ofT, if_true] at h ⊢
        cases hb : b env A1 with
        | nx e2 A2 => rw [hb] at h; exact ih h
        | ct e2 A2 => rw [hb] at h; exact ih h
        | bk _ _ => rfl
        | rt _ _ => rfl
        | exc _ _ _ => rfl
        | stuck => rfl
theorem whN_le {t : Tt} {b : S} {env : Sl} {A : Hs} {n k : Nat} (h : whN t b n env A ≠ .stuck) : whN t b (n + k) env A = whN t b n env A := by
  induction k with
  | zero => rfl
  | succ k ih => rw [← ih, ← Nat.add_assoc]; exact whN_mono (by rw [ih]; exact h)
theorem sWh_eq {t : Tt} {b : S} {env : Sl} {A : Hs} {n : Nat} (h : whN t b n env A ≠ .stuck) : sWh t b env A = whN t b n env A := by
  have hx : ∃ n, whN t b n env A ≠ .stuck := ⟨n, h⟩
  unfold sWh
  rw [dif_pos hx]
  have h2 := hx.choose_spec
  rcases Nat.le_total hx.choose n with q | q
  · have := whN_le (k := n - hx.choose) h2
    rw [show hx.choose + (n - hx.choose) = n by omega] at this
    exact this.symm
  · have := whN_le (k := hx.choose - n) h
    rw [show n + (hx.choose - n) = hx.choose by omega] at this
    exact this
/-- one turn -/
theorem sWh_turn {t : Tt} {b : S} {env : Sl} {A : Hs} : sWh t b env A = ofT env (t env A) fun c A1 => if c = true then match b env A1 with
      | .nx env2 A2 => sWh t b env2 A2
      | .ct env2 A2 => sWh t b env2 A2
      | .bk env2 A2 => .nx env2 A2
      | r => r
    else .nx env A1 := by
  have back : ∀ {env : Sl} {A : Hs}, sWh t b env A ≠ .stuck → ∃ n, whN t b n env A ≠ .stuck := fun {env A} h => by
    unfold sWh at h
    split at h
    · assumption
    · exact absurd rfl h
  have stk : ∀ {env : Sl} {A : Hs}, (∀ n, whN t b n env A = .stuck) → sWh t b env A = .stuck := fun {env A} h => by
    unfold sWh
    rw [dif_neg]
    rintro ⟨n, hn⟩
    exact hn (h n)
  cases ht : t env A with
  | stuck =>
    rw [stk fun n => by cases n with
      | zero => rfl
      | succ n => unfold whN; rw [ht]; rfl]
    rfl
  | exc C A1 =>
    have e : whN t b 1 env A = .exc C env A1 := by unfold whN; rw [ht]; rfl
    rw [sWh_eq (n := 1) (by rw [e]; simp), e]
    rfl
  | ok c A1 =>
    cases c with
    | false =>
      have e : whN t b 1 env A = .nx env A1 := by unfold whN; rw [ht]; rfl
      rw [sWh_eq (n := 1) (by rw [e]; simp), e]
      rfl
    | true =>
      simp only [ofT, if_true]
      have e : ∀ n, whN t b (n + 1) env A = match b env A1 with
        | .nx env2 A2 => whN t b n env2 A2
        | .ct env2 A2 => whN t b n env2 A2
        | .bk env2 A2 => .nx env2 A2
        | r => r := fun n => by
        conv => lhs; unfold whN
        rw [ht]; rfl
      have fin : ∀ r, r ≠ .stuck → (∀ n, whN t b (n + 1) env A = r) → sWh t b env A = r := fun r hr h => by rw [sWh_eq (n := 1) (by rw [h 0]; exact hr), h 0]
      have again : ∀ e2 A2, (∀ n, whN t b (n + 1) env A = whN t b n e2 A2) → sWh t b env A = sWh t b e2 A2 := fun e2 A2 h => by
        by_cases q : ∃ n, whN t b n e2 A2 ≠ .stuck
        · obtain ⟨n, hn⟩ := q
          rw [sWh_eq hn, sWh_eq (n := n + 1) (by rw [h n]; exact hn), h n]
        · have q' : ∀ n, whN t b n e2 A2 = .stuck := fun n => Classical.byContradiction fun z => q ⟨n, z⟩
          rw [stk q', stk fun n => by cases n with
            | zero => rfl
            | succ n => rw [h n, q' n]]
      cases hb : b env A1 with
      | nx e2 A2 => exact again e2 A2 fun n => by rw [e, hb]
      | ct e2 A2 => exact again e2 A2 fun n => by rw [e, hb]
      | bk e2 A2 => exact fin _ (by simp) fun n => by rw [e, hb]
      | rt d A2 => exact fin _ (by simp) fun n => by rw [e, hb]
      | exc C e2 A2 => exact fin _ (by simp) fun n => by rw [e, hb]
      | stuck => exact stk fun n => by cases n with
          | zero => rfl
          | succ n => rw [e, hb]
end SM

/-! ## how the plain functions stand to the program: the relation of the heaps -/
namespace SM
open PySem L2
open DL (Ex ExK)

/-- where the names' things stand; T: the tables of code objects, the names in them -/
structure CaT where
  fn : String → Addr
  T : List (Addr × Str)
instance : CoeFun CaT (fun _ => String → Addr) := ⟨CaT.fn⟩
/-- free, or a table of code objects -/
def Fr1 (H : Hp) (a : Addr) : Prop := ∀ u, H a = some u → ∃ ps, u = .tbl ps
theorem Fr1.none {H : Hp} {a : Addr} (h : H a = none) : Fr1 H a := fun u e => by rw [h] at e; cases e
theorem Fr1.back {H H' : Hp} {a : Addr} (h : Fr1 H' a) (k : ∀ u, H a = some u → H' a = some u) : Fr1 H a := fun u e => h u (k u e)
/-- no table, no code object -/
def Ordy : HO → Prop
  | .lst _ => True
  | .dK _ => True
  | .dT _ => True
  | .ins _ _ _ => True
  | .frz _ _ => True
  | .tup _ => True
  | .ext φ => ∃ a kvs, HO.ext φ = NdO a kvs
  | _ => False
theorem ndO_ordy {a : Addr} {kvs : List (NestedKey × Addr × V)} : Ordy (NdO a kvs) := by
  unfold NdO; exact ⟨a, kvs, rfl⟩
theorem Ordy.tbl {u : HO} (o : Ordy u) (ps : Array Value) : u ≠ .tbl ps := fun z => by rw [z] at o; exact o
theorem Ordy.code {u : HO} (o : Ordy u) (c : Addr) (q : Str) : u ≠ LamX.CodeO c q := fun z => by
  rw [z] at o
  obtain ⟨a, kvs, e⟩ := (show ∃ a kvs, LamX.CodeO c q = NdO a kvs from o)
  exact ndO_code a kvs c q e.symm
theorem Fr1.no {H : Hp} {a : Addr} {u : HO} (h : Fr1 H a) (e : H a = some u) (o : Ordy u) : False := by
  obtain ⟨ps, z⟩ := h u e
  exact o.tbl ps z
theorem tabs_upd {T : List (Addr × Str)} {H : Hp} {a : Addr} {u w : HO} (h : LamX.Tabs T H) (e : H a = some w) (o : Ordy w) : LamX.Tabs T (upd H a u) := fun p hp => by
  obtain ⟨ps, h1, h2, h3⟩ := h p hp
  refine ⟨ps, ?_, h2, fun pos cv hc => ?_⟩
  · rw [upd_ne fun z => by rw [z, e] at h1; exact o.tbl ps (Option.some.inj h1)]; exact h1
  · obtain ⟨c, e1, e2⟩ := h3 pos cv hc
    exact ⟨c, e1, by rw [upd_ne fun z => by rw [z, e] at e2; exact o.code _ _ (Option.some.inj e2)]; exact e2⟩
/-- m begins m' -/
abbrev Pre (m m' : List Addr) : Prop := ∃ r, m' = m ++ r
theorem Pre.refl (m : List Addr) : Pre m m := ⟨[], by simp⟩
theorem Pre.trans {a b c : List Addr} (x : Pre a b) (y : Pre b c) : Pre a c := by
  obtain ⟨r, rfl⟩ := x; obtain ⟨s, rfl⟩ := y; exact ⟨r ++ s, by simp⟩
theorem Pre.get {m m' : List Addr} {i : Nat} {a : Addr} (x : Pre m m') (h : m[i]? = some a) : m'[i]? = some a := by
  obtain ⟨r, rfl⟩ := x
  rw [List.getElem?_append_left (List.getElem?_eq_some_iff.mp h).1]; exact h
theorem Pre.mem {m m' : List Addr} {a : Addr} (x : Pre m m') (h : a ∈ m) : a ∈ m' := by
  obtain ⟨r, rfl⟩ := x; exact List.mem_append_left _ h

mutual
inductive Rep (K : PySem.W.Frag) (ca : CaT) (F : Hp) (m : List Addr) : V → D → Prop
  | non : Rep K ca F m .non .non
  | bl (b : Bool) : Rep K ca F m (.bl b) (.bl b)
  | int (i : Int) : Rep K ca F m (.int i) (.int i)
  | str (x : Str) : Rep K ca F m (.str x) (.str x)
  | ty (n : String) : Rep K ca F m (.ty n) (.ty n)
  | tup {a : Addr} {vs : List V} {l : List D} : F a = some (.tup vs) → RepL K ca F m vs l → Rep K ca F m (.ref a) (.tup l)
  | wt {a : Addr} {vs : List V} {l : List D} : SqT K F a vs → RepL K ca F m vs l → Rep K ca F m (.ref a) (.wt l)
  | scr {a : Addr} {vs : List V} {l : List D} : SqL K F a vs → RepL K ca F m vs l → Rep K ca F m (.ref a) (.scr l)
  | ref {a : Addr} {i : Nat} : m[i]? = some a → Rep K ca F m (.ref a) (.ref i)
  | nm (x : String) : Rep K ca F m (.ref (ca x)) (.nm x)
  | exc {a : Addr} {C : String} : F a = some (ExK (ca C) a) → Rep K ca F m (.ref a) (.exc C)
inductive RepL (K : PySem.W.Frag) (ca : CaT) (F : Hp) (m : List Addr) : List V → List D → Prop
  | nil : RepL K ca F m [] []
  | cons {v : V} {vs : List V} {d : D} {ds : List D} : Rep K ca F m v d → RepL K ca F m vs ds → RepL K ca F m (v :: vs) (d :: ds)
end
section
variable {K : PySem.W.Frag} {ca : CaT} {F F' : Hp} {m m' : List Addr}
mutual
theorem Rep.mono (e : Ex F F') (p : Pre m m') : ∀ {v : V} {d : D}, Rep K ca F m v d → Rep K ca F' m' v d
  | _, _, .non => .non
  | _, _, .bl b => .bl b
  | _, _, .int i => .int i
  | _, _, .str x => .str x
  | _, _, .ty n => .ty n
  | _, _, .tup h r => .tup (e _ _ h) (RepL.mono e p r)
  | _, _, .wt h r => .wt (e.t h) (RepL.mono e p r)
  | _, _, .scr h r => .scr (e.l h) (RepL.mono e p r)
  | _, _, .ref h => .ref (p.get h)
  | _, _, .nm x => .nm x
  | _, _, .exc h => .exc (e _ _ h)
theorem RepL.mono (e : Ex F F') (p : Pre m m') : ∀ {vs : List V} {ds : List D}, RepL K ca F m vs ds → RepL K ca F' m' vs ds
  | _, _, .nil => .nil
  | _, _, .cons h r => .cons (Rep.mono e p h) (RepL.mono e p r)
end
theorem RepL.length : ∀ {vs : List V} {ds : List D}, RepL K ca F m vs ds → vs.length = ds.length
  | _, _, .nil => rfl
  | _, _, .cons _ r => by rw [List.length_cons, List.length_cons, r.length]
theorem RepL.get : ∀ {vs : List V} {ds : List D} {i : Nat} {d : D}, RepL K ca F m vs ds → ds[i]? = some d → ∃ v, vs[i]? = some v ∧ Rep K ca F m v d
  | _, _, _, _, .nil, h => by simp at h
  | _, _, 0, _, .cons h _, e => by simp at e; subst e; exact ⟨_, rfl, h⟩
  | _, _, i + 1, _, .cons _ r, e => by
    obtain ⟨v, h1, h2⟩ := RepL.get (i := i) r (by simpa using e)
    exact ⟨v, by simpa using h1, h2⟩
theorem RepL.append : ∀ {vs ws : List V} {ds es : List D}, RepL K ca F m vs ds → RepL K ca F m ws es → RepL K ca F m (vs ++ ws) (ds ++ es)
  | _, _, _, _, .nil, s => s
  | _, _, _, _, .cons h r, s => .cons h (RepL.append r s)
theorem RepL.take : ∀ {vs : List V} {ds : List D} (n : Nat), RepL K ca F m vs ds → RepL K ca F m (vs.take n) (ds.take n)
  | _, _, 0, _ => .nil
  | _, _, _ + 1, .nil => .nil
  | _, _, n + 1, .cons h r => .cons h (RepL.take n r)
theorem RepL.drop : ∀ {vs : List V} {ds : List D} (n : Nat), RepL K ca F m vs ds → RepL K ca F m (vs.drop n) (ds.drop n)
  | _, _, 0, r => r
  | _, _, _ + 1, .nil => .nil
  | _, _, n + 1, .cons _ r => RepL.drop n r
theorem RepL.set {v : V} {d : D} (h : Rep K ca F m v d) : ∀ {vs : List V} {ds : List D} (n : Nat), RepL K ca F m vs ds → RepL K ca F m (vs.set n v) (ds.set n d)
  | _, _, _, .nil => .nil
  | _, _, 0, .cons _ r => .cons h r
  | _, _, n + 1, .cons q r => .cons q (RepL.set h n r)
theorem RepL.reverse : ∀ {vs : List V} {ds : List D}, RepL K ca F m vs ds → RepL K ca F m vs.reverse ds.reverse
  | _, _, .nil => .nil
  | _, _, .cons h r => by
    rw [List.reverse_cons, List.reverse_cons]
    exact (RepL.reverse r).append (.cons h .nil)
theorem RepL.eraseIdx : ∀ {vs : List V} {ds : List D} (n : Nat), RepL K ca F m vs ds → RepL K ca F m (vs.eraseIdx n) (ds.eraseIdx n)
  | _, _, _, .nil => .nil
  | _, _, 0, .cons _ r => r
  | _, _, n + 1, .cons q r => .cons q (RepL.eraseIdx n r)
theorem RepL.flatRep {vs : List V} {ds : List D} (h : RepL K ca F m vs ds) : ∀ n : Nat, RepL K ca F m (List.replicate n vs).flatten (List.replicate n ds).flatten
  | 0 => .nil
  | n + 1 => by
    rw [List.replicate_succ, List.replicate_succ, List.flatten_cons, List.flatten_cons]
    exact h.append (RepL.flatRep h n)
/-- ints, truths, texts: the values are those of the data -/
theorem RepL.ints : ∀ {vs : List V} {ns : List Int}, RepL K ca F m vs (ns.map D.int) → vs = ns.map V.int
  | _, [], h => by cases h; rfl
  | _, n :: r, h => by
    cases h with
    | cons q t => cases q; rw [RepL.ints t]; rfl
theorem RepL.bools : ∀ {vs : List V} {ns : List Bool}, RepL K ca F m vs (ns.map D.bl) → vs = ns.map V.bl
  | _, [], h => by cases h; rfl
  | _, n :: r, h => by
    cases h with
    | cons q t => cases q; rw [RepL.bools t]; rfl
theorem RepL.of_ints : ∀ {ns : List Int}, RepL K ca F m (ns.map V.int) (ns.map D.int)
  | [] => .nil
  | n :: _ => .cons (.int n) RepL.of_ints
end
/-- keys -/
def kD : Key → D
  | .inl i => .int i
  | .inr x => .str x
def kT (l : List Key) : D := .tup (l.map kD)
theorem kD_inj {a b : Key} (h : kD a = kD b) : a = b := by
  cases a <;> cases b <;> simp [kD] at h <;> rw [h]
inductive KvR (K : PySem.W.Frag) (ca : CaT) (F : Hp) (m : List Addr) {κ δ : Type} (kd : κ → δ) : List (κ × V) → List (δ × D) → Prop
  | nil : KvR K ca F m kd [] []
  | cons {k : κ} {v : V} {d : D} {r : List (κ × V)} {s : List (δ × D)} : Rep K ca F m v d → KvR K ca F m kd r s → KvR K ca F m kd ((k, v) :: r) ((kd k, d) :: s)
theorem KvR.mono {K : PySem.W.Frag} {ca : CaT} {F F' : Hp} {m m' : List Addr} {κ δ : Type} {kd : κ → δ} (e : Ex F F') (p : Pre m m') : ∀ {l : List (κ × V)} {s : List (δ × D)}, KvR K ca F m kd l s → KvR K ca F' m' kd l s
  | _, _, .nil => .nil
  | _, _, .cons h r => .cons (h.mono e p) (KvR.mono e p r)
theorem KvR.length {K : PySem.W.Frag} {ca : CaT} {F : Hp} {m : List Addr} {κ δ : Type} {kd : κ → δ} : ∀ {l : List (κ × V)} {s : List (δ × D)}, KvR K ca F m kd l s → l.length = s.length
  | _, _, .nil => rfl
  | _, _, .cons _ r => by rw [List.length_cons, List.length_cons, KvR.length r]
/-- the object u stands at a, locked or not -/
def At (H : Hp) (a : Addr) : Bool → HO → Prop
  | false, u => H a = some u
  | true, u => ∃ od, H a = some (.frz od u)
def fS (f : String) : Str := ⟨(f.toList.map Char.toNat).toArray⟩
theorem fS_inj {f g : String} : fS f = fS g ↔ f = g := by
  refine ⟨fun h => ?_, fun h => by rw [h]⟩
  unfold fS at h
  injection h with h
  have h2 : f.toList.map Char.toNat = g.toList.map Char.toNat := by
    have := congrArg Array.toList h
    simpa using this
  have inj : ∀ a b : Char, a.toNat = b.toNat → a = b := fun a b e => Char.ext (UInt32.toNat_inj.mp e)
  have h3 : ∀ (l m : List Char), l.map Char.toNat = m.map Char.toNat → l = m := by
    intro l
    induction l with
    | nil => intro m h; cases m with
      | nil => rfl
      | cons _ _ => simp at h
    | cons a l ih =>
      intro m h
      cases m with
      | nil => simp at h
      | cons b m =>
        rw [List.map_cons, List.map_cons] at h
        injection h with h1 h2
        rw [inj a b h1, ih m h2]
  exact String.toList_inj.mp (h3 _ _ h2)
/-- fields by their names -/
inductive FdR (K : PySem.W.Frag) (ca : CaT) (F : Hp) (m : List Addr) : List (Str × V) → List (String × D) → Prop
  | nil : FdR K ca F m [] []
  | cons {f : String} {v : V} {d : D} {r : List (Str × V)} {s : List (String × D)} : Rep K ca F m v d → FdR K ca F m r s → FdR K ca F m ((fS f, v) :: r) ((f, d) :: s)
theorem FdR.mono {K : PySem.W.Frag} {ca : CaT} {F F' : Hp} {m m' : List Addr} (e : Ex F F') (p : Pre m m') : ∀ {l : List (Str × V)} {s : List (String × D)}, FdR K ca F m l s → FdR K ca F' m' l s
  | _, _, .nil => .nil
  | _, _, .cons h r => .cons (h.mono e p) (FdR.mono e p r)
theorem FdR.length {K : PySem.W.Frag} {ca : CaT} {F : Hp} {m : List Addr} : ∀ {l : List (Str × V)} {s : List (String × D)}, FdR K ca F m l s → l.length = s.length
  | _, _, .nil => rfl
  | _, _, .cons _ r => by rw [List.length_cons, List.length_cons, FdR.length r]
inductive NdR (K : PySem.W.Frag) (ca : CaT) (F : Hp) (m : List Addr) : List (NestedKey × Addr × V) → List (NestedKey × D) → Prop
  | nil : NdR K ca F m [] []
  | cons {k : NestedKey} {q : Addr} {v : V} {d : D} {r : List (NestedKey × Addr × V)} {s : List (NestedKey × D)} : Rep K ca F m v d → NdR K ca F m r s → NdR K ca F m ((k, q, v) :: r) ((k, d) :: s)
theorem NdR.mono {K : PySem.W.Frag} {ca : CaT} {F F' : Hp} {m m' : List Addr} (e : Ex F F') (p : Pre m m') : ∀ {l : List (NestedKey × Addr × V)} {s : List (NestedKey × D)}, NdR K ca F m l s → NdR K ca F' m' l s
  | _, _, .nil => .nil
  | _, _, .cons h r => .cons (h.mono e p) (NdR.mono e p r)
theorem NdR.length {K : PySem.W.Frag} {ca : CaT} {F : Hp} {m : List Addr} : ∀ {l : List (NestedKey × Addr × V)} {s : List (NestedKey × D)}, NdR K ca F m l s → l.length = s.length
  | _, _, .nil => rfl
  | _, _, .cons _ r => by rw [List.length_cons, List.length_cons, NdR.length r]
def ORep (K : PySem.W.Frag) (ca : CaT) (F : Hp) (m : List Addr) (H : Hp) (a : Addr) : O → Prop
  | .lst l => ∃ vs, H a = some (.lst vs) ∧ RepL K ca F m vs l
  | .dic false lk l => ∃ kvs, At H a lk (.dK kvs) ∧ KvR K ca F m kD kvs l
  | .dic true lk l => ∃ kvs, At H a lk (.dT kvs) ∧ KvR K ca F m kT kvs l
  | .obj C fs => ∃ dx kvs, H a = some (.ins (ca C) dx kvs) ∧ FdR K ca F m kvs fs
  | .nd l => ∃ kvs, H a = some (NdO a kvs) ∧ NdOk F a kvs ∧ NdR K ca F m kvs l
theorem At.mono {H H' : Hp} {a : Addr} {lk : Bool} {u : HO} (h : At H a lk u) (k : ∀ w, H a = some w → H' a = some w) : At H' a lk u := by
  cases lk with
  | false => exact k _ h
  | true => obtain ⟨od, h⟩ := h; exact ⟨od, k _ h⟩
section
variable {K : PySem.W.Frag} {ca : CaT} {F F' H H' : Hp} {m m' : List Addr} {a : Addr} {o : O}
theorem ORep.mono (h : ORep K ca F m H a o) (e : Ex F F') (p : Pre m m') (k : ∀ u, H a = some u → H' a = some u) : ORep K ca F' m' H' a o := by
  cases o with
  | lst l => obtain ⟨vs, x, r⟩ := h; exact ⟨vs, k _ x, r.mono e p⟩
  | dic t lk l =>
    cases t with
    | false => obtain ⟨kvs, x, r⟩ := h; exact ⟨kvs, x.mono k, r.mono e p⟩
    | true => obtain ⟨kvs, x, r⟩ := h; exact ⟨kvs, x.mono k, r.mono e p⟩
  | obj C fs => obtain ⟨dx, kvs, x, r⟩ := h; exact ⟨dx, kvs, k _ x, r.mono e p⟩
  | nd l => obtain ⟨kvs, x, ok, r⟩ := h; exact ⟨kvs, k _ x, ok.mono fun a xs z => e a _ z, r.mono e p⟩
theorem ORep.ordy (h : ORep K ca F m H a o) : ∃ u, H a = some u ∧ Ordy u := by
  cases o with
  | lst l => obtain ⟨vs, x, r⟩ := h; exact ⟨_, x, trivial⟩
  | dic t lk l =>
    cases t with
    | false =>
      obtain ⟨kvs, x, r⟩ := h
      cases lk with
      | false => exact ⟨_, x, trivial⟩
      | true => obtain ⟨od, x⟩ := x; exact ⟨_, x, trivial⟩
    | true =>
      obtain ⟨kvs, x, r⟩ := h
      cases lk with
      | false => exact ⟨_, x, trivial⟩
      | true => obtain ⟨od, x⟩ := x; exact ⟨_, x, trivial⟩
  | obj C fs => obtain ⟨dx, kvs, x, _⟩ := h; exact ⟨_, x, trivial⟩
  | nd l => obtain ⟨kvs, x, _⟩ := h; exact ⟨_, x, ndO_ordy⟩
theorem ORep.ho (h : ORep K ca F m H a o) : ∃ u, H a = some u := by
  cases o with
  | lst l => obtain ⟨vs, x, r⟩ := h; exact ⟨_, x⟩
  | dic t lk l =>
    cases t with
    | false =>
      obtain ⟨kvs, x, r⟩ := h
      cases lk with
      | false => exact ⟨_, x⟩
      | true => obtain ⟨od, x⟩ := x; exact ⟨_, x⟩
    | true =>
      obtain ⟨kvs, x, r⟩ := h
      cases lk with
      | false => exact ⟨_, x⟩
      | true => obtain ⟨od, x⟩ := x; exact ⟨_, x⟩
  | obj C fs => obtain ⟨dx, kvs, x, _⟩ := h; exact ⟨_, x⟩
  | nd l => obtain ⟨kvs, x, _⟩ := h; exact ⟨_, x⟩
end
/-- the plain heap A is the heap H: m tells where its objects stand, F what never changes -/
structure Rl (K : PySem.W.Frag) (ca : CaT) (F : Hp) (m : List Addr) (A : Hs) (H : Hp) : Prop where
  fh : Ex F H
  len : m.length = A.length
  nd : m.Nodup
  fr : ∀ a ∈ m, F a = none
  ob : ∀ (i : Nat) (o : O) (a : Addr), A[i]? = some o → m[i]? = some a → ORep K ca F m H a o
  tb : LamX.Tabs ca.T H
  ft : ∀ a ps, F a ≠ some (.tbl ps)
/-- what a step leaves -/
structure Stp (F : Hp) (m : List Addr) (H F' : Hp) (m' : List Addr) (H' : Hp) : Prop where
  ff : Ex F F'
  mm : Pre m m'
  kp : ∀ a u, H a = some u → a ∉ m → (∀ ps, u ≠ .tbl ps) → H' a = some u
  gn : ∀ a, F' a ≠ none → F a ≠ none ∨ Fr1 H a ∨ ∃ xs, F' a = some (.tup xs)
  gm : ∀ a, a ∈ m' → a ∈ m ∨ Fr1 H a
  th : ∀ a, Fr1 H' a → Fr1 H a
  fz : ∀ a o u, H a = some (.frz o u) → H' a = some (.frz o u)
structure Slt (K : PySem.W.Frag) (ca : CaT) (F : Hp) (m : List Addr) (σ : L2.St) (env : Sl) : Prop where
  len : σ.length = env.length
  val : ∀ (i : Nat) (d : D), env[i]? = some (some d) → ∃ v : V, σ[i]? = some (some v) ∧ Rep K ca F m v d
section
variable {K : PySem.W.Frag} {ca : CaT} {F F1 F2 H H1 H2 : Hp} {m m1 m2 : List Addr} {A : Hs} {σ : L2.St} {env : Sl} {p : Addr} {u : HO} {o : O} {d : D} {v : V} {i : Nat}
theorem Stp.refl : Stp F m H F m H := ⟨Ex.refl _, Pre.refl _, fun _ _ h _ _ => h, fun a h => .inl h, fun a h => .inl h, fun _ h => h, fun _ _ _ h => h⟩
theorem Stp.trans (x : Stp F m H F1 m1 H1) (y : Stp F1 m1 H1 F2 m2 H2) : Stp F m H F2 m2 H2 := by
  refine ⟨x.ff.trans y.ff, x.mm.trans y.mm, fun a u h n nt => ?_, fun a h => ?_, fun a h => ?_, fun a h => x.th a (y.th a h), fun a o u h => y.fz a o u (x.fz a o u h)⟩
  · refine y.kp a u (x.kp a u h n nt) (fun hm => ?_) nt
    rcases x.gm a hm with q | q
    · exact n q
    · obtain ⟨ps, z⟩ := q u h
      exact nt ps z
  · rcases y.gn a h with q | q | q
    · rcases x.gn a q with z | z | ⟨xs, z⟩
      · exact .inl z
      · exact .inr (.inl z)
      · exact .inr (.inr ⟨xs, y.ff a _ z⟩)
    · exact .inr (.inl (x.th a q))
    · exact .inr (.inr q)
  · rcases y.gm a h with q | q
    · exact x.gm a q
    · exact .inr (x.th a q)
theorem Slt.mono (S : Slt K ca F m σ env) (e : Ex F F1) (p : Pre m m1) : Slt K ca F1 m1 σ env := ⟨S.len, fun i d h => by
  obtain ⟨v, h1, h2⟩ := S.val i d h
  exact ⟨v, h1, h2.mono e p⟩⟩
theorem Slt.stp (S : Slt K ca F m σ env) (x : Stp F m H F1 m1 H1) : Slt K ca F1 m1 σ env := S.mono x.ff x.mm
theorem Slt.set (S : Slt K ca F m σ env) (r : Rep K ca F m v d) : Slt K ca F m (σ.set i (some v)) (env.set i (some d)) := ⟨by simp [S.len], fun j e h => by
  by_cases q : i = j
  · subst q
    rw [List.getElem?_set] at h ⊢
    have l := S.len
    split at h
    · split at h
      · cases h
        refine ⟨v, ?_, r⟩
        simp_all
      · cases h
    · rename_i z; exact absurd rfl z
  · rw [List.getElem?_set_ne q] at h ⊢
    exact S.val j e h⟩
theorem Slt.unset (S : Slt K ca F m σ env) : Slt K ca F m (σ.set i none) (env.set i none) := ⟨by simp [S.len], fun j e h => by
  by_cases q : i = j
  · subst q
    rw [List.getElem?_set] at h
    split at h
    · split at h <;> cases h
    · rename_i z; exact absurd rfl z
  · rw [List.getElem?_set_ne q] at h ⊢
    exact S.val j e h⟩
theorem Rl.ordy (R : Rl K ca F m A H) {a : Addr} (ha : m[i]? = some a) : ∃ u, H a = some u ∧ Ordy u := by
  have il : i < A.length := by rw [← R.len]; exact (List.getElem?_eq_some_iff.mp ha).1
  exact (R.ob i A[i] a (List.getElem?_eq_getElem il) ha).ordy
theorem Rl.ne (R : Rl K ca F m A H) {a : Addr} (h : a ∈ m) : H a ≠ none := by
  obtain ⟨i, hi⟩ := List.getElem?_of_mem h
  have l : i < A.length := by rw [← R.len]; exact (List.getElem?_eq_some_iff.mp hi).1
  obtain ⟨u, hu⟩ := (R.ob i A[i] a (by simp [l]) hi).ho
  rw [hu]; simp
theorem Rl.out (R : Rl K ca F m A H) {a : Addr} (h : H a = none) : a ∉ m := fun q => R.ne q h
/-- a new thing that stands -/
theorem Rl.new (R : Rl K ca F m A H) (n : H p = none) (hu : ∀ ps, u ≠ HO.tbl ps := by intro _ h; cases h) : Rl K ca (upd F p u) m A (upd H p u) ∧ Stp F m H (upd F p u) m (upd H p u) := by
  have nf := R.fh.back n
  refine ⟨⟨R.fh.both, R.len, R.nd, fun a h => ?_, fun i o a h1 h2 => (R.ob i o a h1 h2).mono (Ex.new nf) (Pre.refl _) fun w hw => Ex.new n a w hw, R.tb.ext fun b o h => Ex.new n b o h, fun a ps => ?_⟩, Ex.new nf, Pre.refl _, fun a w h _ _ => Ex.new n a w h, fun a h => ?_, fun a h => .inl h, fun a h => h.back fun u hu => Ex.new n a u hu, fun a o w h => Ex.new n a _ h⟩
  · rw [upd_ne (fun z => R.out n (by rw [← z]; exact h))]; exact R.fr a h
  · by_cases q : a = p
    · subst q; rw [upd_same]; exact fun z => hu ps (Option.some.inj z)
    · rw [upd_ne q]; exact R.ft a ps
  · by_cases q : a = p
    · subst q; exact .inr (.inl (.none n))
    · rw [upd_ne q] at h; exact .inl h
/-- a tuple that stands is known from now on -/
theorem Rl.catch {vs : List V} (R : Rl K ca F m A H) (h : H p = some (.tup vs)) : ∃ F1, Rl K ca F1 m A H ∧ Stp F m H F1 m H ∧ F1 p = some (.tup vs) := by
  have nm : p ∉ m := fun hm => by
    obtain ⟨i, hi⟩ := List.getElem?_of_mem hm
    have l : i < A.length := by rw [← R.len]; exact (List.getElem?_eq_some_iff.mp hi).1
    have r := R.ob i A[i] p (by simp [l]) hi
    cases q : A[i] with
    | lst l => rw [q] at r; obtain ⟨vs, x, _⟩ := r; rw [h] at x; cases x
    | obj C fs => rw [q] at r; obtain ⟨dx, kvs, x, _⟩ := r; rw [h] at x; cases x
    | nd l => rw [q] at r; obtain ⟨kvs, x, _⟩ := r; rw [h] at x; unfold NdO at x; cases x
    | dic t lk l =>
      rw [q] at r
      cases t with
      | false =>
        obtain ⟨kvs, x, _⟩ := r
        cases lk with
        | false => have x : H p = some (.dK kvs) := x; rw [h] at x; cases x
        | true => obtain ⟨od, x⟩ := x; rw [h] at x; cases x
      | true =>
        obtain ⟨kvs, x, _⟩ := r
        cases lk with
        | false => have x : H p = some (.dT kvs) := x; rw [h] at x; cases x
        | true => obtain ⟨od, x⟩ := x; rw [h] at x; cases x
  have e : Ex F (upd F p (.tup vs)) := fun a o ha => by
    by_cases q : a = p
    · subst q
      have := R.fh a o ha
      rw [h] at this
      cases this
      exact upd_same
    · rw [upd_ne q]; exact ha
  refine ⟨upd F p (.tup vs), ⟨fun a o ha => ?_, R.len, R.nd, fun a ha => ?_, fun i o a h1 h2 => (R.ob i o a h1 h2).mono e (Pre.refl _) fun w hw => hw, R.tb, fun a ps => ?_⟩, ⟨e, Pre.refl _, fun a w h _ _ => h, fun a ha => ?_, fun a h => .inl h, fun a h => h, fun a o w h => h⟩, upd_same⟩
  · by_cases q : a = p
    · subst q; rw [upd_same] at ha; cases ha; exact h
    · rw [upd_ne q] at ha; exact R.fh a o ha
  · rw [upd_ne (fun z => nm (by rw [← z]; exact ha))]; exact R.fr a ha
  · by_cases q : a = p
    · subst q; rw [upd_same]; intro z; cases z
    · rw [upd_ne q]; exact R.ft a ps
  · by_cases q : a = p
    · subst q; exact .inr (.inr ⟨vs, upd_same⟩)
    · rw [upd_ne q] at ha; exact .inl ha
/-- a new thing that nobody tracks -/
theorem Rl.newH (R : Rl K ca F m A H) (n : H p = none) : Rl K ca F m A (upd H p u) ∧ Stp F m H F m (upd H p u) := by
  refine ⟨⟨R.fh.trans (Ex.new n), R.len, R.nd, R.fr, fun i o a h1 h2 => (R.ob i o a h1 h2).mono (Ex.refl _) (Pre.refl _) fun w hw => Ex.new n a w hw, R.tb.ext fun b o h => Ex.new n b o h, R.ft⟩, Ex.refl _, Pre.refl _, fun a w h _ _ => Ex.new n a w h, fun a h => .inl h, fun a h => .inl h, fun a h => h.back fun u hu => Ex.new n a u hu, fun a o w h => Ex.new n a _ h⟩
/-- what is there is taken into the plain heap -/
theorem Rl.take (R : Rl K ca F m A H) (n : p ∉ m) (nf : F p = none) (r : ORep K ca F (m ++ [p]) H p o) : Rl K ca F (m ++ [p]) (A ++ [o]) H := by
  refine ⟨R.fh, by simp [R.len], ?_, fun a h => ?_, fun i o' a h1 h2 => ?_, R.tb, R.ft⟩
  · rw [List.nodup_append]
    refine ⟨R.nd, by simp, fun a h b hb e => ?_⟩
    rw [List.mem_singleton] at hb
    exact n (by rw [← hb, ← e]; exact h)
  · rcases List.mem_append.mp h with q | q
    · exact R.fr a q
    · rw [List.mem_singleton] at q; rw [q]; exact nf
  · by_cases q : i < A.length
    · rw [List.getElem?_append_left q] at h1
      rw [List.getElem?_append_left (by rw [R.len]; exact q)] at h2
      exact (R.ob i o' a h1 h2).mono (Ex.refl _) ⟨[p], rfl⟩ fun _ h => h
    · rw [List.getElem?_append_right (Nat.le_of_not_lt q)] at h1
      rw [List.getElem?_append_right (by rw [R.len]; exact Nat.le_of_not_lt q)] at h2
      rw [R.len] at h2
      have e : i - A.length = 0 := by
        have := (List.getElem?_eq_some_iff.mp h1).1
        simp at this; omega
      rw [e] at h1 h2
      cases h1; cases h2; exact r
/-- a new object of the plain heap -/
theorem Rl.alloc (R : Rl K ca F m A H) (n : H p = none) (r : ORep K ca F (m ++ [p]) (upd H p u) p o) : Rl K ca F (m ++ [p]) (A ++ [o]) (upd H p u) ∧ Stp F m H F (m ++ [p]) (upd H p u) ∧ Rep K ca F (m ++ [p]) (.ref p) (.ref A.length) := by
  obtain ⟨R1, g1⟩ := R.newH (u := u) n
  refine ⟨R1.take (R.out n) (R.fh.back n) r, ⟨Ex.refl _, ⟨[p], rfl⟩, g1.kp, g1.gn, fun a h => ?_, g1.th, g1.fz⟩, .ref (by rw [List.getElem?_append_right (by rw [R.len]; exact Nat.le_refl _), R.len]; simp)⟩
  rcases List.mem_append.mp h with q | q
  · exact .inl q
  · rw [List.mem_singleton] at q; exact .inr (by rw [q]; exact .none n)
/-- an object of the plain heap is another one now -/
theorem Rl.put {a : Addr} {o' : O} (R : Rl K ca F m A H) (ha : m[i]? = some a) (nz : ∀ od w, H a ≠ some (.frz od w)) (r : ORep K ca F m (upd H a u) a o') : Rl K ca F m (A.set i o') (upd H a u) ∧ Stp F m H F m (upd H a u) := by
  have hm : a ∈ m := List.mem_of_getElem? ha
  have fa := R.fr a hm
  obtain ⟨w0, e0, o0⟩ := R.ordy ha
  refine ⟨⟨R.fh.right fa, by simp [R.len], R.nd, R.fr, fun j o b h1 h2 => ?_, tabs_upd R.tb e0 o0, R.ft⟩, Ex.refl _, Pre.refl _, fun b w h n _ => ?_, fun a h => .inl h, fun a h => .inl h, fun b h => ?_, fun b od w h => ?_⟩
  · by_cases q : i = j
    · subst q
      rw [ha] at h2; cases h2
      rw [List.getElem?_set] at h1
      split at h1
      · split at h1
        · cases h1; exact r
        · cases h1
      · rename_i z; exact absurd rfl z
    · rw [List.getElem?_set_ne q] at h1
      have nb : b ≠ a := fun z => q (by
        subst z
        exact (List.getElem?_inj (List.getElem?_eq_some_iff.mp ha).1 R.nd).mp (ha.trans h2.symm))
      exact (R.ob j o b h1 h2).mono (Ex.refl _) (Pre.refl _) fun w hw => by rw [upd_ne nb]; exact hw
  · rw [upd_ne fun z => n (by rw [z]; exact hm)]; exact h
  · by_cases q : b = a
    · subst q
      obtain ⟨w1, e1, o1⟩ := r.ordy
      exact (h.no e1 o1).elim
    · exact h.back fun u hu => by rw [upd_ne q]; exact hu
  · rw [upd_ne fun z => nz od w (by rw [← z]; exact h)]; exact h
theorem Rl.at (R : Rl K ca F m A H) (hA : A[i]? = some o) (r : Rep K ca F m v (.ref i)) : ∃ a, v = .ref a ∧ m[i]? = some a ∧ ORep K ca F m H a o := by
  cases r with
  | ref h => exact ⟨_, rfl, h, R.ob i o _ hA h⟩

/-! ### simulations -/
/-- what is wanted behind it, told of the plain end -/
def Po {α β : Type} (K : PySem.W.Frag) (ca : CaT) (Rr : Hp → List Addr → β → α → Prop) (F : Hp) (m : List Addr) (H : Hp) (W : WX) (σ : L2.St) (Q : β → Hp → Prop) : RE α → Prop
  | .ok a A' => ∀ v F' m' H', Rl K ca F' m' A' H' → Stp F m H F' m' H' → Rr F' m' v a → Q v H'
  | .exc C A' => ∀ F' m' H', Rl K ca F' m' A' H' → Stp F m H F' m' H' → W (.ref (ca C)) none σ H'
  | .stuck => False
def Sim {α β : Type} (K : PySem.W.Frag) (ca : CaT) (Rr : Hp → List Addr → β → α → Prop) (W : WX) (te : L2.St → Hp → (β → Hp → Prop) → Prop) (f : Sl → Hs → RE α) : Prop :=
  ∀ F m A σ H env Q, Rl K ca F m A H → Slt K ca F m σ env → Po K ca Rr F m H W σ Q (f env A) → te σ H Q
def ReqI {α : Type} : Hp → List Addr → α → α → Prop := fun _ _ b c => b = c
abbrev SimE (K : PySem.W.Frag) (ca : CaT) (W : WX) (te : TE) (f : E) : Prop := Sim K ca (Rep K ca) W te f
abbrev SimT (K : PySem.W.Frag) (ca : CaT) (W : WX) (te : TT) (f : Tt) : Prop := Sim K ca ReqI W te f
abbrev SimA (K : PySem.W.Frag) (ca : CaT) (W : WX) (te : TA) (f : As) : Prop := Sim K ca (RepL K ca) W te f
abbrev SimO (K : PySem.W.Frag) (ca : CaT) (W : WX) (te : TO) (f : Sl → Hs → RE (Option Int)) : Prop := Sim K ca ReqI W te f
end
section
variable {K : PySem.W.Frag} {ca : CaT} {F F1 F2 H H1 H2 : Hp} {m m1 m2 : List Addr} {A : Hs} {σ : L2.St} {env : Sl} {W : WX}
theorem Po.stp {α β : Type} {Rr : Hp → List Addr → β → α → Prop} {Q : β → Hp → Prop} {r : RE α} (h : Po K ca Rr F m H W σ Q r) (g : Stp F m H F1 m1 H1) : Po K ca Rr F1 m1 H1 W σ Q r := by
  cases r with
  | ok a A' => exact fun v F' m' H' R g' q => h v F' m' H' R (g.trans g') q
  | exc C A' => exact fun F' m' H' R g' => h F' m' H' R (g.trans g')
  | stuck => exact h
theorem Po.imp {α β : Type} {Rr : Hp → List Addr → β → α → Prop} {Q Q' : β → Hp → Prop} {r : RE α} (h : Po K ca Rr F m H W σ Q r) (k : ∀ v H, Q v H → Q' v H) : Po K ca Rr F m H W σ Q' r := by
  cases r with
  | ok a A' => exact fun v F' m' H' R g' q => k _ _ (h v F' m' H' R g' q)
  | exc C A' => exact h
  | stuck => exact h
/-- first f, then g -/
theorem Sim.bind {α β γ δ : Type} {Rr : Hp → List Addr → β → α → Prop} {Rs : Hp → List Addr → δ → γ → Prop} {te : L2.St → Hp → (β → Hp → Prop) → Prop} {f : Sl → Hs → RE α} (h : Sim K ca Rr W te f) (R : Rl K ca F m A H) (S : Slt K ca F m σ env) {g : α → Hs → RE γ}
    {Q : δ → Hp → Prop} {T : β → Hp → Prop} (p : Po K ca Rs F m H W σ Q ((f env A).bind g))
    (k : ∀ F1 m1 A1 H1 x a, Rl K ca F1 m1 A1 H1 → Stp F m H F1 m1 H1 → Slt K ca F1 m1 σ env → Rr F1 m1 x a → Po K ca Rs F1 m1 H1 W σ Q (g a A1) → T x H1) : te σ H T := by
  refine h F m A σ H env T R S ?_
  cases q : f env A with
  | ok a A1 =>
    rw [q] at p
    exact fun v F1 m1 H1 R1 g1 r => k F1 m1 A1 H1 v a R1 g1 (S.stp g1) r (Po.stp p g1)
  | exc C A1 => rw [q] at p; exact p
  | stuck => rw [q] at p; exact p
/-! ### expressions -/
variable {ta tb tc te : TE} {a b c : E} {i : Nat} {d : D} {t u : TT} {ft fu : Tt} {ts : TA} {as : As}
theorem se_var : SimE K ca W (tVar i) (eVar i) := fun F m A σ H env Q R S p => by
  unfold eVar at p
  cases q : env[i]? with
  | none => rw [q] at p; exact p.elim
  | some z =>
    cases z with
    | none => rw [q] at p; exact p.elim
    | some d =>
      rw [q] at p
      obtain ⟨v, h1, h2⟩ := S.val i d q
      exact ⟨v, h1, p v F m H R Stp.refl h2⟩
theorem se_c {v : V} (h : ∀ F m, Rep K ca F m v d) : SimE K ca W (tC v) (eC d) := fun F m A σ H env Q R S p => p v F m H R Stp.refl (h F m)
theorem se_int {n : Int} : SimE K ca W (tC (.int n)) (eC (.int n)) := se_c fun _ _ => .int n
theorem se_bl {c : Bool} : SimE K ca W (tC (.bl c)) (eC (.bl c)) := se_c fun _ _ => .bl c
theorem se_non : SimE K ca W (tC .non) (eC .non) := se_c fun _ _ => .non
theorem se_ty {x : String} : SimE K ca W (tC (.ty x)) (eC (.ty x)) := se_c fun _ _ => .ty x
/-- an operator: two operands' values, their data -/
def OpS (K : PySem.W.Frag) (ca : CaT) (r : R2) (o : D → D → Hs → RE D) : Prop := ∀ F m A H x y dx dy W σ Q, Rl K ca F m A H → Rep K ca F m x dx → Rep K ca F m y dy → Po K ca (Rep K ca) F m H W σ Q (o dx dy A) → r x y H Q
theorem se_op {r : R2} {o : D → D → Hs → RE D} (h : OpS K ca r o) (ha : SimE K ca W ta a) (hb : SimE K ca W tb b) : SimE K ca W (tOp r ta tb) (eOp o a b) := fun F m A σ H env Q R S p =>
  ha.bind R S p fun F1 m1 A1 H1 x dx R1 g1 S1 rx p1 => hb.bind R1 S1 p1 fun F2 m2 A2 H2 y dy R2 g2 S2 ry p2 => h F2 m2 A2 H2 x y dx dy W σ Q R2 (rx.mono g2.ff g2.mm) ry p2
def UnS (K : PySem.W.Frag) (ca : CaT) (r : V → Hp → VK → Prop) (o : D → Hs → RE D) : Prop := ∀ F m A H x dx W σ Q, Rl K ca F m A H → Rep K ca F m x dx → Po K ca (Rep K ca) F m H W σ Q (o dx A) → r x H Q
theorem se_un {r : V → Hp → VK → Prop} {o : D → Hs → RE D} (h : UnS K ca r o) (ha : SimE K ca W ta a) : SimE K ca W (tUn r ta) (eUn o a) := fun F m A σ H env Q R S p =>
  ha.bind R S p fun F1 m1 A1 H1 x dx R1 g1 S1 rx p1 => h F1 m1 A1 H1 x dx W σ Q R1 rx p1
theorem sa_nil : SimA K ca W tNil aNil := fun F m A σ H env Q R S p => p [] F m H R Stp.refl .nil
theorem sa_cons (ha : SimE K ca W ta a) (hs : SimA K ca W ts as) : SimA K ca W (tCons ta ts) (aCons a as) := fun F m A σ H env Q R S p =>
  ha.bind R S p fun F1 m1 A1 H1 x dx R1 g1 S1 rx p1 => hs.bind R1 S1 p1 fun F2 m2 A2 H2 xs ds R2 g2 S2 rs p2 => p2 (x :: xs) F2 m2 H2 R2 Stp.refl (.cons (rx.mono g2.ff g2.mm) rs)
def CbS (K : PySem.W.Frag) (ca : CaT) (r : List V → Hp → VK → Prop) (o : List D → Hs → RE D) : Prop := ∀ F m A H xs ds W σ Q, Rl K ca F m A H → RepL K ca F m xs ds → Po K ca (Rep K ca) F m H W σ Q (o ds A) → r xs H Q
theorem se_cb {r : List V → Hp → VK → Prop} {o : List D → Hs → RE D} (h : CbS K ca r o) (hs : SimA K ca W ts as) : SimE K ca W (tCB r ts) (eCB o as) := fun F m A σ H env Q R S p =>
  hs.bind R S p fun F1 m1 A1 H1 xs ds R1 g1 S1 rx p1 => h F1 m1 A1 H1 xs ds W σ Q R1 rx p1
theorem se_and (ha : SimE K ca W ta a) (hb : SimE K ca W tb b) : SimE K ca W (tAndV ta tb) (eAnd a b) := fun F m A σ H env Q R S p =>
  ha.bind R S p fun F1 m1 A1 H1 x dx R1 g1 S1 rx p1 => by
    cases rx with
    | bl c =>
      refine ⟨c, rfl, ?_⟩
      cases c with
      | true => exact hb F1 m1 A1 σ H1 env Q R1 S1 p1
      | false => exact p1 _ F1 m1 H1 R1 Stp.refl (.bl false)
    | _ => exact p1.elim
theorem se_not (ha : SimE K ca W ta a) : SimE K ca W (tNotV ta) (eNot a) := fun F m A σ H env Q R S p =>
  ha.bind R S p fun F1 m1 A1 H1 x dx R1 g1 S1 rx p1 => by
    cases rx with
    | bl c => exact ⟨c, rfl, p1 _ F1 m1 H1 R1 Stp.refl (.bl _)⟩
    | _ => exact p1.elim
theorem se_ch {q q' : R2} {o o' : D → D → Hs → RE D} (h : OpS K ca q o) (h' : OpS K ca q' o') (ha : SimE K ca W ta a) (hb : SimE K ca W tb b) (hc : SimE K ca W tc c) : SimE K ca W (tChain q q' ta tb tc) (eCh o o' a b c) := fun F m A σ H env Q R S p =>
  ha.bind R S p fun F1 m1 A1 H1 x dx R1 g1 S1 rx p1 => hb.bind R1 S1 p1 fun F2 m2 A2 H2 y dy R2 g2 S2 ry p2 => by
    refine h F2 m2 A2 H2 x y dx dy W σ _ R2 (rx.mono g2.ff g2.mm) ry ?_
    cases w : o dx dy A2 with
    | stuck => rw [w] at p2; exact p2
    | exc C A3 => rw [w] at p2; exact p2
    | ok z A3 =>
      rw [w] at p2
      intro v F3 m3 H3 R3 g3 rz
      have p3 := Po.stp p2 g3
      cases rz with
      | bl k =>
        refine ⟨k, rfl, ?_⟩
        cases k with
        | false => exact p3 _ F3 m3 H3 R3 Stp.refl (.bl false)
        | true => exact hc.bind R3 (S2.stp g3) p3 fun F4 m4 A4 H4 w dw R4 g4 S4 rw' p4 => h' F4 m4 A4 H4 y w dy dw W σ Q R4 (ry.mono (g3.ff.trans g4.ff) (g3.mm.trans g4.mm)) rw' p4
      | _ => exact p3.elim
theorem st_test (ha : SimE K ca W ta a) : SimT K ca W (tTest ta) (tOf a) := fun F m A σ H env Q R S p =>
  ha.bind R S p fun F1 m1 A1 H1 x dx R1 g1 S1 rx p1 => by
    cases rx with
    | bl c => exact ⟨c, rfl, p1 _ F1 m1 H1 R1 Stp.refl rfl⟩
    | _ => exact p1.elim
theorem st_b (ha : SimE K ca W ta a) : SimT K ca W (tB ta) (tOf a) := fun F m A σ H env Q R S p =>
  ha.bind R S p fun F1 m1 A1 H1 x dx R1 g1 S1 rx p1 => by
    cases rx with
    | bl c => exact ⟨c, rfl, p1 _ F1 m1 H1 R1 Stp.refl rfl⟩
    | _ => exact p1.elim
theorem st_not (ht : SimT K ca W t ft) : SimT K ca W (tNot t) (tNo ft) := fun F m A σ H env Q R S p =>
  ht.bind R S p fun F1 m1 A1 H1 x dx R1 g1 S1 rx p1 => by
    cases (show x = dx from rx)
    exact p1 _ F1 m1 H1 R1 Stp.refl rfl
theorem st_and (ht : SimT K ca W t ft) (hu : SimT K ca W u fu) : SimT K ca W (tAnd t u) (tAn ft fu) := fun F m A σ H env Q R S p =>
  ht.bind R S p fun F1 m1 A1 H1 x dx R1 g1 S1 rx p1 => by
    cases (show x = dx from rx)
    cases x with
    | true => exact hu F1 m1 A1 σ H1 env Q R1 S1 p1
    | false => exact p1 _ F1 m1 H1 R1 Stp.refl rfl
theorem st_or (ht : SimT K ca W t ft) (hu : SimT K ca W u fu) : SimT K ca W (tOr t u) (tOo ft fu) := fun F m A σ H env Q R S p =>
  ht.bind R S p fun F1 m1 A1 H1 x dx R1 g1 S1 rx p1 => by
    cases (show x = dx from rx)
    cases x with
    | false => exact hu F1 m1 A1 σ H1 env Q R1 S1 p1
    | true => exact p1 _ F1 m1 H1 R1 Stp.refl rfl
theorem st_yes : SimT K ca W tYes tYe := fun F m A σ H env Q R S p => p _ F m H R Stp.refl rfl
theorem se_if (ht : SimT K ca W t ft) (ha : SimE K ca W ta a) (hb : SimE K ca W tb b) : SimE K ca W (tIf t ta tb) (eIf ft a b) := fun F m A σ H env Q R S p =>
  ht.bind R S p fun F1 m1 A1 H1 x dx R1 g1 S1 rx p1 => by
    cases (show x = dx from rx)
    cases x with
    | true => exact ha F1 m1 A1 σ H1 env Q R1 S1 p1
    | false => exact hb F1 m1 A1 σ H1 env Q R1 S1 p1
theorem se_tup (hs : SimA K ca W ts as) : SimE K ca W (tTup ts) (eTup as) := fun F m A σ H env Q R S p =>
  hs.bind R S p fun F1 m1 A1 H1 xs ds R1 g1 S1 rs p1 => by
    split at p1
    · rename_i hl
      refine ⟨by rw [rs.length]; exact hl, fun q hq => ?_⟩
      obtain ⟨R2, g2⟩ := R1.new (u := .tup xs) hq
      exact p1 _ _ _ _ R2 g2 (.tup upd_same (rs.mono g2.ff g2.mm))
    · exact p1.elim
theorem po_alloc {Q : VK} {p : Addr} {u : HO} {o : O} (R : Rl K ca F m A H) (n : H p = none) (r : ORep K ca F (m ++ [p]) (upd H p u) p o) (h : Po K ca (Rep K ca) F m H W σ Q (alloc A o)) : Q (.ref p) (upd H p u) := by
  obtain ⟨R2, g2, q⟩ := R.alloc n r
  exact h _ _ _ _ R2 g2 q
theorem se_lst (hs : SimA K ca W ts as) : SimE K ca W (tLst ts) (eLst as) := fun F m A σ H env Q R S p =>
  hs.bind R S p fun F1 m1 A1 H1 xs ds R1 g1 S1 rs p1 => by
    split at p1
    · rename_i hl
      exact ⟨by rw [rs.length]; exact hl, fun q hq => po_alloc (o := .lst ds) R1 hq ⟨xs, upd_same, rs.mono (Ex.refl _) ⟨_, rfl⟩⟩ p1⟩
    · exact p1.elim
theorem se_dnewK : SimE K ca W tDNewK (eDNew false) := fun F m A σ H env Q R S p q hq => po_alloc (o := .dic false false []) R hq ⟨[], upd_same, .nil⟩ p
theorem so_none : SimO K ca W tNoPart oNo := fun F m A σ H env Q R S p => p _ F m H R Stp.refl rfl
theorem so_some (ha : SimE K ca W ta a) : SimO K ca W (tPart ta) (oSo a) := fun F m A σ H env Q R S p =>
  ha.bind R S p fun F1 m1 A1 H1 x dx R1 g1 S1 rx p1 => by
    cases rx with
    | int i => exact ⟨i, rfl, p1 _ F1 m1 H1 R1 Stp.refl rfl⟩
    | _ => exact p1.elim
def SlS (K : PySem.W.Frag) (ca : CaT) (r : V → Option Int → Option Int → Hp → VK → Prop) (o : D → Option Int → Option Int → Hs → RE D) : Prop := ∀ F m A H x dx lo hi W σ Q, Rl K ca F m A H → Rep K ca F m x dx → Po K ca (Rep K ca) F m H W σ Q (o dx lo hi A) → r x lo hi H Q
theorem se_sl {r : V → Option Int → Option Int → Hp → VK → Prop} {o : D → Option Int → Option Int → Hs → RE D} {tl th : TO} {fl fh : Sl → Hs → RE (Option Int)} (h : SlS K ca r o) (ha : SimE K ca W ta a) (hl : SimO K ca W tl fl) (hh : SimO K ca W th fh) : SimE K ca W (tSl r ta tl th) (eSl o a fl fh) := fun F m A σ H env Q R S p =>
  ha.bind R S p fun F1 m1 A1 H1 x dx R1 g1 S1 rx p1 => hl.bind R1 S1 p1 fun F2 m2 A2 H2 lo lo' R2 g2 S2 rl p2 => hh.bind R2 S2 p2 fun F3 m3 A3 H3 hi hi' R3 g3 S3 rh p3 => by
    cases (show lo = lo' from rl)
    cases (show hi = hi' from rh)
    exact h F3 m3 A3 H3 x dx lo hi W σ Q R3 (rx.mono (g2.ff.trans g3.ff) (g2.mm.trans g3.mm)) p3

/-! ### promises -/
def PoF (K : PySem.W.Frag) (ca : CaT) (F : Hp) (m : List Addr) (H : Hp) (Q : VK) (E : XK) : RE D → Prop
  | .ok a A' => ∀ v F' m' H', Rl K ca F' m' A' H' → Stp F m H F' m' H' → Rep K ca F' m' v a → Q v H'
  | .exc C A' => ∀ F' m' H', Rl K ca F' m' A' H' → Stp F m H F' m' H' → E (.ref (ca C)) none H'
  | .stuck => False
/-- THE PROMISE: it does what the plain function does -/
def SpF (K : PySem.W.Frag) (ca : CaT) (f : Fn) : Sp := fun vs H Q E => ∃ F m A ds, Rl K ca F m A H ∧ RepL K ca F m vs ds ∧ PoF K ca F m H Q E (f ds A)
theorem pof_po {Q : VK} {r : RE D} (h : Po K ca (Rep K ca) F m H W σ Q r) : PoF K ca F m H Q (WE W σ) r := by
  cases r <;> exact h
theorem pof_noX {Q : VK} {X : XK} {r : RE D} (h : Po K ca (Rep K ca) F m H W σ Q r.noX) : PoF K ca F m H Q X r := by
  cases r with
  | ok a A => exact h
  | exc C A => exact h.elim
  | stuck => exact h.elim
theorem se_call {f : Fn} (hs : SimA K ca W ts as) : SimE K ca W (tCallS (SpF K ca f) (WE W) ts) (eCall f as) := fun F m A σ H env Q R S p =>
  hs.bind R S p fun F1 m1 A1 H1 xs ds R1 g1 S1 rs p1 => ⟨F1, m1, A1, ds, R1, rs, pof_po p1⟩
theorem se_call0 {f : Fn} {X : XK} (hs : SimA K ca W ts as) : SimE K ca W (tCall (SpF K ca f) [] X ts) (eCall0 f as) := fun F m A σ H env Q R S p =>
  hs.bind R S p fun F1 m1 A1 H1 xs ds R1 g1 S1 rs p1 => ⟨F1, m1, A1, ds, R1, by rw [List.append_nil]; exact rs, pof_noX p1⟩

/-! ### fields -/
end
end SM

/-! ## methods that may raise -/
namespace L2
open PySem PySem.Spec PyProof.Rows
section
variable {X : Cx} {CX : CXT} {k : Nat} {f C : Addr} {fd : FuncData} {ps : List Str} {sp : Sp} {E : St → XK} {x m : Str} {p pos apos : Pos} {e o : Expr} {es : List Expr} {ta : TE} {t : TA}
theorem PE.or {X : Cx} {e : Expr} {t u : TE} (h1 : PE X e t) (h2 : PE X e u) : PE X e (fun σ H Q => t σ H Q ∨ u σ H Q) := ⟨fun pins s σ H Q I h => by
  rcases h with h | h
  · exact h1.run pins s σ H Q I h
  · exact h2.run pins s σ H Q I h⟩
theorem PS.or {X : Cx} {st : Stmt} {t u : TS} (h1 : PS X st t) (h2 : PS X st u) : PS X st (fun D σ H => t D σ H ∨ u D σ H) := ⟨fun pins s σ H D I h => by
  rcases h with h | h
  · exact h1.run pins s σ H D I h
  · exact h2.run pins s σ H D I h⟩
end
end L2
/-! ## fields, calls, statements -/
namespace SM
open PySem L2
open DL (Ex ExK tRaise tTry tTryO)
section
variable {K : PySem.W.Frag} {ca : CaT} {F F1 F2 H H1 H2 : Hp} {m m1 m2 : List Addr} {A A1 A2 : Hs} {σ : L2.St} {env : Sl} {W : WX}
variable {ta tb tc te : TE} {a b c : E} {i : Nat} {d : D} {t u : TT} {ft fu : Tt} {ts : TA} {as : As} {x : V} {dx : D} {C : String} {fs : List (String × D)} {cs : List String}
/-! ### statements -/
def PoS (K : PySem.W.Frag) (ca : CaT) (F : Hp) (m : List Addr) (H : Hp) (W : WX) (Dn : Ends) : RS → Prop
  | .nx e A' => ∀ F' m' σ' H', Rl K ca F' m' A' H' → Stp F m H F' m' H' → Slt K ca F' m' σ' e → Dn.nx σ' H'
  | .bk e A' => ∀ F' m' σ' H', Rl K ca F' m' A' H' → Stp F m H F' m' H' → Slt K ca F' m' σ' e → Dn.bk σ' H'
  | .ct e A' => ∀ F' m' σ' H', Rl K ca F' m' A' H' → Stp F m H F' m' H' → Slt K ca F' m' σ' e → Dn.ct σ' H'
  | .rt d A' => ∀ v F' m' H', Rl K ca F' m' A' H' → Stp F m H F' m' H' → Rep K ca F' m' v d → Dn.rt v H'
  | .exc C e A' => ∀ F' m' σ' H', Rl K ca F' m' A' H' → Stp F m H F' m' H' → Slt K ca F' m' σ' e → W (.ref (ca C)) none σ' H'
  | .stuck => False
def SimS (K : PySem.W.Frag) (ca : CaT) (W : WX) (t : TS) (f : S) : Prop := ∀ F m A σ H env Dn, Rl K ca F m A H → Slt K ca F m σ env → PoS K ca F m H W Dn (f env A) → t Dn σ H
variable {s1 s2 s : TS} {f1 f2 f : S} {Dn : Ends}
theorem PoS.stp {r : RS} (h : PoS K ca F m H W Dn r) (g : Stp F m H F1 m1 H1) : PoS K ca F1 m1 H1 W Dn r := by
  cases r with
  | nx e A' => exact fun F' m' σ' H' R g' q => h F' m' σ' H' R (g.trans g') q
  | bk e A' => exact fun F' m' σ' H' R g' q => h F' m' σ' H' R (g.trans g') q
  | ct e A' => exact fun F' m' σ' H' R g' q => h F' m' σ' H' R (g.trans g') q
  | rt d A' => exact fun v F' m' H' R g' q => h v F' m' H' R (g.trans g') q
  | exc C e A' => exact fun F' m' σ' H' R g' q => h F' m' σ' H' R (g.trans g') q
  | stuck => exact h
/-- the value of an expression, then a statement's rest -/
theorem ofE_bind {k : D → Hs → RS} {T : VK} (h : SimE K ca W te a) (R : Rl K ca F m A H) (S : Slt K ca F m σ env) (p : PoS K ca F m H W Dn (ofE env (a env A) k))
    (kk : ∀ F1 m1 A1 H1 x d, Rl K ca F1 m1 A1 H1 → Stp F m H F1 m1 H1 → Slt K ca F1 m1 σ env → Rep K ca F1 m1 x d → PoS K ca F1 m1 H1 W Dn (k d A1) → T x H1) : te σ H T := by
  refine h F m A σ H env T R S ?_
  cases q : a env A with
  | ok d A1 =>
    rw [q] at p
    exact fun v F1 m1 H1 R1 g1 r => kk F1 m1 A1 H1 v d R1 g1 (S.stp g1) r (PoS.stp p g1)
  | exc C A1 => rw [q] at p; exact fun F1 m1 H1 R1 g1 => p F1 m1 σ H1 R1 g1 (S.stp g1)
  | stuck => rw [q] at p; exact p
theorem ofT_bind {k : Bool → Hs → RS} {T : Bool → Hp → Prop} (h : SimT K ca W t ft) (R : Rl K ca F m A H) (S : Slt K ca F m σ env) (p : PoS K ca F m H W Dn (ofT env (ft env A) k))
    (kk : ∀ F1 m1 A1 H1 c, Rl K ca F1 m1 A1 H1 → Stp F m H F1 m1 H1 → Slt K ca F1 m1 σ env → PoS K ca F1 m1 H1 W Dn (k c A1) → T c H1) : t σ H T := by
  refine h F m A σ H env T R S ?_
  cases q : ft env A with
  | ok d A1 =>
    rw [q] at p
    intro v F1 m1 H1 R1 g1 r
    cases (show v = d from r)
    exact kk F1 m1 A1 H1 d R1 g1 (S.stp g1) (PoS.stp p g1)
  | exc C A1 => rw [q] at p; exact fun F1 m1 H1 R1 g1 => p F1 m1 σ H1 R1 g1 (S.stp g1)
  | stuck => rw [q] at p; exact p
theorem ss_seq (h1 : SimS K ca W s1 f1) (h2 : SimS K ca W s2 f2) : SimS K ca W (tSeq s1 s2) (sSeq f1 f2) := fun F m A σ H env Dn R S p => by
  refine h1 F m A σ H env { Dn with nx := s2 Dn } R S ?_
  unfold sSeq at p
  cases q : f1 env A with
  | nx e A1 =>
    rw [q] at p
    exact fun F' m' σ' H' R' g' S' => h2 F' m' A1 σ' H' e Dn R' S' (PoS.stp p g')
  | bk e A1 => rw [q] at p; exact p
  | ct e A1 => rw [q] at p; exact p
  | rt d A1 => rw [q] at p; exact p
  | exc C e A1 => rw [q] at p; exact p
  | stuck => rw [q] at p; exact p
theorem ss_next : SimS K ca W tNext sNx := fun F m A σ H env Dn R S p => p F m σ H R Stp.refl S
theorem ss_drop (h : SimE K ca W te a) : SimS K ca W (tDrop te) (sDrop a) := fun F m A σ H env Dn R S p => ofE_bind h R S p fun F1 m1 A1 H1 x d R1 g1 S1 rx p1 => p1 F1 m1 σ H1 R1 Stp.refl S1
theorem ss_ret (h : SimE K ca W te a) : SimS K ca W (tRet te) (sRet a) := fun F m A σ H env Dn R S p => ofE_bind h R S p fun F1 m1 A1 H1 x d R1 g1 S1 rx p1 => p1 x F1 m1 H1 R1 Stp.refl rx
theorem ss_if (ht : SimT K ca W t ft) (h1 : SimS K ca W s1 f1) (h2 : SimS K ca W s2 f2) : SimS K ca W (tIfS t s1 s2) (sIf ft f1 f2) := fun F m A σ H env Dn R S p => ofT_bind ht R S p fun F1 m1 A1 H1 c R1 g1 S1 p1 => by
  cases c with
  | true => exact h1 F1 m1 A1 σ H1 env Dn R1 S1 p1
  | false => exact h2 F1 m1 A1 σ H1 env Dn R1 S1 p1
theorem ss_set (h : SimE K ca W te a) : SimS K ca W (tAsg te (gName i)) (sSet i a) := fun F m A σ H env Dn R S p => ofE_bind h R S p fun F1 m1 A1 H1 x d R1 g1 S1 rx p1 => p1 F1 m1 _ H1 R1 Stp.refl (S1.set rx)
/-- targets: slots js alone change -/
def SimG (K : PySem.W.Frag) (ca : CaT) (g : TG) (f : G) (js : List Nat) : Prop := ∀ F m A σ H env v d env', Rl K ca F m A H → Slt K ca F m σ env → Rep K ca F m v d → f d env A = some env' → ∀ Q : L2.St → Hp → Prop,
  (∀ σ', Slt K ca F m σ' env' → σ'.length = σ.length → (∀ i : Nat, i ∉ js → σ'[i]? = σ[i]?) → Q σ' H) → g v σ H Q
def SimGs (K : PySem.W.Frag) (ca : CaT) (g : TGs) (f : List G) (js : List Nat) : Prop := ∀ F m A σ H env vs ds env', Rl K ca F m A H → Slt K ca F m σ env → RepL K ca F m vs ds → gAll f ds env A = some env' → ∀ Q : L2.St → Hp → Prop,
  (∀ σ', Slt K ca F m σ' env' → σ'.length = σ.length → (∀ i : Nat, i ∉ js → σ'[i]? = σ[i]?) → Q σ' H) → g vs σ H Q
theorem sg_name : SimG K ca (gName i) (gN i) [i] := fun F m A σ H env v d env' R S r h Q k => by
  cases h
  exact k _ (S.set r) (by simp) fun j hj => by rw [List.getElem?_set_ne (by intro z; exact hj (by simp [z]))]
theorem sgs_nil : SimGs K ca gNil [] [] := fun F m A σ H env vs ds env' R S r h Q k => by
  cases r with
  | nil => cases h; exact ⟨rfl, k σ S rfl fun _ _ => rfl⟩
  | cons _ _ => cases h
theorem sgs_cons {g : TG} {gs : TGs} {f : G} {fs : List G} {js ks : List Nat} (h : SimG K ca g f js) (hs : SimGs K ca gs fs ks) : SimGs K ca (gCons g gs) (f :: fs) (js ++ ks) := fun F m A σ H env vs ds env' R S r e Q k => by
  cases r with
  | nil => cases e
  | cons r1 r2 =>
    rename_i v vs d ds
    unfold gAll at e
    cases q : f d env A with
    | none => rw [q] at e; cases e
    | some env1 =>
      rw [q] at e
      refine ⟨v, vs, rfl, h F m A σ H env v d env1 R S r1 q _ fun σ1 S1 l1 k1 => hs F m A σ1 H env1 vs ds env' R S1 r2 e Q fun σ2 S2 l2 k2 => k σ2 S2 (l2.trans l1) fun i hi => ?_⟩
      rw [k2 i (fun z => hi (List.mem_append_right _ z)), k1 i (fun z => hi (List.mem_append_left _ z))]
theorem gAll_len : ∀ {fs : List G} {ds : List D} {env env' : Sl} {A : Hs}, gAll fs ds env A = some env' → ds.length = fs.length
  | [], [], _, _, _, _ => rfl
  | g :: gs, d :: ds, env, env', A, h => by
    unfold gAll at h
    cases q : g d env A with
    | none => rw [q] at h; cases h
    | some e => rw [q] at h; rw [List.length_cons, List.length_cons, gAll_len h]
  | [], _ :: _, _, _, _, h => by cases h
  | _ :: _, [], _, _, _, h => by cases h
theorem sg_tup {gs : TGs} {fs : List G} {js : List Nat} {n : Nat} (h : SimGs K ca gs fs js) (hn : fs.length = n) : SimG K ca (gTup K n gs) (gT fs) js := fun F m A σ H env v d env' R S r e Q k => by
  cases r with
  | tup s p =>
    have e' : gAll fs _ env A = some env' := e
    exact ⟨_, _, rfl, .inl (.inl (R.fh _ _ s)), by rw [p.length, gAll_len e', hn], h F m A σ H env _ _ env' R S p e' Q k⟩
  | _ => cases e
theorem ss_asg {g : TG} {gf : G} {js : List Nat} (h : SimE K ca W te a) (hg : SimG K ca g gf js) : SimS K ca W (tAsg te g) (sAsg a gf) := fun F m A σ H env Dn R S p => ofE_bind h R S p fun F1 m1 A1 H1 x d R1 g1 S1 rx p1 => by
  cases q : gf d env A1 with
  | none => simp only [q] at p1; exact p1.elim
  | some env' =>
    simp only [q] at p1
    exact hg F1 m1 A1 σ H1 env x d env' R1 S1 rx q _ fun σ' S' _ _ => p1 F1 m1 σ' H1 R1 Stp.refl S'
theorem ss_raise {C : String} {Ca : Addr} (h : ca C = Ca) : SimS K ca W (tRaise W Ca) (sRaise C) := fun F m A σ H env Dn R S p => by
  subst h; exact p F m σ H R Stp.refl S
/-! ### loops -/
theorem ss_while (ht : SimT K ca W t ft) (h : SimS K ca W s f) : SimS K ca W (tWhile t s) (sWh ft f) := fun F m A σ H env Dn R S p => by
  have hx : ∃ n, whN ft f n env A ≠ .stuck := by
    by_cases q : ∃ n, whN ft f n env A ≠ .stuck
    · exact q
    · unfold sWh at p; rw [dif_neg q] at p; exact p.elim
  obtain ⟨n, hn⟩ := hx
  rw [sWh_eq hn] at p
  refine ⟨fun n σ' H' => ∃ F' m' A' env', Rl K ca F' m' A' H' ∧ Slt K ca F' m' σ' env' ∧ PoS K ca F' m' H' W Dn (whN ft f n env' A'), ⟨n, F, m, A, env, R, S, p⟩, ?_⟩
  rintro n σ' H' ⟨F', m', A', env', R', S', p'⟩
  cases n with
  | zero => exact p'.elim
  | succ n =>
    unfold whN at p'
    refine ofT_bind ht R' S' p' fun F1 m1 A1 H1 c R1 g1 S1 p1 => ?_
    cases c with
    | false => exact p1 F1 m1 σ' H1 R1 Stp.refl S1
    | true =>
      refine ⟨fun σ2 H2 => ∃ F2 m2 A2 env2, Rl K ca F2 m2 A2 H2 ∧ Slt K ca F2 m2 σ2 env2 ∧ PoS K ca F2 m2 H2 W Dn (whN ft f n env2 A2), fun σ2 H2 z => ⟨n, Nat.lt_succ_self n, z⟩, ?_⟩
      refine h F1 m1 A1 σ' H1 env' _ R1 S1 ?_
      simp only [if_true] at p1
      cases q : f env' A1 with
      | nx e A2 => rw [q] at p1; exact fun F2 m2 σ2 H2 R2 g2 S2 => ⟨F2, m2, A2, e, R2, S2, PoS.stp p1 g2⟩
      | ct e A2 => rw [q] at p1; exact fun F2 m2 σ2 H2 R2 g2 S2 => ⟨F2, m2, A2, e, R2, S2, PoS.stp p1 g2⟩
      | bk e A2 => rw [q] at p1; exact p1
      | rt d A2 => rw [q] at p1; exact p1
      | exc C e A2 => rw [q] at p1; exact p1
      | stuck => rw [q] at p1; exact p1
/-- what is walked -/
def PoW (K : PySem.W.Frag) (ca : CaT) (F : Hp) (m : List Addr) (H : Hp) (W : WX) (σ : L2.St) (R : It → Hp → Prop) : RE Wk → Prop
  | .ok k A' => ∀ J F' m' H', Rl K ca F' m' A' H' → Stp F m H F' m' H' → (∃ (G : Hp → Prop) (Y : Nat → Hp → V → Hp → Prop), Walk J k.ds.length G Y ∧
      (∀ F2 m2 A2 H2, k.gd A2 → Rl K ca F2 m2 A2 H2 → Stp F' m' H' F2 m2 H2 → G H2) ∧
      ∀ i d x F2 m2 A2 H2 H3, k.ds[i]? = some d → k.gd A2 → Rl K ca F2 m2 A2 H2 → Stp F' m' H' F2 m2 H2 → Y i H2 x H3 → (H3 = H2 ∧ Rep K ca F2 m2 x d) ∨ (∃ T vs l, d = .tup l ∧ x = .ref T ∧ H2 T = none ∧ H3 = upd H2 T (.tup vs) ∧ RepL K ca F2 m2 vs l) ∨ (∃ T vs l, d = .tup l ∧ x = .ref T ∧ H2 T = some (.tup vs) ∧ H3 = H2 ∧ RepL K ca F2 m2 vs l) ∨ (∃ F3, Rl K ca F3 m2 A2 H3 ∧ Stp F2 m2 H2 F3 m2 H3 ∧ Rep K ca F3 m2 x d)) → R J H'
  | .exc C A' => ∀ F' m' H', Rl K ca F' m' A' H' → Stp F m H F' m' H' → W (.ref (ca C)) none σ H'
  | .stuck => False
def SimI (K : PySem.W.Frag) (ca : CaT) (W : WX) (wi : TI) (f : Sl → Hs → RE Wk) : Prop := ∀ F m A σ H env R, Rl K ca F m A H → Slt K ca F m σ env → PoW K ca F m H W σ R (f env A) → wi σ H R
theorem ss_for {wi : TI} {w : Sl → Hs → RE Wk} {g : TG} {gf : G} {js : List Nat} (hi : SimI K ca W wi w) (hg : SimG K ca g gf js) (h : SimS K ca W s f) : SimS K ca W (tFor wi g s) (sFor w gf f) := fun F m A σ H env Dn R S p => by
  refine hi F m A σ H env _ R S ?_
  unfold sFor at p
  cases q : w env A with
  | stuck => rw [q] at p; exact p
  | exc C A1 => rw [q] at p; exact fun F1 m1 H1 R1 g1 => p F1 m1 σ H1 R1 g1 (S.stp g1)
  | ok k A1 =>
    rw [q] at p
    rintro J F1 m1 H1 R1 g1 ⟨G, Y, wk, hG, hY⟩
    refine for_it wk (fun i σ' H' => ∃ F' m' A' env', Rl K ca F' m' A' H' ∧ Slt K ca F' m' σ' env' ∧ Stp F1 m1 H1 F' m' H' ∧ PoS K ca F' m' H' W Dn (forL gf f k.gd (k.ds.drop i) env' A')) ⟨F1, m1, A1, env, R1, S.stp g1, Stp.refl, PoS.stp p g1⟩ ?_ ?_ ?_
    · rintro i σ' H' hi ⟨F', m', A', env', R', S', g', p'⟩
      refine hG F' m' A' H' ?_ R' g'
      cases z : k.ds.drop i with
      | nil => rw [z] at p'; unfold forL at p'; split at p'; assumption; exact p'.elim
      | cons d ds => rw [z] at p'; unfold forL at p'; split at p'; assumption; exact p'.elim
    · rintro i x σ2 H2 H3 hlt ⟨F2, m2, A2, env2, R2, S2, g2, p2⟩ y
      rw [List.drop_eq_getElem_cons hlt] at p2
      have gd2 : k.gd A2 := by
        by_cases z : k.gd A2
        · exact z
        · unfold forL at p2; rw [if_neg z] at p2; exact p2.elim
      have st3 : ∃ F3, Rl K ca F3 m2 A2 H3 ∧ Stp F2 m2 H2 F3 m2 H3 ∧ Rep K ca F3 m2 x k.ds[i] := by
        rcases hY i k.ds[i] x F2 m2 A2 H2 H3 (by simp [hlt]) gd2 R2 g2 y with ⟨e, rp⟩ | ⟨T, vs, l, q1, q2, q3, q4, q5⟩ | ⟨T, vs, l, q1, q2, q3, q4, q5⟩ | w3
        · subst e; exact ⟨F2, R2, Stp.refl, rp⟩
        · subst q4
          rw [q1, q2]
          obtain ⟨R3, g3⟩ := R2.new (u := .tup vs) q3
          exact ⟨_, R3, g3, .tup upd_same (q5.mono g3.ff g3.mm)⟩
        · subst q4
          rw [q1, q2]
          obtain ⟨F3, R3, g3, hT⟩ := R2.catch q3
          exact ⟨F3, R3, g3, .tup hT (q5.mono g3.ff g3.mm)⟩
        · exact w3
      obtain ⟨F3, R3, g3, rp⟩ := st3
      have p3 := PoS.stp p2 g3
      unfold forL at p3
      rw [if_pos gd2] at p3
      cases z : gf k.ds[i] env2 A2 with
      | none => rw [z] at p3; exact p3.elim
      | some env3 =>
        rw [z] at p3
        refine hg F3 m2 A2 σ2 H3 env2 x k.ds[i] env3 R3 (S2.stp g3) rp z _ fun σ3 S3 _ _ => ?_
        refine h F3 m2 A2 σ3 H3 env3 _ R3 S3 ?_
        cases y : f env3 A2 with
        | nx e A4 => simp only [y] at p3; exact fun F4 m4 σ4 H4 R4 g4 S4 => ⟨F4, m4, A4, e, R4, S4, (g2.trans g3).trans g4, PoS.stp p3 g4⟩
        | ct e A4 => simp only [y] at p3; exact fun F4 m4 σ4 H4 R4 g4 S4 => ⟨F4, m4, A4, e, R4, S4, (g2.trans g3).trans g4, PoS.stp p3 g4⟩
        | bk e A4 => simp only [y] at p3; exact p3
        | rt d A4 => simp only [y] at p3; exact p3
        | exc C e A4 => simp only [y] at p3; exact p3
        | stuck => simp only [y] at p3; exact p3
    · rintro σ' H' ⟨F', m', A', env', R', S', g', p'⟩
      rw [List.drop_length] at p'
      unfold forL at p'
      split at p'
      · exact p' F' m' σ' H' R' Stp.refl S'
      · exact p'.elim
end
end SM

/-! ## comprehensions, new instances, methods, defs -/
namespace SM
open PySem L2
open DL (Ex ExK)
section
variable {K : PySem.W.Frag} {ca : CaT} {F F1 F2 H H1 H2 : Hp} {m m1 m2 : List Addr} {A A1 A2 : Hs} {σ : L2.St} {env : Sl} {W : WX}
variable {ta tb tc te : TE} {a b c : E} {i : Nat} {d : D} {t u : TT} {ft fu : Tt} {ts : TA} {as : As} {x : V} {dx : D} {C : String} {fs : List (String × D)} {cs : List String}
theorem Slt.wiped (S : Slt K ca F m σ env) : ∀ vs : List Nat, Slt K ca F m (L2.wipe σ vs) (wipeS env vs)
  | [] => S
  | v :: vs => (Slt.wiped S vs).unset
theorem wipe_same {σ : L2.St} {σ2 : L2.St} {vs js : List Nat} (hj : ∀ j ∈ js, j ∈ vs) (l4 : σ2.length = (L2.wipe σ vs).length) (q4 : ∀ i : Nat, i ∉ js → σ2[i]? = (L2.wipe σ vs)[i]?) : L2.wipe σ2 vs = L2.wipe σ vs := by
  have len : ∀ (a : L2.St) (us : List Nat), (L2.wipe a us).length = a.length := fun a us => wipe_length a us
  have inn : ∀ (a : L2.St) (us : List Nat) (n : Nat), n ∈ us → n < a.length → (L2.wipe a us)[n]? = some none := fun a us => by
    induction us with
    | nil => intro n h _; simp at h
    | cons v us ih =>
      intro n h hl
      unfold L2.wipe
      by_cases z : v = n
      · subst z; rw [List.getElem?_set_self (by rw [len]; exact hl)]
      · rw [List.getElem?_set_ne z]
        exact ih n (by simp only [List.mem_cons] at h; rcases h with h | h; exact absurd h.symm z; exact h) hl
  apply List.ext_getElem?
  intro n
  by_cases z : n ∈ vs
  · by_cases hl : n < σ.length
    · rw [inn σ2 vs n z (by rw [l4, len]; exact hl), inn σ vs n z hl]
    · rw [List.getElem?_eq_none (by rw [len, l4, len]; omega), List.getElem?_eq_none (by rw [len]; omega)]
  · rw [DL.wipe_out z, q4 n (fun y => z (hj n y)), DL.wipe_out z]
theorem se_lc {wi : TI} {w : Sl → Hs → RE Wk} {g : TG} {gf : G} {js vs : List Nat} {W2 : WX} (hi : SimI K ca W wi w) (hg : SimG K ca g gf js) (hj : ∀ j ∈ js, j ∈ vs) (ht : SimT K ca W2 t ft) (ha : SimE K ca W2 ta a) : SimE K ca W (tLc wi g t ta vs) (eLc w gf ft a vs) := fun F m A σ H env Q R S p => by
  refine hi F m A σ H env _ R S ?_
  unfold eLc at p
  cases q : w env A with
  | stuck => rw [q] at p; exact p
  | exc C A1 => rw [q] at p; exact p
  | ok k A1 =>
    rw [q] at p
    rintro J F1 m1 H1 R1 g1 ⟨G, Y, wk, hG, hY⟩ Dl hD
    have p := Po.stp (r := match lcL gf ft a k.gd (wipeS env vs) k.ds [] A1 with
      | .ok l A2 => alloc A2 (.lst l)
      | _ => .stuck) p g1
    obtain ⟨R2, g2⟩ := R1.newH (u := .lst []) hD
    -- the plain run from turn i
    let run := fun (i : Nat) (acc : List D) (A' : Hs) => match lcL gf ft a k.gd (wipeS env vs) (k.ds.drop i) acc A' with
      | .ok l A2 => alloc A2 (.lst l)
      | _ => RE.stuck
    refine lc_it wk (fun i H' => ∃ F' m' A' acc ws, Rl K ca F' m' A' H' ∧ Stp F1 m1 H1 F' m' H' ∧ H' Dl = some (.lst ws) ∧ Dl ∉ m' ∧ F' Dl = none ∧ RepL K ca F' m' ws acc ∧ Po K ca (Rep K ca) F1 m1 H1 W σ Q (run i acc A')) ?_ ?_ ?_ ?_
    · exact ⟨F1, m1, A1, [], [], R2, g2, upd_same, R1.out hD, R1.fh.back hD, .nil, p⟩
    · rintro i H' hi ⟨F', m', A', acc, ws, R', g', d1, d2, d3, rs, p'⟩
      refine hG F' m' A' H' ?_ R' g'
      show k.gd A'
      dsimp only [run] at p'
      cases z : k.ds.drop i with
      | nil =>
        rw [z] at p'; unfold lcL at p'
        by_cases y : k.gd A'
        · exact y
        · rw [if_neg y] at p'; exact p'.elim
      | cons d ds =>
        rw [z] at p'; unfold lcL at p'
        by_cases y : k.gd A'
        · exact y
        · rw [if_neg y] at p'; exact p'.elim
    · rintro i x H2 H3 hlt ⟨F2, m2, A2, acc, ws, R2, g2, d1, d2, d3, rs, p2⟩ y
      have gd2 : k.gd A2 := by
        dsimp only [run] at p2
        rw [List.drop_eq_getElem_cons hlt] at p2
        by_cases z : k.gd A2
        · exact z
        · unfold lcL at p2; rw [if_neg z] at p2; exact p2.elim
      have st3 : ∃ F3, Rl K ca F3 m2 A2 H3 ∧ Stp F2 m2 H2 F3 m2 H3 ∧ Rep K ca F3 m2 x k.ds[i] ∧ H3 Dl = some (.lst ws) ∧ F3 Dl = none := by
        rcases hY i k.ds[i] x F2 m2 A2 H2 H3 (by simp [hlt]) gd2 R2 g2 y with ⟨e, rp⟩ | ⟨T, us, l, q1, q2, q3, q4, q5⟩ | ⟨T, us, l, q1, q2, q3, q4, q5⟩ | ⟨F3, R3, g3, rp⟩
        · subst e; exact ⟨F2, R2, Stp.refl, rp, d1, d3⟩
        · subst q4
          rw [q1, q2]
          obtain ⟨R3, g3⟩ := R2.new (u := .tup us) q3
          have nT : Dl ≠ T := fun z => by rw [← z, d1] at q3; cases q3
          exact ⟨_, R3, g3, .tup upd_same (q5.mono g3.ff g3.mm), by rw [upd_ne nT]; exact d1, by rw [upd_ne nT]; exact d3⟩
        · subst q4
          rw [q1, q2]
          obtain ⟨F3, R3, g3, hT⟩ := R2.catch q3
          refine ⟨F3, R3, g3, .tup hT (q5.mono g3.ff g3.mm), d1, ?_⟩
          cases w : F3 Dl with
          | none => rfl
          | some v => have := R3.fh Dl v w; rw [d1] at this; cases this; exact (g3.gn Dl (by rw [w]; simp)).elim (fun z => absurd d3 z) fun z => z.elim (fun z => (z.no d1 trivial).elim) fun ⟨xs, z⟩ => by rw [w] at z; cases z
        · have d1' : H3 Dl = some (.lst ws) := g3.kp Dl _ d1 d2 (fun ps z => by cases z)
          refine ⟨F3, R3, g3, rp, d1', ?_⟩
          cases w : F3 Dl with
          | none => rfl
          | some v => have := R3.fh Dl v w; rw [d1'] at this; cases this; exact (g3.gn Dl (by rw [w]; simp)).elim (fun z => absurd d3 z) fun z => z.elim (fun z => (z.no d1 trivial).elim) fun ⟨xs, z⟩ => by rw [w] at z; cases z
      obtain ⟨F3, R3, g3, rp, e1, e3⟩ := st3
      have rs3 := rs.mono g3.ff g3.mm
      have p3 := p2
      dsimp only [run] at p3
      rw [List.drop_eq_getElem_cons hlt] at p3
      unfold lcL at p3
      by_cases gd : k.gd A2
      · rw [if_pos gd] at p3
        cases z : gf k.ds[i] (wipeS env vs) A2 with
        | none => rw [z] at p3; exact p3.elim
        | some env3 =>
          rw [z] at p3
          have S3 := (((S.stp g1).stp g2).stp g3).wiped vs
          refine hg F3 m2 A2 (L2.wipe σ vs) H3 _ x k.ds[i] env3 R3 S3 rp z _ fun σ3 S4 l4 k4 => ?_
          refine ⟨wipe_same hj l4 k4, ?_⟩
          -- what a step keeps of the new list
          have keep : ∀ {F' m' A' H'}, Rl K ca F' m' A' H' → Stp F3 m2 H3 F' m' H' → H' Dl = some (.lst ws) ∧ Dl ∉ m' ∧ F' Dl = none := fun R' g' => by
            have h1 := g'.kp Dl _ e1 d2 (by intro _ z; cases z)
            refine ⟨h1, fun z => ?_, ?_⟩
            · rcases g'.gm Dl z with y | y
              · exact d2 y
              · exact y.no e1 trivial
            · rename_i F' m' A' H'
              cases w : F' Dl with
              | none => rfl
              | some v =>
                rcases g'.gn Dl (by rw [w]; simp) with y | y | ⟨xs, y⟩
                · exact absurd e3 y
                · exact (y.no e1 trivial).elim
                · have := R'.fh Dl _ y
                  rw [h1] at this; cases this
          refine ht F3 m2 A2 σ3 H3 env3 _ R3 S4 ?_
          cases y : ft env3 A2 with
          | stuck => simp only [y] at p3; exact p3.elim
          | exc C A4 => simp only [y] at p3; exact p3.elim
          | ok bb A4 =>
            intro v F4 m4 H4 R4 g4 ev
            cases (show v = bb from ev)
            cases bb with
            | false =>
              simp only [y] at p3
              obtain ⟨f1, f2, f3⟩ := keep R4 g4
              exact ⟨F4, m4, A4, acc, ws, R4, (g2.trans g3).trans g4, f1, f2, f3, rs3.mono g4.ff g4.mm, p3⟩
            | true =>
              simp only [y] at p3
              have p4 := p3
              refine ha F4 m4 A4 σ3 H4 env3 _ R4 (S4.stp g4) ?_
              cases y2 : a env3 A4 with
              | stuck => simp only [y2] at p4; exact p4.elim
              | exc C A5 => simp only [y2] at p4; exact p4.elim
              | ok dz A5 =>
                simp only [y2] at p4
                by_cases hl : acc.length < sizeLine
                · rw [if_pos hl] at p4
                  intro v F5 m5 H5 R5 g5 rv
                  obtain ⟨f1, f2, f3⟩ := keep R5 (g4.trans g5)
                  refine ⟨ws, f1, by rw [rs.length]; exact hl, ?_⟩
                  have rs5 := rs3.mono (g4.trans g5).ff (g4.trans g5).mm
                  -- the new list grows
                  have ne : ∀ a, a ∈ m5 → a ≠ Dl := fun a ha z => f2 (by rw [← z]; exact ha)
                  have R6 : Rl K ca F5 m5 A5 (upd H5 Dl (.lst (ws ++ [v]))) := ⟨R5.fh.right f3, R5.len, R5.nd, R5.fr, fun j o b h1 h2 => (R5.ob j o b h1 h2).mono (Ex.refl _) (Pre.refl _) fun w hw => by
                    rw [upd_ne (ne b (List.mem_of_getElem? h2))]; exact hw, tabs_upd R5.tb f1 trivial, R5.ft⟩
                  have nD0 : H1 Dl = none := hD
                  have gA : Stp F1 m1 H1 F5 m5 H5 := ((g2.trans g3).trans g4).trans g5
                  have gB : Stp F1 m1 H1 F5 m5 (upd H5 Dl (.lst (ws ++ [v]))) := ⟨gA.ff, gA.mm, fun b w h n nt => by
                      rw [upd_ne fun z => by rw [z, nD0] at h; cases h]; exact gA.kp b w h n nt, gA.gn, gA.gm, fun b h => by
                      by_cases w : b = Dl
                      · rw [w]; exact .none nD0
                      · exact gA.th b (h.back fun u hu => by rw [upd_ne w]; exact hu), fun b od w h => by
                      rw [upd_ne fun z => by rw [z, nD0] at h; cases h]; exact gA.fz b od w h⟩
                  refine ⟨F5, m5, A5, acc ++ [dz], ws ++ [v], R6, gB, upd_same, f2, f3, rs5.append (.cons rv .nil), p4⟩
                · rw [if_neg hl] at p4; exact p4.elim
      · rw [if_neg gd] at p3; exact p3.elim
    · rintro H' ⟨F', m', A', acc, ws, R', g', d1, d2, d3, rs, p'⟩
      dsimp only [run] at p'
      rw [List.drop_length] at p'
      unfold lcL at p'
      by_cases gd : k.gd A'
      · rw [if_pos gd] at p'
        have R2 := R'.take (o := .lst acc) d2 d3 ⟨ws, d1, rs.mono (Ex.refl _) ⟨_, rfl⟩⟩
        refine p' (.ref Dl) F' (m' ++ [Dl]) H' R2 ⟨g'.ff, g'.mm.trans ⟨_, rfl⟩, g'.kp, g'.gn, fun b h => ?_, g'.th, g'.fz⟩ (.ref (by rw [List.getElem?_append_right (by rw [R'.len]; exact Nat.le_refl _), R'.len]; simp))
        rcases List.mem_append.mp h with z | z
        · exact g'.gm b z
        · rw [List.mem_singleton] at z; rw [z]; exact .inr (.none hD)
      · rw [if_neg gd] at p'; exact p'.elim

/-! ### new instances -/
/-! ### methods, by the classes at hand -/
end

/-! ### defs -/
section
variable {P : Program} {w : World} {K : PySem.W.Frag} {ca : CaT} {mg : Str → Option Value} {base : Heap} {x qn : Str} {st : Stmt} {fa : Addr} {fd : FuncData} {N ps : List Str} {k : Nat}
theorem spF_len {n mm : Nat} {b : S} {vs : List V} {H : Hp} {Q : VK} {E : XK} (h : SpF K ca (mkFn n mm b) vs H Q E) : vs.length = n := by
  obtain ⟨F, m, A, ds, R, rs, p⟩ := h
  rw [rs.length]
  unfold mkFn at p
  split at p
  · assumption
  · exact p.elim
theorem run_SpF {n : Nat} {b : S} {t : TS} {vs : List V} {H : Hp} {Q : VK} {E : XK} (h : SpF K ca (mkFn n N.length b) vs H Q E) (hb : SimS K ca (fun cls d _ H => E cls d H) t b) : t { nx := fun _ H' => Q .non H', rt := Q } (L2.start N vs) H := by
  have hl := spF_len h
  obtain ⟨F, m, A, ds, R, rs, p⟩ := h
  have hn : ds.length = n := by rw [← rs.length, hl]
  unfold mkFn at p
  rw [if_pos hn] at p
  have S : Slt K ca F m (L2.start N vs) (ds.map some ++ List.replicate (N.length - n) none) := by
    refine ⟨by unfold L2.start; simp [hl, hn], fun i d h => ?_⟩
    by_cases hi : i < ds.length
    · rw [List.getElem?_append_left (by simpa using hi), List.getElem?_map] at h
      cases z : ds[i]? with
      | none => rw [z] at h; cases h
      | some d' =>
        rw [z] at h; cases h
        obtain ⟨v, h1, h2⟩ := rs.get z
        refine ⟨v, ?_, h2⟩
        unfold L2.start
        have hv : i < vs.length := (List.getElem?_eq_some_iff.mp h1).1
        rw [List.getElem?_append_left (by simpa using hv), List.getElem?_map, h1]; rfl
    · rw [List.getElem?_append_right (by simpa using Nat.le_of_not_lt hi)] at h
      obtain ⟨h1, h2⟩ := List.getElem?_eq_some_iff.mp h
      rw [List.getElem_replicate] at h2
      cases h2
  refine hb F m A _ H _ _ R S ?_
  cases q : b (ds.map some ++ List.replicate (N.length - n) none) A with
  | nx e A' => rw [q] at p; exact fun F' m' σ' H' R' g' S' => p .non F' m' H' R' g' .non
  | rt d A' => rw [q] at p; exact p
  | exc C e A' => rw [q] at p; exact fun F' m' σ' H' R' g' S' => p F' m' H' R' g'
  | bk e A' => rw [q] at p; exact p.elim
  | ct e A' => rw [q] at p; exact p.elim
  | stuck => rw [q] at p; exact p.elim
/-- a def that may raise -/
theorem Fn.ofF {n : Nat} {b : S} (F : Fun K x qn st fa fd) (S : FnScope N ps (defScope st)) (hn : ps.length = n)
    (body : ∀ (cdv : Value) (A : Around) (outer : List PySem.Env) (s : Shared) (H : Hp) (E : XK), Room k (A.deeper (PyProof.Rows.envOfC qn (defScope st) s.heap.objs.size fa cdv)) →
      ∃ t, PSs (cxOf (L2.CX P w) P w K mg base N qn (defScope st) fa cdv A outer s H E) (defBody st) t ∧ SimS K ca (fun cls d _ H => E cls d H) t b) : FnOk P w K mg base (L2.CX P w) (k + 1) fa fd ps (SpF K ca (mkFn n N.length b)) :=
  F.okX S (fun vs H Q E h => by rw [hn]; exact spF_len h) fun cdv A outer s H vs Q E hr h => by
    obtain ⟨t, h1, h2⟩ := body cdv A outer s H E hr
    exact ⟨t, h1, run_SpF h h2⟩
/-- a def that lets nothing out -/
theorem Fn.ofF0 {n : Nat} {b : S} (F : Fun K x qn st fa fd) (S : FnScope N ps (defScope st)) (hn : ps.length = n)
    (body : ∀ (cdv : Value) (A : Around) (outer : List PySem.Env) (s : Shared) (H : Hp) (E : XK), Room k (A.deeper (PyProof.Rows.envOfC qn (defScope st) s.heap.objs.size fa cdv)) →
      ∃ t, PSs (cxOf CX0 P w K mg base N qn (defScope st) fa cdv A outer s H E).nox (defBody st) t ∧ SimS K ca (fun cls d _ H => E cls d H) t b) : FnOk P w K mg base CX0 (k + 1) fa fd ps (SpF K ca (mkFn n N.length b)) :=
  F.ok S (fun vs H Q E h => by rw [hn]; exact spF_len h) fun cdv A outer s H vs Q E hr h => by
    obtain ⟨t, h1, h2⟩ := body cdv A outer s H E hr
    exact ⟨t, h1, run_SpF h h2⟩
end
/-! ### methods by name -/
structure Mt (P : Program) (w : World) (K : PySem.W.Frag) (mg : Str → Option Value) (base : Heap) (k : Nat) (C : Addr) (mm : Str) (sp : Sp) : Prop where
  ex : ∃ (f : Addr) (fd : FuncData) (ps : List Str), Meth K C mm f ∧ FnOk P w K mg base (L2.CX P w) k f fd ps sp ∧ Binds K fd ps []
theorem Mt.of {P : Program} {w : World} {K : PySem.W.Frag} {mg : Str → Option Value} {base : Heap} {k : Nat} {C fa : Addr} {mm : Str} {fd : FuncData} {ps : List Str} {sp : Sp} (M : Meth K C mm fa) (h : FnOk P w K mg base (L2.CX P w) k fa fd ps sp) (b : Binds K fd ps []) : Mt P w K mg base k C mm sp := ⟨fa, fd, ps, M, h, b⟩
section
variable {X : Cx} {W : WX} {k j : Nat} {x mm : Str} {C : Addr} {sp : Sp} {p pos apos : Pos} {o e : Expr} {es : List Expr} {t : TA} {ta : TE}
open DL (Dx)
end
end SM

/-! ## == and in, of data of any texts -/
namespace L2
open PySem PySem.Spec PyProof.Rows
/-- two lists of different lengths -/
def UnL (H : Hp) (x y : V) : Prop := ∃ a b xs ys, x = .ref a ∧ y = .ref b ∧ H a = some (.lst xs) ∧ H b = some (.lst ys) ∧ xs.length ≠ ys.length
def rEqP (K : PySem.W.Frag) : R2 := fun x y H Q => (∃ d e, Dp K H x d ∧ Dp K H y e ∧ d.plain = true ∧ e.plain = true ∧ d.depth ≤ 60 ∧ Q (.bl (PyData.eqv d e)) H) ∨ (UnL H x y ∧ Q (.bl false) H)
def rNeP (K : PySem.W.Frag) : R2 := fun x y H Q => (∃ d e, Dp K H x d ∧ Dp K H y e ∧ d.plain = true ∧ e.plain = true ∧ d.depth ≤ 60 ∧ Q (.bl (!PyData.eqv d e)) H) ∨ (UnL H x y ∧ Q (.bl true) H)
theorem op_eqP {X : Cx} (hu : X.A.units + 64 < cLine) : OpR X (compareOp .Eq) (rEqP X.K) := by
  intro pins s σ H x y v u Q I rx ry h
  rcases h with ⟨d, e, hd, he, sd, se, dp, q⟩ | ⟨⟨a, b, xs, ys, rfl, rfl, ha, hb, hl⟩, q⟩
  · obtain ⟨as, r1⟩ := Dp.reads I d x v hd rx
    obtain ⟨bs, r2⟩ := Dp.reads I e y u he ry
    exact PySem.SeqAt.eq_plain r1 r2 sd se (by omega) ⟨.bl _, H, I, rfl, q⟩
  · cases (show v = Value.ref a from rx)
    cases (show u = Value.ref b from ry)
    obtain ⟨us, r1, p1, _⟩ := I.list (.inl (.inl ha))
    obtain ⟨ws, r2, p2, _⟩ := I.list (.inl (.inl hb))
    refine PySem.SeqAt.eq_list_lengthsAt p1.isList p2.isList ?_ (by omega) ⟨.bl _, H, I, rfl, q⟩
    rw [List.size_toArray, List.size_toArray, ← r1.length, ← r2.length]
    simpa using hl
theorem op_neP {X : Cx} (hu : X.A.units + 64 < cLine) : OpR X (compareOp .NotEq) (rNeP X.K) := by
  intro pins s σ H x y v u Q I rx ry h
  rcases h with ⟨d, e, hd, he, sd, se, dp, q⟩ | ⟨⟨a, b, xs, ys, rfl, rfl, ha, hb, hl⟩, q⟩
  · obtain ⟨as, r1⟩ := Dp.reads I d x v hd rx
    obtain ⟨bs, r2⟩ := Dp.reads I e y u he ry
    exact PySem.SeqAt.ne_plain r1 r2 sd se (by omega) ⟨.bl _, H, I, rfl, q⟩
  · cases (show v = Value.ref a from rx)
    cases (show u = Value.ref b from ry)
    obtain ⟨us, r1, p1, _⟩ := I.list (.inl (.inl ha))
    obtain ⟨ws, r2, p2, _⟩ := I.list (.inl (.inl hb))
    refine PySem.SeqAt.RcNeAt.lists_lengths p1.isList p2.isList ?_ (by omega) X.prog X.w _ _ ⟨.bl _, H, I, rfl, q⟩
    rw [List.size_toArray, List.size_toArray, ← r1.length, ← r2.length]
    simpa using hl
end L2
namespace SM
open PySem L2
open DL (Ex ExK rAddU rSubU rMulA rDivU rModU rPowU rShlU rShrU rAndU rOrU rXorU rLtU rLeU rGtU rGeU rIsU rNotU)

/-! ### data read as Python's -/
def allSome {α : Type} : List (Option α) → Option (List α)
  | [] => some []
  | some a :: r => (allSome r).map (a :: ·)
  | none :: _ => none
def pyA (A : Hs) : Nat → D → Option PyData
  | _, .non => some .none
  | _, .bl b => some (.bool b)
  | _, .int i => some (.int i)
  | _, .str x => some (.str x)
  | n + 1, .tup l => (allSome (l.map (pyA A n))).map .tuple
  | n + 1, .wt l => (allSome (l.map (pyA A n))).map .tuple
  | n + 1, .scr l => (allSome (l.map (pyA A n))).map .list
  | n + 1, .ref i => match A[i]? with
    | some (.lst l) => (allSome (l.map (pyA A n))).map .list
    | _ => none
  | _, _ => none

/-- two lists of different lengths -/
def unL (A : Hs) (x y : D) : Option Bool := match x, y with
  | .ref i, .ref j => match A[i]?, A[j]? with
    | some (.lst l), some (.lst k) => if l.length = k.length then none else some false
    | _, _ => none
  | _, _ => none
def eqA (A : Hs) (x y : D) : Option Bool := match pyA A 40 x, pyA A 40 y with
  | some p, some q => some (PyData.eqv p q)
  | _, _ => unL A x y
def oB (f : Hs → D → D → Option Bool) (x y : D) (A : Hs) : RE D := match f A x y with
  | some b => .ok (.bl b) A
  | none => .stuck
def oEq : D → D → Hs → RE D := oB eqA
def oNe : D → D → Hs → RE D := oB fun A x y => (eqA A x y).map (!·)
section
variable {K : PySem.W.Frag} {ca : CaT} {F F1 F2 H H1 H2 : Hp} {m m1 m2 : List Addr} {A A1 A2 : Hs} {σ : L2.St} {env : Sl} {W : WX} {Q : VK}
theorem dp_all {n : Nat} (R : Rl K ca F m A H) (ih : ∀ {v : V} {d : D} {p : PyData}, Rep K ca F m v d → pyA A n d = some p → Dp K H v p ∧ p.plain = true ∧ p.depth ≤ n) :
    ∀ {vs : List V} {l : List D} {ps : List PyData}, RepL K ca F m vs l → allSome (l.map (pyA A n)) = some ps → DpAll K H vs ps ∧ PyData.plainAll ps = true ∧ PyData.depthAll ps ≤ n
  | _, _, _, .nil, h => by cases h; exact ⟨.nil, rfl, Nat.zero_le _⟩
  | _, _, _, .cons (d := d) (ds := ds) r rs, h => by
    rw [List.map_cons] at h
    cases q : pyA A n d with
    | none => rw [q] at h; cases h
    | some p =>
      rw [q] at h
      unfold allSome at h
      cases q2 : allSome (ds.map (pyA A n)) with
      | none => rw [q2] at h; cases h
      | some ps =>
        rw [q2] at h
        cases h
        obtain ⟨h1, h2, h3⟩ := ih r q
        obtain ⟨g1, g2, g3⟩ := dp_all R ih rs q2
        exact ⟨.cons h1 g1, by unfold PyData.plainAll; rw [h2, g2]; rfl, by unfold PyData.depthAll; omega⟩
theorem dp_of (R : Rl K ca F m A H) : ∀ {n : Nat} {v : V} {d : D} {p : PyData}, Rep K ca F m v d → pyA A n d = some p → Dp K H v p ∧ p.plain = true ∧ p.depth ≤ n := by
  intro n
  induction n with
  | zero =>
    intro v d p r h
    cases r <;> simp [pyA] at h <;> subst h <;> exact ⟨by constructor, rfl, Nat.zero_le _⟩
  | succ n ih =>
    intro v d p r h
    cases r with
    | non => simp [pyA] at h; subst h; exact ⟨.non, rfl, Nat.zero_le _⟩
    | bl b => simp [pyA] at h; subst h; exact ⟨.bl b, rfl, Nat.zero_le _⟩
    | int i => simp [pyA] at h; subst h; exact ⟨.int i, rfl, Nat.zero_le _⟩
    | str x => simp [pyA] at h; subst h; exact ⟨.str x, rfl, Nat.zero_le _⟩
    | ty n => simp [pyA] at h
    | nm x => simp [pyA] at h
    | exc h' => simp [pyA] at h
    | tup s rs =>
      unfold pyA at h
      cases q : allSome (List.map (pyA A n) _) with
      | none => rw [q] at h; cases h
      | some ps =>
        rw [q] at h; cases h
        obtain ⟨h1, h2, h3⟩ := dp_all R ih rs q
        exact ⟨.tup (.inl (.inl (R.fh _ _ s))) h1, h2, by unfold PyData.depth; omega⟩
    | wt s rs =>
      unfold pyA at h
      cases q : allSome (List.map (pyA A n) _) with
      | none => rw [q] at h; cases h
      | some ps =>
        rw [q] at h; cases h
        obtain ⟨h1, h2, h3⟩ := dp_all R ih rs q
        exact ⟨.tup (R.fh.t s) h1, h2, by unfold PyData.depth; omega⟩
    | scr s rs =>
      unfold pyA at h
      cases q : allSome (List.map (pyA A n) _) with
      | none => rw [q] at h; cases h
      | some ps =>
        rw [q] at h; cases h
        obtain ⟨h1, h2, h3⟩ := dp_all R ih rs q
        exact ⟨.lst (R.fh.l s) h1, h2, by unfold PyData.depth; omega⟩
    | ref hm =>
      rename_i a i
      unfold pyA at h
      cases q0 : A[i]? with
      | none => simp [q0] at h
      | some o =>
        cases o with
        | lst l =>
          simp only [q0] at h
          obtain ⟨a', e, ha, vs, h1, h2⟩ := R.at (v := .ref a) q0 (.ref hm)
          cases e
          cases q : allSome (List.map (pyA A n) l) with
          | none => rw [q] at h; cases h
          | some ps =>
            rw [q] at h; cases h
            obtain ⟨h3, h4, h5⟩ := dp_all R ih h2 q
            exact ⟨.lst (.inl (.inl h1)) h3, h4, by unfold PyData.depth; omega⟩
        | dic _ _ _ => simp [q0] at h
        | obj _ _ => simp [q0] at h
        | nd _ => simp [q0] at h
theorem po_ok {α β : Type} {Rr : Hp → List Addr → β → α → Prop} {Q : β → Hp → Prop} {v : β} {d : α} (R : Rl K ca F m A H) (r : Rr F m v d) (p : Po K ca Rr F m H W σ Q (.ok d A)) : Q v H := p v F m H R Stp.refl r
theorem unL_of {x y : V} {dx dy : D} {b : Bool} (R : Rl K ca F m A H) (rx : Rep K ca F m x dx) (ry : Rep K ca F m y dy) (h : unL A dx dy = some b) : b = false ∧ UnL H x y := by
  unfold unL at h
  split at h
  · rename_i i j
    cases q1 : A[i]? with
    | none => simp [q1] at h
    | some o1 =>
      cases o1 with
      | lst l =>
        cases q2 : A[j]? with
        | none => simp [q1, q2] at h
        | some o2 =>
          cases o2 with
          | lst k =>
            simp only [q1, q2] at h
            split at h
            · cases h
            · rename_i hn
              obtain ⟨a, e, _, vs, h1, h2⟩ := R.at q1 rx
              obtain ⟨a', e', _, vs', h1', h2'⟩ := R.at q2 ry
              refine ⟨(Option.some.inj h).symm, a, a', vs, vs', e, e', h1, h1', ?_⟩
              rw [h2.length, h2'.length]
              exact hn
          | dic _ _ _ => simp [q1, q2] at h
          | obj _ _ => simp [q1, q2] at h
          | nd _ => simp [q1, q2] at h
      | dic _ _ _ => simp [q1] at h
      | obj _ _ => simp [q1] at h
      | nd _ => simp [q1] at h
  · cases h
theorem os_eq : OpS K ca (rEqP K) oEq := fun F m A H x y dx dy W σ Q R rx ry p => by
  unfold oEq oB at p
  cases q : eqA A dx dy with
  | none => rw [q] at p; exact p.elim
  | some b =>
    rw [q] at p
    unfold eqA at q
    split at q
    · rename_i p1 p2 q1 q2
      obtain ⟨a1, a2, a3⟩ := dp_of R rx q1
      obtain ⟨b1, b2, b3⟩ := dp_of R ry q2
      cases q
      exact .inl ⟨p1, p2, a1, b1, a2, b2, by omega, po_ok R (.bl _) p⟩
    · obtain ⟨rfl, u⟩ := unL_of R rx ry q
      exact .inr ⟨u, po_ok R (.bl _) p⟩
theorem os_ne : OpS K ca (rNeP K) oNe := fun F m A H x y dx dy W σ Q R rx ry p => by
  unfold oNe oB at p
  cases q : eqA A dx dy with
  | none => simp only [q, Option.map] at p; exact p.elim
  | some b =>
    simp only [q, Option.map] at p
    unfold eqA at q
    split at q
    · rename_i p1 p2 q1 q2
      obtain ⟨a1, a2, a3⟩ := dp_of R rx q1
      obtain ⟨b1, b2, b3⟩ := dp_of R ry q2
      cases q
      exact .inl ⟨p1, p2, a1, b1, a2, b2, by omega, po_ok R (.bl _) p⟩
    · obtain ⟨rfl, u⟩ := unL_of R rx ry q
      exact .inr ⟨u, po_ok R (.bl _) p⟩

/-! ### operators on ints -/
def oII (f : Int → Int → Option D) (x y : D) (A : Hs) : RE D := match x, y with
  | .int i, .int j => match f i j with
    | some d => .ok d A
    | none => .stuck
  | _, _ => .stuck
theorem os_ii {r : R2} {f : Int → Int → Option D} (h : ∀ i j d, f i j = some d → ∃ z, (∀ F m, Rep K ca F m z d) ∧ ∀ H Q, Q z H → r (.int i) (.int j) H Q) : OpS K ca r (oII f) := fun F m A H x y dx dy W σ Q R rx ry p => by
  cases rx with
  | int i =>
    cases ry with
    | int j =>
      unfold oII at p
      simp only at p
      cases q : f i j with
      | none => rw [q] at p; exact p.elim
      | some d =>
        rw [q] at p
        obtain ⟨z, hz, k⟩ := h i j d q
        exact k H Q (po_ok R (hz F m) p)
    | _ => exact p.elim
  | _ => exact p.elim
def oSub := oII fun i j => some (.int (i - j))
def oDiv := oII fun i j => if 0 < j ∧ j.natAbs.log2 < 9000 then some (.int (i / j)) else none
def oMod := oII fun i j => if 0 < j then some (.int (i % j)) else none
open Classical in
noncomputable def oPow := oII fun i j => if CPow i j then some (.int (i ^ j.toNat)) else none
def oLt := oII fun i j => some (.bl (decide (i < j)))
def oLe := oII fun i j => some (.bl (decide (i ≤ j)))
def oGt := oII fun i j => some (.bl (decide (j < i)))
def oGe := oII fun i j => some (.bl (decide (j ≤ i)))
theorem os_sub : OpS K ca rSubU oSub := os_ii fun i j d h => by cases h; exact ⟨_, fun _ _ => .int _, fun H Q q => ⟨i, j, rfl, rfl, q⟩⟩
theorem os_div : OpS K ca rDivU oDiv := os_ii fun i j d h => by
  split at h
  · rename_i z; cases h; exact ⟨_, fun _ _ => .int _, fun H Q q => ⟨i, j, rfl, rfl, z, q⟩⟩
  · cases h
theorem os_mod : OpS K ca rModU oMod := os_ii fun i j d h => by
  split at h
  · rename_i z; cases h; exact ⟨_, fun _ _ => .int _, fun H Q q => ⟨i, j, rfl, rfl, z, q⟩⟩
  · cases h
theorem os_pow : OpS K ca rPowU oPow := os_ii fun i j d h => by
  split at h
  · rename_i z; cases h; exact ⟨_, fun _ _ => .int _, fun H Q q => ⟨i, j, rfl, rfl, z, q⟩⟩
  · cases h
theorem os_le : OpS K ca rLeU oLe := os_ii fun i j d h => by cases h; exact ⟨_, fun _ _ => .bl _, fun H Q q => ⟨i, j, rfl, rfl, q⟩⟩
theorem os_gt : OpS K ca rGtU oGt := os_ii fun i j d h => by cases h; exact ⟨_, fun _ _ => .bl _, fun H Q q => ⟨i, j, rfl, rfl, q⟩⟩
theorem os_ge : OpS K ca rGeU oGe := os_ii fun i j d h => by cases h; exact ⟨_, fun _ _ => .bl _, fun H Q q => ⟨i, j, rfl, rfl, q⟩⟩
def oNeg (x : D) (A : Hs) : RE D := match x with
  | .int i => .ok (.int (-i)) A
  | _ => .stuck
theorem us_neg : UnS K ca (rU fun i => .int (-i)) oNeg := fun F m A H x dx W σ Q R rx p => by
  cases rx with
  | int i => exact ⟨i, rfl, po_ok R (.int _) p⟩
  | _ => exact p.elim
/-- a list that may be read -/
def seqL (A : Hs) : D → Option (List D)
  | .ref i => match A[i]? with
    | some (.lst l) => some l
    | _ => none
  | .scr l => some l
  | _ => none
def seqT : D → Option (List D)
  | .tup l => some l
  | .wt l => some l
  | _ => none
theorem seqL_at {x : V} {d : D} {l : List D} (R : Rl K ca F m A H) (r : Rep K ca F m x d) (h : seqL A d = some l) : ∃ a vs, x = .ref a ∧ SqL K H a vs ∧ RepL K ca F m vs l := by
  cases r with
  | ref hm =>
    rename_i a i
    unfold seqL at h
    simp only at h
    cases q : A[i]? with
    | none => simp [q] at h
    | some o =>
      cases o with
      | lst l' =>
        simp [q] at h; subst h
        obtain ⟨a', e, ha, vs, h1, h2⟩ := R.at (v := .ref a) q (.ref hm)
        cases e
        exact ⟨a, vs, rfl, .inl (.inl h1), h2⟩
      | dic _ _ _ => simp [q] at h
      | obj _ _ => simp [q] at h
      | nd _ => simp [q] at h
  | scr s rs => cases h; exact ⟨_, _, rfl, R.fh.l s, rs⟩
  | _ => cases h
theorem seqT_at {x : V} {d : D} {l : List D} (R : Rl K ca F m A H) (r : Rep K ca F m x d) (h : seqT d = some l) : ∃ a vs, x = .ref a ∧ SqT K H a vs ∧ RepL K ca F m vs l := by
  cases r with
  | tup s rs => cases h; exact ⟨_, _, rfl, .inl (.inl (R.fh _ _ s)), rs⟩
  | wt s rs => cases h; exact ⟨_, _, rfl, R.fh.t s, rs⟩
  | _ => cases h
/-- a list of the plain heap -/
theorem lst_at {x : V} {i : Nat} {l : List D} (R : Rl K ca F m A H) (r : Rep K ca F m x (.ref i)) (h : A[i]? = some (.lst l)) : ∃ a vs, x = .ref a ∧ m[i]? = some a ∧ H a = some (.lst vs) ∧ RepL K ca F m vs l := by
  obtain ⟨a, e, ha, vs, h1, h2⟩ := R.at h r
  exact ⟨a, vs, e, ha, h1, h2⟩
theorem lst_put {i : Nat} {l' : List D} {vs' : List V} (R : Rl K ca F m A H) {a : Addr} {vs : List V} (ha : m[i]? = some a) (h1 : H a = some (.lst vs)) (r : RepL K ca F m vs' l') :
    Rl K ca F m (A.set i (.lst l')) (upd H a (.lst vs')) ∧ Stp F m H F m (upd H a (.lst vs')) :=
  R.put (o' := .lst l') ha (fun od w z => by rw [h1] at z; cases z) ⟨vs', upd_same, r⟩

/-! ### + -/
def oAdd (x y : D) (A : Hs) : RE D := match x, y with
  | .int i, .int j => .ok (.int (i + j)) A
  | .str a, .str b => if a.length + b.length ≤ sizeLine then .ok (.str (a ++ b)) A else .stuck
  | .tup l, .tup k => if l.length + k.length ≤ sizeLine then .ok (.tup (l ++ k)) A else .stuck
  | .wt l, .tup k => if l ≠ [] ∧ l.length + k.length ≤ sizeLine then .ok (if k.isEmpty then .wt l else .tup (l ++ k)) A else .stuck
  | .tup l, .wt k => if k ≠ [] ∧ l.length + k.length ≤ sizeLine then .ok (if l.isEmpty then .wt k else .tup (l ++ k)) A else .stuck
  | .ref i, .ref j => match A[i]?, A[j]? with
    | some (.lst l), some (.lst k) => if l.length + k.length ≤ sizeLine then alloc A (.lst (l ++ k)) else .stuck
    | _, _ => .stuck
  | _, _ => .stuck
theorem os_add : OpS K ca (rAddU K) oAdd := fun F m A H x y dx dy W σ Q R rx ry p => by
  cases rx with
  | int i =>
    cases ry with
    | int j => exact .inl ⟨i, j, rfl, rfl, po_ok R (.int _) p⟩
    | _ => exact p.elim
  | str a =>
    cases ry with
    | str b =>
      unfold oAdd at p
      simp only at p
      split at p
      · rename_i hl; exact .inr (.inl ⟨a, b, rfl, rfl, hl, po_ok R (.str _) p⟩)
      · exact p.elim
    | _ => exact p.elim
  | tup s rs =>
    cases ry with
    | tup s' rs' =>
      rename_i a vs l b ws k
      unfold oAdd at p
      simp only at p
      split at p
      · rename_i hl
        refine .inr (.inr (.inl ⟨a, b, vs, ws, rfl, rfl, .inl (.inl (R.fh _ _ s)), .inl (.inl (R.fh _ _ s')), by rw [rs.length, rs'.length]; exact hl, fun e => ?_, fun _ e => ?_, fun _ _ q hq => ?_⟩))
        · subst e; cases rs; exact po_ok R (.tup s' rs') p
        · subst e; cases rs'; rw [List.append_nil] at p; exact po_ok R (.tup s rs) p
        · obtain ⟨R2, g2⟩ := R.new (u := .tup (vs ++ ws)) hq
          exact p _ _ _ _ R2 g2 (.tup upd_same ((rs.append rs').mono g2.ff g2.mm))
      · exact p.elim
    | wt s' rs' =>
      rename_i a vs l b ws k
      unfold oAdd at p
      simp only at p
      split at p
      · rename_i hl
        refine .inr (.inr (.inl ⟨a, b, vs, ws, rfl, rfl, .inl (.inl (R.fh _ _ s)), R.fh.t s', by rw [rs.length, rs'.length]; exact hl.2, fun e => ?_, fun _ e => ?_, fun n1 _ q hq => ?_⟩))
        · subst e; cases rs; exact po_ok R (.wt s' rs') p
        · subst e; cases rs'; exact absurd rfl hl.1
        · obtain ⟨R2, g2⟩ := R.new (u := .tup (vs ++ ws)) hq
          have : l.isEmpty = false := by
            cases rs with
            | nil => exact absurd rfl n1
            | cons _ _ => rfl
          rw [this] at p
          exact p _ _ _ _ R2 g2 (.tup upd_same ((rs.append rs').mono g2.ff g2.mm))
      · exact p.elim
    | _ => exact p.elim
  | wt s rs =>
    cases ry with
    | tup s' rs' =>
      rename_i a vs l b ws k
      unfold oAdd at p
      simp only at p
      split at p
      · rename_i hl
        refine .inr (.inr (.inl ⟨a, b, vs, ws, rfl, rfl, R.fh.t s, .inl (.inl (R.fh _ _ s')), by rw [rs.length, rs'.length]; exact hl.2, fun e => ?_, fun _ e => ?_, fun _ n2 q hq => ?_⟩))
        · subst e; cases rs; exact absurd rfl hl.1
        · subst e; cases rs'; exact po_ok R (.wt s rs) p
        · obtain ⟨R2, g2⟩ := R.new (u := .tup (vs ++ ws)) hq
          have : k.isEmpty = false := by
            cases rs' with
            | nil => exact absurd rfl n2
            | cons _ _ => rfl
          rw [this] at p
          exact p _ _ _ _ R2 g2 (.tup upd_same ((rs.append rs').mono g2.ff g2.mm))
      · exact p.elim
    | _ => exact p.elim
  | ref hm =>
    cases ry with
    | ref hm' =>
      rename_i a i b j
      unfold oAdd at p
      simp only at p
      split at p
      · rename_i l k q1 q2
        split at p
        · rename_i hl
          obtain ⟨a', vs, e1, h1, h2, h3⟩ := lst_at R (.ref hm) q1
          obtain ⟨b', ws, e2, h4, h5, h6⟩ := lst_at R (.ref hm') q2
          refine .inr (.inr (.inr ⟨a', b', vs, ws, e1, e2, h2, h5, by rw [h3.length, h6.length]; exact hl, fun q hq => ?_⟩))
          exact po_alloc (o := .lst (l ++ k)) R hq ⟨_, upd_same, (h3.append h6).mono (Ex.refl _) ⟨_, rfl⟩⟩ p
        · exact p.elim
      · exact p.elim
    | _ => exact p.elim
  | _ => exact p.elim
/-! ### * -/
open Classical in
noncomputable def oMul (x y : D) (A : Hs) : RE D := match x, y with
  | .int i, .int j => if CMul i j ∨ CMulX i j then .ok (.int (i * j)) A else .stuck
  | .tup l, .int j => if l.length ≤ 1000 ∧ -1000 ≤ j ∧ j ≤ 4000 then .ok (.tup (List.replicate j.toNat l).flatten) A else .stuck
  | .ref i, .int j => match A[i]? with
    | some (.lst l) => if -(2 ^ 63) ≤ j ∧ j < 2 ^ 63 ∧ l.length * j.toNat ≤ sizeLine then alloc A (.lst (List.replicate j.toNat l).flatten) else .stuck
    | _ => .stuck
  | _, _ => .stuck
theorem os_mul : OpS K ca (rMulA K) oMul := fun F m A H x y dx dy W σ Q R rx ry p => by
  cases ry with
  | int j =>
    cases rx with
    | int i =>
      unfold oMul at p
      simp only at p
      split at p
      · rename_i hc
        refine .inl ?_
        rcases hc with hc | hc
        · exact .inl ⟨i, j, rfl, rfl, hc, po_ok R (.int _) p⟩
        · exact .inr (.inl ⟨i, j, rfl, rfl, hc, po_ok R (.int _) p⟩)
      · exact p.elim
    | tup s rs =>
      rename_i a vs l
      unfold oMul at p
      simp only at p
      split at p
      · rename_i hc
        have lv := rs.length
        refine .inr ⟨a, j, vs, rfl, rfl, .inl (.inl (R.fh _ _ s)), hc.2.2, hc.2.1, by omega, fun e => ?_, fun e => ?_, fun n1 n2 q hq => ?_⟩
        · subst e; cases rs
          have : (List.replicate j.toNat ([] : List D)).flatten = [] := by simp
          rw [this] at p
          exact po_ok R (.tup s .nil) p
        · subst e
          have : (List.replicate (1 : Int).toNat l).flatten = l := by simp
          rw [this] at p
          exact po_ok R (.tup s rs) p
        · obtain ⟨R2, g2⟩ := R.new (u := .tup (List.replicate j.toNat vs).flatten) hq
          exact p _ _ _ _ R2 g2 (.tup upd_same ((rs.flatRep _).mono g2.ff g2.mm))
      · exact p.elim
    | ref hm =>
      rename_i a i
      unfold oMul at p
      simp only at p
      split at p
      · rename_i l q1
        split at p
        · rename_i hc
          obtain ⟨a', vs, e1, h1, h2, h3⟩ := lst_at R (.ref hm) q1
          refine .inl (.inr (.inr ⟨a', j, vs, e1, rfl, h2, hc.1, hc.2.1, by rw [h3.length]; exact hc.2.2, fun q hq => ?_⟩))
          exact po_alloc (o := .lst (List.replicate j.toNat l).flatten) R hq ⟨_, upd_same, (h3.flatRep _).mono (Ex.refl _) ⟨_, rfl⟩⟩ p
        · exact p.elim
      · exact p.elim
    | _ => exact p.elim
  | _ => cases rx <;> exact p.elim
/-! ### is -/
def isNon : D → Bool
  | .non => true
  | _ => false
theorem rep_non {v : V} {d : D} (h : Rep K ca F m v d) : decide (v = V.non) = isNon d := by
  cases h <;> first | rfl | simp [isNon]
def oIs (x y : D) (A : Hs) : RE D := match y with
  | .non => .ok (.bl (isNon x)) A
  | .bl c => match x with
    | .bl b => .ok (.bl (decide (b = c))) A
    | _ => .stuck
  | _ => .stuck
def oIsNot (x y : D) (A : Hs) : RE D := match y with
  | .non => .ok (.bl (!isNon x)) A
  | .bl c => match x with
    | .bl b => .ok (.bl (!decide (b = c))) A
    | _ => .stuck
  | _ => .stuck
theorem os_is : OpS K ca rIsU oIs := fun F m A H x y dx dy W σ Q R rx ry p => by
  cases ry with
  | non => refine .inl ⟨rfl, ?_⟩; rw [rep_non rx]; exact po_ok R (.bl _) p
  | bl c =>
    cases rx with
    | bl b => exact .inr ⟨b, c, rfl, rfl, po_ok R (.bl _) p⟩
    | _ => exact p.elim
  | _ => exact p.elim
theorem os_isnot : OpS K ca rNotU oIsNot := fun F m A H x y dx dy W σ Q R rx ry p => by
  cases ry with
  | non => refine .inl ⟨rfl, ?_⟩; rw [rep_non rx]; exact po_ok R (.bl _) p
  | bl c =>
    cases rx with
    | bl b => exact .inr ⟨b, c, rfl, rfl, po_ok R (.bl _) p⟩
    | _ => exact p.elim
  | _ => exact p.elim
/-! ### subscripts -/
def oIx (x y : D) (A : Hs) : RE D := match y with
  | .int i => match seqL A x with
    | some l => match atI l i with
      | some d => .ok d A
      | none => .stuck
    | none => match seqT x with
      | some l => match atI l i with
        | some d => .ok d A
        | none => .stuck
      | none => match x with
        | .str z => if z.length ≤ sizeLine then match atI z.cps.toList i with
            | some c => .ok (.str ⟨#[c]⟩) A
            | none => .stuck
          else .stuck
        | _ => .stuck
  | _ => .stuck
theorem atI_rep {vs : List V} {l : List D} {i : Int} {d : D} (p : RepL K ca F m vs l) (h : atI l i = some d) : ∃ v, atI vs i = some v ∧ Rep K ca F m v d := by
  unfold atI at h ⊢
  obtain ⟨n, e, g⟩ := Option.bind_eq_some_iff.mp h
  obtain ⟨z, z1, z2⟩ := p.get g
  exact ⟨z, by rw [p.length, e]; exact z1, z2⟩
theorem os_ix : OpS K ca (rIx K) oIx := fun F m A H x y dx dy W σ Q R rx ry p => by
  cases ry with
  | int i =>
    unfold oIx at p
    simp only at p
    split at p
    · rename_i l hl
      split at p
      · rename_i d hd
        obtain ⟨a, vs, e, h1, h2⟩ := seqL_at R rx hl
        obtain ⟨v, h3, h4⟩ := atI_rep h2 hd
        exact .inl ⟨a, vs, i, v, e, rfl, h1, h3, po_ok R h4 p⟩
      · exact p.elim
    · split at p
      · rename_i l hl
        split at p
        · rename_i d hd
          obtain ⟨a, vs, e, h1, h2⟩ := seqT_at R rx hl
          obtain ⟨v, h3, h4⟩ := atI_rep h2 hd
          exact .inr (.inl ⟨a, vs, i, v, e, rfl, h1, h3, po_ok R h4 p⟩)
        · exact p.elim
      · cases rx with
        | str z =>
          simp only at p
          split at p
          · rename_i hz
            split at p
            · rename_i c hc
              exact .inr (.inr ⟨z, i, c, rfl, rfl, hz, hc, po_ok R (.str _) p⟩)
            · exact p.elim
          · exact p.elim
        | _ => exact p.elim
  | _ => exact p.elim
def cutD {α : Type} (xs : List α) (lo hi : Option Int) : List α := (xs.drop (HT.sIx xs.length 0 lo)).take (HT.sIx xs.length xs.length hi - HT.sIx xs.length 0 lo)
theorem cut_rep {vs : List V} {l : List D} {lo hi : Option Int} (h : RepL K ca F m vs l) : RepL K ca F m (cutV vs lo hi) (cutD l lo hi) := by
  unfold cutV cutD
  rw [h.length]
  exact (h.drop _).take _
def oSl (x : D) (lo hi : Option Int) (A : Hs) : RE D := match seqL A x with
  | some l => alloc A (.lst (cutD l lo hi))
  | none => match x with
    | .tup l => .ok (.tup (cutD l lo hi)) A
    | .str z => if z.length ≤ sizeLine then .ok (.str (cutS z lo hi)) A else .stuck
    | _ => .stuck
theorem sls_all : SlS K ca (DL.rSlU K) oSl := fun F m A H x dx lo hi W σ Q R rx p => by
  unfold oSl at p
  split at p
  · rename_i l hl
    obtain ⟨a, vs, e, h1, h2⟩ := seqL_at R rx hl
    exact .inl ⟨a, vs, e, h1, fun q hq => po_alloc (o := .lst (cutD l lo hi)) R hq ⟨_, upd_same, (cut_rep h2).mono (Ex.refl _) ⟨_, rfl⟩⟩ p⟩
  · cases rx with
    | @tup a vs l s rs =>
      refine .inr (.inl ⟨a, vs, rfl, .inl (.inl (R.fh _ _ s)), fun hw => ?_, fun _ q hq => ?_⟩)
      · have e : cutD l lo hi = l := by
          unfold cutD
          rw [← rs.length, hw.1, hw.2]
          simp [rs.length]
        simp only [e] at p
        exact po_ok R (.tup s rs) p
      · obtain ⟨R2, g2⟩ := R.new (u := .tup (cutV vs lo hi)) hq
        exact p _ _ _ _ R2 g2 (.tup upd_same ((cut_rep rs).mono g2.ff g2.mm))
    | str z =>
      simp only at p
      split at p
      · rename_i hz; exact .inr (.inr ⟨z, rfl, hz, po_ok R (.str _) p⟩)
      · exact p.elim
    | _ => exact p.elim
def oRev (x : D) (A : Hs) : RE D := match seqL A x with
  | some l => alloc A (.lst l.reverse)
  | none => .stuck
/-! ### which of two readings -/
theorem Sim.pick {α β : Type} {Rr : Hp → List Addr → β → α → Prop} {t u : L2.St → Hp → (β → Hp → Prop) → Prop} {f g h : Sl → Hs → RE α} (h1 : Sim K ca Rr W t g) (h2 : Sim K ca Rr W u h) (k : ∀ env A, f env A = g env A ∨ f env A = h env A) : Sim K ca Rr W (fun σ H Q => t σ H Q ∨ u σ H Q) f := fun F m A σ H env Q R S p => by
  rcases k env A with q | q
  · rw [q] at p; exact .inl (h1 F m A σ H env Q R S p)
  · rw [q] at p; exact .inr (h2 F m A σ H env Q R S p)
end
end SM

namespace L2
open PySem PySem.Spec PyProof.Rows
/-- x in a list or tuple of data -/
def rInP (K : PySem.W.Frag) (neg : Bool) : R2 := fun x y H Q => ∃ d ds, Dp K H x d ∧ (Dp K H y (.list ds) ∨ Dp K H y (.tuple ds)) ∧ d.plain = true ∧ PyData.plainAll ds = true ∧ d.depth ≤ 60 ∧ Q (.bl (if neg then !(ds.any fun z => PyData.eqv z d) else ds.any fun z => PyData.eqv z d)) H
theorem op_inP {X : Cx} {K : PySem.W.Frag} (hu : X.A.units + 65 < cLine) (eK : X.K = K := by rfl) : OpR X (compareOp .In) (rInP K false) := by
  subst eK
  intro pins s σ H x y v u Q I rx ry h
  obtain ⟨d, ds, hd, he, sd, se, dp, q⟩ := h
  obtain ⟨as, r1⟩ := Dp.reads I d x v hd rx
  rcases he with he | he
  · obtain ⟨bs, r2⟩ := Dp.reads I _ y u he ry
    exact PySem.SeqAt.in_list_data r2 r1 se sd (by omega) ⟨.bl _, H, I, rfl, q⟩
  · obtain ⟨bs, r2⟩ := Dp.reads I _ y u he ry
    exact PySem.SeqAt.in_tuple_data r2 r1 se sd (by omega) ⟨.bl _, H, I, rfl, q⟩
theorem op_notInP {X : Cx} {K : PySem.W.Frag} (hu : X.A.units + 65 < cLine) (eK : X.K = K := by rfl) : OpR X (compareOp .NotIn) (rInP K true) := by
  subst eK
  intro pins s σ H x y v u Q I rx ry h
  obtain ⟨d, ds, hd, he, sd, se, dp, q⟩ := h
  obtain ⟨as, r1⟩ := Dp.reads I d x v hd rx
  rcases he with he | he
  · obtain ⟨bs, r2⟩ := Dp.reads I _ y u he ry
    exact PySem.SeqAt.notIn_list_data r2 r1 se sd (by omega) ⟨.bl _, H, I, rfl, q⟩
  · obtain ⟨bs, r2⟩ := Dp.reads I _ y u he ry
    exact PySem.SeqAt.notIn_tuple_data r2 r1 se sd (by omega) ⟨.bl _, H, I, rfl, q⟩
/-- y in d -/
def rDIn (neg : Bool) : R2 := fun y x H Q => ∃ a o, x = .ref a ∧ DGet H a y o ∧ Q (.bl (if neg then !o.isSome else o.isSome)) H
theorem op_dIn {X : Cx} (hu : X.A.units + 65 < cLine) : OpR X (compareOp .In) (rDIn false) := by
  intro pins s σ H y x iv u Q I ry rx h
  obtain ⟨a, ov, ex, g, q2⟩ := h
  subst ex
  obtain rfl : u = Value.ref a := rx
  exact d_in (by omega) I g ry fun s3 I3 => ⟨.bl ov.isSome, H, I3, rfl, q2⟩
theorem op_dNotIn {X : Cx} (hu : X.A.units + 65 < cLine) : OpR X (compareOp .NotIn) (rDIn true) := by
  intro pins s σ H y x iv u Q I ry rx h
  obtain ⟨a, ov, ex, g, q2⟩ := h
  subst ex
  obtain rfl : u = Value.ref a := rx
  exact d_notIn (by omega) I g ry fun s3 I3 => ⟨.bl (!ov.isSome), H, I3, rfl, q2⟩
def rInAll (K : PySem.W.Frag) (neg : Bool) : R2 := fun x y H Q => rInP K neg x y H Q ∨ (DL.rSign neg x y H Q ∨ rDIn neg x y H Q)
theorem op_inAll {X : Cx} {K : PySem.W.Frag} (hu : X.A.units + 65 < cLine) (e : X.K = K := by rfl) : OpR X (compareOp .In) (rInAll K false) := DL.OpR.or (op_inP hu e) (DL.OpR.or op_in_sign (op_dIn hu))
theorem op_notInAll {X : Cx} {K : PySem.W.Frag} (hu : X.A.units + 65 < cLine) (e : X.K = K := by rfl) : OpR X (compareOp .NotIn) (rInAll K true) := DL.OpR.or (op_notInP hu e) (DL.OpR.or op_notIn_sign (op_dNotIn hu))
theorem op_eqPK {X : Cx} {K : PySem.W.Frag} (hu : X.A.units + 65 < cLine) (e : X.K = K := by rfl) : OpR X (compareOp .Eq) (rEqP K) := by subst e; exact op_eqP (by omega)
theorem op_nePK {X : Cx} {K : PySem.W.Frag} (hu : X.A.units + 65 < cLine) (e : X.K = K := by rfl) : OpR X (compareOp .NotEq) (rNeP K) := by subst e; exact op_neP (by omega)
end L2
namespace SM
open PySem L2
open DL (Ex ExK rLenU rAbs rMax2 rMin2 rInt1 rListOf rTupleOf iSeqU rIsiU InC)
section
variable {K : PySem.W.Frag} {ca : CaT} {F F1 F2 H H1 H2 : Hp} {m m1 m2 : List Addr} {A A1 A2 : Hs} {σ : L2.St} {env : Sl} {W : WX} {Q : VK}
variable {ta tb tc te : TE} {a b c : E} {i : Nat} {d : D} {ts : TA} {as : As} {x : V} {dx : D}
/-! ### dicts -/
def keyK : D → Option Key
  | .int i => some (.inl i)
  | .str x => some (.inr x)
  | _ => none
def keysK : List D → Option (List Key)
  | [] => some []
  | d :: r => match keyK d, keysK r with
    | some k, some ks => some (k :: ks)
    | _, _ => none
/-- whether two keys are one -/
def keq : D → D → Bool
  | .int i, .int j => decide (i = j)
  | .str x, .str y => decide (x = y)
  | .tup l, .tup k => keqL l k
  | _, _ => false
where keqL : List D → List D → Bool
  | [], [] => true
  | .int i :: r, .int j :: s => decide (i = j) && keqL r s
  | .str x :: r, .str y :: s => decide (x = y) && keqL r s
  | _, _ => false
def kget : List (D × D) → D → Option D
  | [], _ => none
  | (k, v) :: r, y => if keq k y then some v else kget r y
def khas (l : List (D × D)) (y : D) : Bool := l.any fun kv => keq kv.1 y
def kput (l : List (D × D)) (y v : D) : List (D × D) := if khas l y then l.map (fun kv => if keq kv.1 y then (kv.1, v) else kv) else l ++ [(y, v)]
def kdel (l : List (D × D)) (y : D) : List (D × D) := l.filter fun kv => !keq kv.1 y
/-- y may be a key of a dict of the kind t -/
def keyOk : Bool → D → Bool
  | false, y => (keyK y).isSome
  | true, .tup l => (keysK l).isSome
  | true, _ => false
theorem keyK_kD {y : D} {k : Key} (h : keyK y = some k) : y = kD k := by
  cases y <;> simp [keyK] at h <;> subst h <;> rfl
theorem keysK_kT : ∀ {l : List D} {ks : List Key}, keysK l = some ks → l = ks.map kD
  | [], ks, h => by cases h; rfl
  | d :: r, ks, h => by
    unfold keysK at h
    cases q : keyK d with
    | none => rw [q] at h; cases h
    | some k =>
      cases q2 : keysK r with
      | none => rw [q, q2] at h; cases h
      | some s => rw [q, q2] at h; cases h; rw [List.map_cons, ← keyK_kD q, ← keysK_kT q2]
theorem keq_kD (a b : Key) : keq (kD a) (kD b) = decide (a = b) := by
  cases a <;> cases b <;> simp [kD, keq]
theorem keqL_kT : ∀ (a b : List Key), keq.keqL (a.map kD) (b.map kD) = decide (a = b)
  | [], [] => by simp [keq.keqL]
  | [], y :: s => by cases y <;> simp [keq.keqL]
  | x :: r, [] => by cases x <;> simp [keq.keqL]
  | x :: r, y :: s => by
    have ih := keqL_kT r s
    cases x <;> cases y <;> simp [kD, keq.keqL, ih]
theorem keq_kT (a b : List Key) : keq (kT a) (kT b) = decide (a = b) := by
  unfold kT keq; exact keqL_kT a b
section
variable {κ : Type} [DecidableEq κ] {kd : κ → D}
theorem kget_rep (hk : ∀ a b, keq (kd a) (kd b) = decide (a = b)) {k : κ} : ∀ {kvs : List (κ × V)} {l : List (D × D)}, KvR K ca F m kd kvs l → (∀ d, kget l (kd k) = some d → ∃ v, valV kvs k = some v ∧ Rep K ca F m v d) ∧ (kget l (kd k) = none → valV kvs k = none)
  | _, _, .nil => ⟨fun d h => by simp [kget] at h, fun _ => rfl⟩
  | _, _, .cons (k := k') (v := v') h r => by
    have ih := kget_rep hk (k := k) r
    unfold kget valV
    by_cases q : k' = k
    · subst q
      simp only [hk, decide_true, if_true, List.find?_cons]
      exact ⟨fun d e => by cases e; exact ⟨v', by simp, h⟩, fun e => by cases e⟩
    · rw [hk, decide_eq_false q]
      simp only [Bool.false_eq_true, if_false, List.find?_cons, decide_eq_false q]
      exact ih
theorem khas_rep (hk : ∀ a b, keq (kd a) (kd b) = decide (a = b)) {k : κ} : ∀ {kvs : List (κ × V)} {l : List (D × D)}, KvR K ca F m kd kvs l → khas l (kd k) = kvs.any fun kv => decide (kv.1 = k)
  | _, _, .nil => rfl
  | _, _, .cons h r => by
    have ih := khas_rep hk (k := k) r
    unfold khas at ih ⊢
    rw [List.any_cons, List.any_cons, ih, hk]
theorem KvR.snoc {k : κ} {v : V} (hv : Rep K ca F m v d) : ∀ {kvs : List (κ × V)} {l : List (D × D)}, KvR K ca F m kd kvs l → KvR K ca F m kd (kvs ++ [(k, v)]) (l ++ [(kd k, d)])
  | _, _, .nil => .cons hv .nil
  | _, _, .cons h r => .cons h (KvR.snoc hv r)
theorem KvR.remap (hk : ∀ a b, keq (kd a) (kd b) = decide (a = b)) {k : κ} {v : V} (hv : Rep K ca F m v d) : ∀ {kvs : List (κ × V)} {l : List (D × D)}, KvR K ca F m kd kvs l → KvR K ca F m kd (kvs.map fun kv => if kv.1 = k then (kv.1, v) else kv) (l.map fun kv => if keq kv.1 (kd k) then (kv.1, d) else kv)
  | _, _, .nil => .nil
  | _, _, .cons (k := k') h r => by
    rw [List.map_cons, List.map_cons]
    by_cases q : k' = k
    · simp only [q, hk, decide_true, if_true]; exact .cons hv (KvR.remap hk hv r)
    · simp only [q, hk, decide_false, Bool.false_eq_true, if_false]; exact .cons h (KvR.remap hk hv r)
theorem kput_rep (hk : ∀ a b, keq (kd a) (kd b) = decide (a = b)) {k : κ} {v : V} (hv : Rep K ca F m v d) {kvs : List (κ × V)} {l : List (D × D)} (h : KvR K ca F m kd kvs l) : KvR K ca F m kd (putK kvs k v) (kput l (kd k) d) := by
  unfold putK kput
  rw [khas_rep hk h]
  split
  · exact KvR.remap hk hv h
  · exact KvR.snoc hv h
end
/-- the dict at hand: its kind, its pairs -/
def dicAt (A : Hs) : D → Option (Bool × List (D × D))
  | .ref i => match A[i]? with
    | some (.dic t _ l) => some (t, l)
    | _ => none
  | _ => none
theorem rdK {lk : Bool} {a : Addr} {u : HO} (h : At H a lk u) : L2.Rd H a u := by
  cases lk with
  | false => exact .inl h
  | true => exact .inr h
theorem tup_key {y : V} {l : List D} {ks : List Key} (R : Rl K ca F m A H) (r : Rep K ca F m y (.tup l)) (h : keysK l = some ks) : ∃ b, y = .ref b ∧ H b = some (.tup (ks.map kV)) := by
  cases r with
  | tup s rs =>
    refine ⟨_, rfl, ?_⟩
    have e := keysK_kT h
    subst e
    have : ∀ {vs : List V} {ks : List Key}, RepL K ca F m vs (ks.map kD) → vs = ks.map kV := by
      intro vs ks
      induction ks generalizing vs with
      | nil => intro r; cases r; rfl
      | cons k ks ih =>
        intro r
        cases r with
        | cons q t =>
          rw [List.map_cons, ih t]
          cases k with
          | inl i => cases q; rfl
          | inr x => cases q; rfl
    rw [← this rs]
    exact R.fh _ _ s
/-- what the dict holds at a key -/
theorem dic_get {x y : V} {dy : D} {t : Bool} {l : List (D × D)} (R : Rl K ca F m A H) (rx : Rep K ca F m x dx) (ry : Rep K ca F m y dy) (h : dicAt A dx = some (t, l)) (hk : keyOk t dy = true) : ∃ a o, x = .ref a ∧ DGet H a y o ∧ L2.IsD H a ∧ (∀ d, kget l dy = some d → ∃ v, o = some v ∧ Rep K ca F m v d) ∧ (kget l dy = none → o = none) := by
  cases dx with
  | ref i =>
    unfold dicAt at h
    cases q : A[i]? with
    | none => simp [q] at h
    | some o =>
      cases o with
      | dic t' lk l' =>
        simp [q] at h
        obtain ⟨rfl, rfl⟩ := h
        obtain ⟨a, e, ha, r⟩ := R.at q rx
        cases t' with
        | false =>
          obtain ⟨kvs, h1, h2⟩ := r
          cases z : keyK dy with
          | none => simp [keyOk, z] at hk
          | some k =>
            have e2 := keyK_kD z
            subst e2
            obtain ⟨g1, g2⟩ := kget_rep keq_kD (k := k) h2
            refine ⟨a, valV kvs k, e, .inl ⟨kvs, k, rdK h1, ?_, rfl⟩, .inl ⟨kvs, rdK h1⟩, g1, g2⟩
            cases k with
            | inl i => cases ry; rfl
            | inr x => cases ry; rfl
        | true =>
          obtain ⟨kvs, h1, h2⟩ := r
          cases dy with
          | tup dl =>
              cases z : keysK dl with
            | none => simp [keyOk, z] at hk
            | some ks =>
              obtain ⟨b, e3, h3⟩ := tup_key R ry z
              have e2 := keysK_kT z
              subst e2
              obtain ⟨g1, g2⟩ := kget_rep keq_kT (k := ks) h2
              exact ⟨a, valV kvs ks, e, .inr ⟨kvs, ks, b, rdK h1, e3, h3, rfl⟩, .inr ⟨kvs, rdK h1⟩, g1, g2⟩
          | _ => simp [keyOk] at hk
      | lst _ => simp [q] at h
      | obj _ _ => simp [q] at h
      | nd _ => simp [q] at h
  | _ => simp [dicAt] at h
/-- d[y] -/
def oDGet (x y : D) (A : Hs) : RE D := match dicAt A x with
  | some (t, l) => if keyOk t y then match kget l y with
      | some d => .ok d A
      | none => .stuck
    else .stuck
  | none => .stuck
def rDGet : R2 := fun x y H Q => ∃ a v, x = .ref a ∧ DGet H a y (some v) ∧ Q v H
theorem os_dget : OpS K ca rDGet oDGet := fun F m A H x y dx dy W σ Q R rx ry p => by
  unfold oDGet at p
  split at p
  · rename_i t l hd
    split at p
    · rename_i hk
      split at p
      · rename_i d hg
        obtain ⟨a, o, e, h1, _, h2, h3⟩ := dic_get R rx ry hd hk
        obtain ⟨v, e2, rv⟩ := h2 d hg
        subst e2
        exact ⟨a, v, e, h1, po_ok R rv p⟩
      · exact p.elim
    · exact p.elim
  · exact p.elim
theorem pe_dgetO {X : Cx} {o i : Expr} {pos : Pos} {td ty : TE} (hu : X.A.units + 65 < cLine) (ho : PE X o td) (hi : PE X i ty) (hs : NoSl i) : PE X (.Subscript o i pos) (tOp rDGet td ty) := pe_dget (by omega) ho hi hs
/-- y in c -/
def inData (A : Hs) (x c : D) : Option Bool := match pyA A 40 x, pyA A 40 c with
  | some p, some (.list ps) => some (ps.any fun z => PyData.eqv z p)
  | some p, some (.tuple ps) => some (ps.any fun z => PyData.eqv z p)
  | _, _ => none
def inStr (x : D) (w : Str) : Option Bool := match x with
  | .str z => match z.cps.toList with
    | [k] => some (decide (k ∈ w.cps.toList))
    | _ => none
  | _ => none
def inDic (t : Bool) (l : List (D × D)) (x : D) : Option Bool := if keyOk t x then some (kget l x).isSome else none
def inA (A : Hs) (x c : D) : Option Bool := match dicAt A c with
  | some (t, l) => inDic t l x
  | none => match c with
    | .str w => inStr x w
    | _ => inData A x c
def oIn : D → D → Hs → RE D := oB inA
def oNotIn : D → D → Hs → RE D := oB fun A x y => (inA A x y).map (!·)
theorem in_data {neg b : Bool} {x y : V} {dx dy : D} (R : Rl K ca F m A H) (rx : Rep K ca F m x dx) (ry : Rep K ca F m y dy) (h : inData A dx dy = some b) (q : Q (.bl (if neg then !b else b)) H) : rInAll K neg x y H Q := by
  unfold inData at h
  cases q1 : pyA A 40 dx with
  | none => simp [q1] at h
  | some p1 =>
    cases q2 : pyA A 40 dy with
    | none => simp [q1, q2] at h
    | some p2 =>
      obtain ⟨a1, a2, a3⟩ := dp_of R rx q1
      obtain ⟨b1, b2, b3⟩ := dp_of R ry q2
      cases p2 with
      | list ps =>
        simp only [q1, q2, Option.some.injEq] at h
        subst h
        exact .inl ⟨p1, ps, a1, .inl b1, a2, b2, by omega, q⟩
      | tuple ps =>
        simp only [q1, q2, Option.some.injEq] at h
        subst h
        exact .inl ⟨p1, ps, a1, .inr b1, a2, b2, by omega, q⟩
      | _ => simp [q1, q2] at h
theorem in_core {neg b : Bool} {x y : V} {dx dy : D} (R : Rl K ca F m A H) (rx : Rep K ca F m x dx) (ry : Rep K ca F m y dy) (h : inA A dx dy = some b) (q : Q (.bl (if neg then !b else b)) H) : rInAll K neg x y H Q := by
  unfold inA at h
  cases hd : dicAt A dy with
  | some tl =>
    obtain ⟨t, l⟩ := tl
    simp only [hd, inDic] at h
    split at h
    · rename_i hk
      obtain ⟨a, o, e, h1, _, h2, h3⟩ := dic_get R ry rx hd hk
      refine .inr (.inr ⟨a, o, e, h1, ?_⟩)
      have : o.isSome = b := by
        cases h
        cases z : kget l dx with
        | none => rw [h3 z]; rfl
        | some d => obtain ⟨v, e2, _⟩ := h2 d z; rw [e2]; rfl
      rw [this]; exact q
    · cases h
  | none =>
    simp only [hd] at h
    cases ry with
    | str w =>
      simp only [inStr] at h
      cases rx with
      | str z =>
        simp only at h
        split at h
        · rename_i k hz
          cases h
          have : z = ⟨#[k]⟩ := by
            cases z with
            | mk cps => congr; exact Array.toList_inj.mp (by simpa using hz)
          subst this
          exact .inr (.inl ⟨k, w, rfl, rfl, q⟩)
        · cases h
      | _ => cases h
    | non => exact in_data R rx .non h q
    | bl b => exact in_data R rx (.bl b) h q
    | int b => exact in_data R rx (.int b) h q
    | ty b => exact in_data R rx (.ty b) h q
    | tup s r => exact in_data R rx (.tup s r) h q
    | wt s r => exact in_data R rx (.wt s r) h q
    | scr s r => exact in_data R rx (.scr s r) h q
    | ref s => exact in_data R rx (.ref s) h q
    | nm s => exact in_data R rx (.nm s) h q
    | exc s => exact in_data R rx (.exc s) h q
theorem os_in : OpS K ca (rInAll K false) oIn := fun F m A H x y dx dy W σ Q R rx ry p => by
  unfold oIn oB at p
  cases q : inA A dx dy with
  | none => rw [q] at p; exact p.elim
  | some b => rw [q] at p; exact in_core R rx ry q (po_ok R (.bl _) p)
theorem os_notin : OpS K ca (rInAll K true) oNotIn := fun F m A H x y dx dy W σ Q R rx ry p => by
  unfold oNotIn oB at p
  cases q : inA A dx dy with
  | none => simp only [q] at p; exact p.elim
  | some b => simp only [q, Option.map] at p; exact in_core R rx ry q (po_ok R (.bl _) p)
/-! ### stores -/
/-- xs[i] = v, d[k] = v -/
def setIt (A : Hs) (x y v : D) : Option Hs := match x with
  | .ref i => match A[i]? with
    | some (.lst l) => match y with
      | .int k => match ixN l.length k with
        | some n => some (A.set i (.lst (l.set n v)))
        | none => none
      | _ => none
    | some (.dic t false l) => if keyOk t y && decide (l.length < sizeLine) then some (A.set i (.dic t false (kput l y v))) else none
    | _ => none
  | _ => none
/-- o[i] = e: first e, then o, then i -/
def ofH (env : Sl) : Option Hs → RS
  | some A => .nx env A
  | none => .stuck
def sPut (o i a : E) : S := fun env A => ofE env (a env A) fun v A1 => ofE env (o env A1) fun x A2 => ofE env (i env A2) fun y A3 => ofH env (setIt A3 x y v)
theorem set_lst {x y v : V} {dy dv : D} {i : Nat} {l : List D} (R : Rl K ca F m A H) (rx : Rep K ca F m x (.ref i)) (ry : Rep K ca F m y dy) (rv : Rep K ca F m v dv) (hA : A[i]? = some (.lst l)) (h : setIt A (.ref i) dy dv = some A2) {Dn : Ends} {f : Hp → Prop}
    (k : ∀ H2, Rl K ca F m A2 H2 → Stp F m H F m H2 → f H2) : rSetL x y v H f := by
  unfold setIt at h
  simp only [hA] at h
  cases ry with
  | int j =>
    simp only at h
    cases q : ixN l.length j with
    | none => rw [q] at h; cases h
    | some n =>
      rw [q] at h; cases h
      obtain ⟨a, vs, e, h1, h2, h3⟩ := lst_at R rx hA
      obtain ⟨R2, g2⟩ := lst_put R h1 h2 (h3.set rv n)
      exact ⟨a, vs, j, n, e, rfl, h2, by rw [h3.length]; exact q, k _ R2 g2⟩
  | _ => cases h
theorem set_dic {x y v : V} {dy dv : D} {i : Nat} {t : Bool} {l : List (D × D)} (R : Rl K ca F m A H) (rx : Rep K ca F m x (.ref i)) (ry : Rep K ca F m y dy) (rv : Rep K ca F m v dv) (hA : A[i]? = some (.dic t false l)) (h : setIt A (.ref i) dy dv = some A2) :
    ∃ a H2, x = .ref a ∧ DPut H a y v H2 ∧ Rl K ca F m A2 H2 ∧ Stp F m H F m H2 := by
  unfold setIt at h
  simp only [hA] at h
  split at h
  · rename_i hk
    cases h
    rw [Bool.and_eq_true, decide_eq_true_eq] at hk
    obtain ⟨a, e, ha, r⟩ := R.at hA rx
    cases t with
    | false =>
      obtain ⟨kvs, h1, h2⟩ := r
      cases z : keyK dy with
      | none => simp [keyOk, z] at hk
      | some kk =>
        have e2 := keyK_kD z
        subst e2
        have e3 : y = kV kk := by
          cases kk with
          | inl i => cases ry; rfl
          | inr x => cases ry; rfl
        have h1' : H a = some (.dK kvs) := h1
        obtain ⟨R2, g2⟩ := R.put (u := .dK (putK kvs kk v)) (o' := .dic false false (kput l (kD kk) dv)) ha (fun od w z => by rw [h1'] at z; cases z) ⟨_, upd_same, kput_rep keq_kD rv h2⟩
        exact ⟨a, _, e, .inl ⟨kvs, kk, h1, e3, by rw [h2.length]; exact hk.2, rfl⟩, R2, g2⟩
    | true =>
      obtain ⟨kvs, h1, h2⟩ := r
      cases dy with
      | tup dl =>
          cases z : keysK dl with
        | none => simp [keyOk, z] at hk
        | some ks =>
          obtain ⟨b, e3, h3⟩ := tup_key R ry z
          have e2 := keysK_kT z
          subst e2
          have h1' : H a = some (.dT kvs) := h1
          obtain ⟨R2, g2⟩ := R.put (u := .dT (putK kvs ks v)) (o' := .dic true false (kput l (kT ks) dv)) ha (fun od w z => by rw [h1'] at z; cases z) ⟨_, upd_same, kput_rep keq_kT rv h2⟩
          exact ⟨a, _, e, .inr ⟨kvs, ks, b, h1, e3, h3, by rw [h2.length]; exact hk.2, rfl⟩, R2, g2⟩
      | _ => simp [keyOk] at hk
  · cases h
end
end SM

namespace SM
open PySem L2
open DL (Ex ExK rLenU rAbs rMax2 rMin2 rInt1 rListOf rTupleOf iSeqU rIsiU InC)
section
variable {K : PySem.W.Frag} {ca : CaT} {F F1 F2 H H1 H2 : Hp} {m m1 m2 : List Addr} {A A1 A2 : Hs} {σ : L2.St} {env : Sl} {W : WX} {Q : VK}
variable {ta tb tc te to ti : TE} {a b c o : E} {i : Nat} {d : D} {ts : TA} {as : As} {x : V} {dx : D} {t u : TS} {f g h : S}
/-! ### o[i] = e -/
theorem SimS.pick (h1 : SimS K ca W t g) (h2 : SimS K ca W u h) (k : ∀ env A, f env A = g env A ∨ f env A = h env A) : SimS K ca W (fun D σ H => t D σ H ∨ u D σ H) f := fun F m A σ H env Dn R S p => by
  rcases k env A with q | q
  · rw [q] at p; exact .inl (h1 F m A σ H env Dn R S p)
  · rw [q] at p; exact .inr (h2 F m A σ H env Dn R S p)
def isLst (A : Hs) : D → Bool
  | .ref i => match A[i]? with
    | some (.lst _) => true
    | _ => false
  | _ => false
def sPut1 (w : Bool) (o i a : E) : S := fun env A => ofE env (a env A) fun v A1 => ofE env (o env A1) fun x A2 => ofE env (i env A2) fun y A3 => if isLst A3 x = w then ofH env (setIt A3 x y v) else .stuck
theorem put_pick {o i a : E} (env : Sl) (A : Hs) : sPut o i a env A = sPut1 true o i a env A ∨ sPut o i a env A = sPut1 false o i a env A := by
  unfold sPut sPut1
  cases a env A with
  | stuck => exact .inl rfl
  | exc _ _ => exact .inl rfl
  | ok v A1 =>
    simp only [ofE]
    cases o env A1 with
    | stuck => exact .inl rfl
    | exc _ _ => exact .inl rfl
    | ok x A2 =>
      simp only [ofE]
      cases i env A2 with
      | stuck => exact .inl rfl
      | exc _ _ => exact .inl rfl
      | ok y A3 =>
        simp only [ofE]
        cases q : isLst A3 x with
        | true => exact .inl (by simp)
        | false => exact .inr (by simp)
theorem isLst_at {A : Hs} {x : D} {w : Bool} (h : isLst A x = true) : ∃ i l, x = .ref i ∧ A[i]? = some (.lst l) := by
  cases x with
  | ref i =>
    unfold isLst at h
    cases q : A[i]? with
    | none => simp [q] at h
    | some o =>
      cases o with
      | lst l => exact ⟨i, l, rfl, q⟩
      | dic _ _ _ => simp [q] at h
      | obj _ _ => simp [q] at h
      | nd _ => simp [q] at h
  | _ => cases h
theorem setIt_dic {A A2 : Hs} {x y v : D} (h : setIt A x y v = some A2) (n : isLst A x = false) : ∃ i t l, x = .ref i ∧ A[i]? = some (.dic t false l) := by
  unfold setIt at h
  cases x with
  | ref i =>
    unfold isLst at n
    cases q : A[i]? with
    | none => simp [q] at h
    | some o =>
      cases o with
      | lst l => simp [q] at n
      | dic t lk l =>
        cases lk with
        | false => exact ⟨i, t, l, rfl, q⟩
        | true => simp [q] at h
      | obj _ _ => simp [q] at h
      | nd _ => simp [q] at h
  | _ => simp at h
theorem ss_putL (ho : SimE K ca W to o) (hi : SimE K ca W ti b) (ha : SimE K ca W ta a) : SimS K ca W (tAsg ta (gSub to ti rSetL)) (sPut1 true o b a) := fun F m A σ H env Dn R S p =>
  ofE_bind ha R S p fun F1 m1 A1 H1 v dv R1 g1 S1 rv p1 => ofE_bind ho R1 S1 p1 fun F2 m2 A2 H2 x dx R2 g2 S2 rx p2 => ofE_bind hi R2 S2 p2 fun F3 m3 A3 H3 y dy R3 g3 S3 ry p3 => by
    split at p3
    · rename_i hl
      cases hs : setIt A3 dx dy dv with
      | none => rw [hs] at p3; exact p3.elim
      | some A4 =>
        rw [hs] at p3
        obtain ⟨j, l, rfl, hA⟩ := isLst_at (w := true) hl
        exact set_lst (Dn := Dn) R3 (rx.mono g3.ff g3.mm) ry (rv.mono (g2.trans g3).ff (g2.trans g3).mm) hA hs fun H4 R4 g4 => p3 F3 m3 σ H4 R4 g4 (S3.stp g4)
    · exact p3.elim
theorem ss_putD (ho : SimE K ca W to o) (hi : SimE K ca W ti b) (ha : SimE K ca W ta a) : SimS K ca W (sDPut to ti ta) (sPut1 false o b a) := fun F m A σ H env Dn R S p =>
  ofE_bind ha R S p fun F1 m1 A1 H1 v dv R1 g1 S1 rv p1 => ofE_bind ho R1 S1 p1 fun F2 m2 A2 H2 x dx R2 g2 S2 rx p2 => ofE_bind hi R2 S2 p2 fun F3 m3 A3 H3 y dy R3 g3 S3 ry p3 => by
    split at p3
    · rename_i hl
      cases hs : setIt A3 dx dy dv with
      | none => rw [hs] at p3; exact p3.elim
      | some A4 =>
        rw [hs] at p3
        obtain ⟨j, t, l, rfl, hA⟩ := setIt_dic hs hl
        obtain ⟨a', H4, e, h1, R4, g4⟩ := set_dic R3 (rx.mono g3.ff g3.mm) ry (rv.mono (g2.trans g3).ff (g2.trans g3).mm) hA hs
        exact ⟨a', H4, e, h1, p3 F3 m3 σ H4 R4 g4 (S3.stp g4)⟩
    · exact p3.elim
theorem ss_put (ho : SimE K ca W to o) (hi : SimE K ca W ti b) (ha : SimE K ca W ta a) : SimS K ca W (fun D σ H => tAsg ta (gSub to ti rSetL) D σ H ∨ sDPut to ti ta D σ H) (sPut o b a) := SimS.pick (ss_putL ho hi ha) (ss_putD ho hi ha) put_pick
/-! ### built-ins -/
def c1 (f : D → Hs → RE D) : List D → Hs → RE D := fun ds A => match ds with
  | [d] => f d A
  | _ => .stuck
def c2 (f : D → D → Hs → RE D) : List D → Hs → RE D := fun ds A => match ds with
  | [d, e] => f d e A
  | _ => .stuck
theorem cs_1 {r : List V → Hp → VK → Prop} {f : D → Hs → RE D} (h : ∀ F m A H x dx W σ Q, Rl K ca F m A H → Rep K ca F m x dx → Po K ca (Rep K ca) F m H W σ Q (f dx A) → r [x] H Q) : CbS K ca r (c1 f) := fun F m A H xs ds W σ Q R rs p => by
  match ds, xs, rs, p with
  | [d], _, .cons r1 .nil, p => exact h F m A H _ d W σ Q R r1 p
  | [], _, _, p => exact p.elim
  | _ :: _ :: _, _, _, p => exact p.elim
theorem cs_2 {r : List V → Hp → VK → Prop} {f : D → D → Hs → RE D} (h : ∀ F m A H x y dx dy W σ Q, Rl K ca F m A H → Rep K ca F m x dx → Rep K ca F m y dy → Po K ca (Rep K ca) F m H W σ Q (f dx dy A) → r [x, y] H Q) : CbS K ca r (c2 f) := fun F m A H xs ds W σ Q R rs p => by
  match ds, xs, rs, p with
  | [d, e], _, .cons r1 (.cons r2 .nil), p => exact h F m A H _ _ d e W σ Q R r1 r2 p
  | [], _, _, p => exact p.elim
  | [_], _, _, p => exact p.elim
  | _ :: _ :: _ :: _, _, _, p => exact p.elim
def lenA (A : Hs) (x : D) : Option Nat := match seqL A x with
  | some l => some l.length
  | none => match seqT x with
    | some l => some l.length
    | none => match x with
      | .str z => if z.length ≤ sizeLine then some z.length else none
      | .ref i => match A[i]? with
        | some (.dic false false l) => some l.length
        | _ => none
      | _ => none
def oLen (x : D) (A : Hs) : RE D := match lenA A x with
  | some n => .ok (.int (n : Int)) A
  | none => .stuck
theorem cs_len : CbS K ca (rLenU K) (c1 oLen) := cs_1 fun F m A H x dx W σ Q R rx p => by
  unfold oLen at p
  cases q : lenA A dx with
  | none => rw [q] at p; exact p.elim
  | some n =>
    rw [q] at p
    have hq := po_ok R (Rep.int _) p
    unfold lenA at q
    split at q
    · rename_i l hl
      cases q
      obtain ⟨a, vs, e, h1, h2⟩ := seqL_at R rx hl
      subst e
      exact .inl ⟨_, l.length, rfl, .inl ⟨vs, h1, h2.length.symm⟩, hq⟩
    · split at q
      · rename_i l hl
        cases q
        obtain ⟨a, vs, e, h1, h2⟩ := seqT_at R rx hl
        subst e
        exact .inl ⟨_, l.length, rfl, .inr ⟨vs, h1, h2.length.symm⟩, hq⟩
      · cases rx with
        | str z =>
          simp only at q
          split at q
          · rename_i hz; cases q; exact .inl ⟨_, _, rfl, ⟨hz, rfl⟩, hq⟩
          · cases q
        | ref hm =>
          simp only at q
          split at q
          · rename_i l hA
            cases q
            obtain ⟨a, e, ha, kvs, h1, h2⟩ := R.at hA (.ref hm)
            refine .inr ⟨a, kvs, by rw [e], h1, ?_⟩
            rw [h2.length]; exact hq
          · cases q
        | _ => cases q
def boolsOf : List D → Option (List Bool)
  | [] => some []
  | .bl b :: r => (boolsOf r).map (b :: ·)
  | _ :: _ => none
def intsOf : List D → Option (List Int)
  | [] => some []
  | .int b :: r => (intsOf r).map (b :: ·)
  | _ :: _ => none
theorem boolsOf_eq : ∀ {l : List D} {bs : List Bool}, boolsOf l = some bs → l = bs.map D.bl
  | [], _, h => by cases h; rfl
  | d :: r, bs, h => by
    cases d with
    | bl b =>
      unfold boolsOf at h
      cases q : boolsOf r with
      | none => rw [q] at h; cases h
      | some s => rw [q] at h; cases h; rw [List.map_cons, ← boolsOf_eq q]
    | _ => cases h
theorem z07 : ∀ bs : List Bool, boolsOf (bs.map D.bl) = some bs
  | [] => rfl
  | b :: r => by rw [List.map_cons]; unfold boolsOf; rw [z07 r]; rfl
theorem z0a : ∀ bs : List Int, intsOf (bs.map D.int) = some bs
  | [] => rfl
  | b :: r => by rw [List.map_cons]; unfold intsOf; rw [z0a r]; rfl
def oAll (x : D) (A : Hs) : RE D := match (seqL A x).bind boolsOf with
  | some bs => .ok (.bl (bs.all id)) A
  | none => .stuck
def oSum (x : D) (A : Hs) : RE D := match (seqL A x).bind intsOf with
  | some ns => .ok (.int ns.sum) A
  | none => .stuck
theorem cs_all : CbS K ca (L2.rAll K) (c1 oAll) := cs_1 fun F m A H x dx W σ Q R rx p => by
  unfold oAll at p
  split at p
  · rename_i bs hb
    obtain ⟨l, h1, h2⟩ := Option.bind_eq_some_iff.mp hb
    obtain ⟨a, vs, e, h3, h4⟩ := seqL_at R rx h1
    have e2 := boolsOf_eq h2
    subst e2
    have e3 := h4.bools
    subst e3 e
    exact ⟨a, bs, rfl, h3, po_ok R (.bl _) p⟩
  · exact p.elim
def oMax2 := oII fun i j => some (.int (if j > i then j else i))
def oMin2 := oII fun i j => some (.int (if j < i then j else i))
def oInt (x : D) (A : Hs) : RE D := match x with
  | .int i => .ok (.int i) A
  | .bl b => .ok (.int (if b then 1 else 0)) A
  | _ => .stuck
theorem cs_int : CbS K ca rInt1 (c1 oInt) := cs_1 fun F m A H x dx W σ Q R rx p => by
  cases rx with
  | int i => exact .inl ⟨i, rfl, po_ok R (.int _) p⟩
  | bl b => exact .inr ⟨b, rfl, po_ok R (.int _) p⟩
  | _ => exact p.elim
def oList (x : D) (A : Hs) : RE D := match seqL A x with
  | some l => alloc A (.lst l)
  | none => match seqT x with
    | some l => alloc A (.lst l)
    | none => .stuck
def oTuple (x : D) (A : Hs) : RE D := match seqL A x with
  | some l => .ok (.tup l) A
  | none => match x with
    | .tup l => .ok (.tup l) A
    | _ => .stuck
/-! ### isinstance -/
/-- the class that a thing is of; os, xs: own classes, own exceptions at hand -/
def kdOf (os xs : List String) (A : Hs) : D → Option String
  | .non => some "NoneType"
  | .bl _ => some "bool"
  | .int _ => some "int"
  | .str _ => some "str"
  | .tup _ => some "tuple"
  | .scr _ => none
  | .exc C => if C ∈ xs then some C else none
  | .ref i => match A[i]? with
    | some (.lst _) => some "list"
    | some (.dic t lk _) => if t && lk then none else some "dict"
    | some (.obj C _) => if C ∈ os then some C else none
    | some (.nd _) => none
    | none => none
  | _ => none
def btn (n : String) : Bool := n == "NoneType" || n == "bool" || n == "int" || n == "str" || n == "tuple" || n == "list" || n == "dict" || n == "ValueError"
def clOf : D → Option String
  | .ty n => if btn n then some n else none
  | .nm C => if btn C then none else some C
  | _ => none
/-- a name's class object -/
def vOf (ca : CaT) (n : String) : Value := if btn n then .type n else .ref (ca n)
def subB (n c : String) : Bool := n == c || n == "bool" && c == "int"
/-- is the class n one of c: by the built-in ones, else by a table -/
def isiOf (tb : List (String × String × Bool)) (n c : String) : Option Bool := if btn n && btn c && n != "ValueError" then some (subB n c) else (tb.find? fun e => e.1 == n && e.2.1 == c).map (·.2.2)
/-- one of some classes -/
def isiAny (tb : List (String × String × Bool)) (n : String) : List D → Option Bool
  | [] => some false
  | c :: r => match clOf c with
    | some k => match isiOf tb n k with
      | some true => some true
      | some false => isiAny tb n r
      | none => none
    | none => none
def isiAll : List D → Bool
  | [] => true
  | c :: r => (clOf c).isSome && isiAll r
def isiD (os xs : List String) (tb : List (String × String × Bool)) (A : Hs) (x c : D) : Option Bool := match kdOf os xs A x with
  | none => none
  | some n => match c with
    | .tup l => if isiAll l then isiAny tb n l else none
    | c => match clOf c with
      | some k => isiOf tb n k
      | none => none
def oIsi (os xs : List String) (tb : List (String × String × Bool)) (x c : D) (A : Hs) : RE D := match isiD os xs tb A x c with
  | some b => .ok (.bl b) A
  | none => .stuck
inductive TbOk (K : PySem.W.Frag) (ca : CaT) : List (String × String × Bool) → Prop
  | nil : TbOk K ca []
  | cons {n c : String} {b : Bool} {r : List (String × String × Bool)} : PySem.W.kitOne K (vOf ca n) (vOf ca c) = some b → TbOk K ca r → TbOk K ca ((n, c, b) :: r)
theorem TbOk.of {tb : List (String × String × Bool)} (h : TbOk K ca tb) {n c : String} {b : Bool} (q : (tb.find? fun e => e.1 == n && e.2.1 == c).map (·.2.2) = some b) : PySem.W.kitOne K (vOf ca n) (vOf ca c) = some b := by
  induction h with
  | nil => cases q
  | cons h1 h2 ih =>
    rename_i n' c' b' r
    rw [List.find?_cons] at q
    cases z : (n' == n && c' == c) with
    | true =>
      simp only [z] at q
      cases q
      rw [Bool.and_eq_true] at z
      rw [← eq_of_beq z.1, ← eq_of_beq z.2]; exact h1
    | false => simp only [z] at q; exact ih q
def btns : List String := ["NoneType", "bool", "int", "str", "tuple", "list", "dict", "ValueError"]
theorem btn_mem {n : String} (h : btn n = true) : n ∈ btns := by
  simp only [btn, Bool.or_eq_true, beq_iff_eq] at h
  simp only [btns, List.mem_cons, List.mem_nil_iff, or_false]
  rcases h with ((((((h | h) | h) | h) | h) | h) | h) | h <;> simp [h]
theorem isi_all : ∀ n ∈ btns, ∀ c ∈ btns, (n != "ValueError") = true → kitB n c = some (subB n c) := by decide +kernel
theorem isi_sub {n c : String} (h1 : btn n = true) (h2 : btn c = true) (h3 : (n != "ValueError") = true) : kitB n c = some (subB n c) := isi_all n (btn_mem h1) c (btn_mem h2) h3
theorem isi_of {tb : List (String × String × Bool)} (h : TbOk K ca tb) {n c : String} {b : Bool} (q : isiOf tb n c = some b) : PySem.W.kitOne K (vOf ca n) (vOf ca c) = some b := by
  unfold isiOf at q
  split at q
  · rename_i z
    rw [Bool.and_eq_true, Bool.and_eq_true] at z
    cases q
    unfold vOf
    rw [if_pos z.1.1, if_pos z.1.2]
    exact kit_ty (isi_sub z.1.1 z.1.2 z.2)
  · exact h.of q
theorem cl_at {y : V} {dy : D} {k : String} (r : Rep K ca F m y dy) (h : clOf dy = some k) : ClsV y (vOf ca k) := by
  cases r with
  | ty n =>
    unfold clOf at h
    simp only at h
    split at h
    · rename_i z; cases h; unfold vOf; rw [if_pos z]; exact .ty _
    · cases h
  | nm C =>
    unfold clOf at h
    simp only at h
    split at h
    · cases h
    · rename_i z; cases h; unfold vOf; rw [if_neg z]; exact .own _
  | _ => cases h
/-- how isinstance sees a thing -/
inductive Sees (K : PySem.W.Frag) (H : Hp) (x : V) (u : Value) : Prop
  | ty : TyX K H x u → Sees K H x u
  | exc {a C : Addr} : x = .ref a → u = .ref C → H a = some (ExK C a) → ExcC K C → Sees K H x u
theorem sees_of {os xs : List String} {x : V} {n : String} (ho : AllC (fun C => InC K (ca C) ∧ btn C = false) os) (hx : AllC (fun C => ExcC K (ca C) ∧ btn C = false) xs) (R : Rl K ca F m A H) (rx : Rep K ca F m x dx) (h : kdOf os xs A dx = some n) : Sees K H x (vOf ca n) := by
  cases rx with
  | non => cases h; exact .ty (.base .non)
  | bl b => cases h; exact .ty (.base (.bl b))
  | int b => cases h; exact .ty (.base (.int b))
  | str b => cases h; exact .ty (.base (.str b))
  | tup s r => cases h; exact .ty (.base (.tup (R.fh _ _ s)))
  | exc s =>
    rename_i a C
    unfold kdOf at h
    simp only at h
    split at h
    · rename_i z; cases h
      have k := AllC.of hx z
      refine .exc rfl ?_ (R.fh _ _ s) k.1
      unfold vOf; rw [k.2]; rfl
    · cases h
  | ref hm =>
    unfold kdOf at h
    simp only at h
    split at h
    · rename_i l hA
      cases h
      obtain ⟨a, vs, e, h1, h2, h3⟩ := lst_at R (.ref hm) hA
      rw [e]
      exact .ty (.base (.lst h2))
    · rename_i t lk l hA
      split at h
      · cases h
      · rename_i z
        cases h
        obtain ⟨a, e, ha, r⟩ := R.at hA (.ref hm)
        rw [e]
        cases t with
        | false =>
          obtain ⟨kvs, h1, _⟩ := r
          cases lk with
          | false => exact .ty (.base (.dK h1))
          | true => obtain ⟨od, h1⟩ := h1; exact .ty (.fDict h1)
        | true =>
          obtain ⟨kvs, h1, _⟩ := r
          cases lk with
          | false => exact .ty (.base (.dT h1))
          | true => exact absurd rfl z
    · rename_i C fs hA
      split at h
      · rename_i z
        cases h
        obtain ⟨a, e, ha, dxx, kvs, h1, _⟩ := R.at hA (.ref hm)
        rw [e]
        have k := AllC.of ho z
        have i := k.1
        refine .ty (.base ?_)
        unfold vOf
        rw [k.2]
        exact .ins h1 i.cl i.ha i.hn i.ht i.hm
      · cases h
    · cases h
    · cases h
  | _ => cases h
theorem isiAny_kit {tb : List (String × String × Bool)} (ht : TbOk K ca tb) {n : String} : ∀ {vs : List V} {l : List D} {b : Bool}, RepL K ca F m vs l → isiAll l = true → isiAny tb n l = some b → ∃ us, Paired ClsV vs us ∧ PySem.W.kitAny K (vOf ca n) us = some b
  | _, _, _, .nil, _, h => by cases h; exact ⟨[], .nil, kitAny_nil⟩
  | _, _, _, .cons r rs, ha, h => by
    unfold isiAll at ha
    rw [Bool.and_eq_true] at ha
    unfold isiAny at h
    cases q : clOf _ with
    | none => rw [q] at h; cases h
    | some k =>
      rw [q] at h
      simp only at h
      cases q2 : isiOf tb n k with
      | none => rw [q2] at h; cases h
      | some c =>
        rw [q2] at h
        have k1 := isi_of ht q2
        cases c with
        | true =>
          cases h
          -- the rest only has to be classes
          have rest : ∀ {vs : List V} {l : List D}, RepL K ca F m vs l → isiAll l = true → ∃ us, Paired ClsV vs us := by
            intro vs l
            induction l generalizing vs with
            | nil => intro r _; cases r; exact ⟨[], .nil⟩
            | cons d l ih =>
              intro r hl
              cases r with
              | cons r1 r2 =>
                unfold isiAll at hl
                rw [Bool.and_eq_true] at hl
                obtain ⟨us, hus⟩ := ih r2 hl.2
                cases z : clOf d with
                | none => rw [z] at hl; cases hl.1
                | some kk => exact ⟨_ :: us, .cons (cl_at r1 z) hus⟩
          obtain ⟨us, hus⟩ := rest rs ha.2
          exact ⟨_ :: us, .cons (cl_at r q) hus, kitAny_cons k1 (fun z => by cases z) fun _ => rfl⟩
        | false =>
          obtain ⟨us, h1, h2⟩ := isiAny_kit ht rs ha.2 h
          exact ⟨_ :: us, .cons (cl_at r q) h1, kitAny_cons k1 (fun _ => h2) fun z => by cases z⟩
/-- isinstance(x, c) -/
theorem cs_isi {os xs : List String} {tb : List (String × String × Bool)} (ho : AllC (fun C => InC K (ca C) ∧ btn C = false) os) (hx : AllC (fun C => ExcC K (ca C) ∧ btn C = false) xs) (ht : TbOk K ca tb) : CbS K ca (rIsiU K) (c2 (oIsi os xs tb)) := cs_2 fun F m A H x y dx dy W σ Q R rx ry p => by
  unfold oIsi at p
  cases q : isiD os xs tb A dx dy with
  | none => rw [q] at p; exact p.elim
  | some b =>
    rw [q] at p
    have hq := po_ok R (Rep.bl _) p
    unfold isiD at q
    cases z : kdOf os xs A dx with
    | none => rw [z] at q; cases q
    | some n =>
      rw [z] at q
      have sees := sees_of ho hx R rx z
      have one : ∀ k, clOf dy = some k → isiOf tb n k = some b → rIsiU K [x, y] H Q := fun k h1 h2 => by
        have kit := isi_of ht h2
        have cl := cl_at ry h1
        cases sees with
        | ty t => exact .inl ⟨x, y, _, _, b, rfl, cl, t, kit, hq⟩
        | exc e1 e2 e3 e4 =>
          subst e1
          rw [e2] at kit
          exact .inr (.inr (.inl ⟨_, _, y, _, b, rfl, e3, e4, cl, kit, hq⟩))
      cases ry with
      | tup s rs =>
        simp only at q
        split at q
        · rename_i ha
          obtain ⟨us, h1, h2⟩ := isiAny_kit ht rs ha q
          cases sees with
          | ty t => exact .inr (.inl ⟨x, _, _, _, us, b, rfl, R.fh _ _ s, h1, t, h2, hq⟩)
          | exc e1 e2 e3 e4 =>
            subst e1
            rw [e2] at h2
            exact .inr (.inr (.inr ⟨_, _, _, _, us, b, rfl, e3, e4, R.fh _ _ s, h1, h2, hq⟩))
        · cases q
      | ty n' =>
        simp only at q
        split at q
        · rename_i k hk; exact one k hk q
        · cases q
      | nm n' =>
        simp only at q
        split at q
        · rename_i k hk; exact one k hk q
        · cases q
      | _ => simp [clOf] at q
end
end SM

namespace L2
open PySem PySem.Spec PyProof.Rows
end L2
namespace SM
open PySem L2
open DL (Ex ExK rInt1 iSeqU rng rngC rng_len rngC_len rng_get rngC_get enumD enumD_len enumD_get zipD)
section
variable {K : PySem.W.Frag} {ca : CaT} {F F1 F2 H H1 H2 : Hp} {m m1 m2 : List Addr} {A A1 A2 : Hs} {σ : L2.St} {env : Sl} {W : WX} {Q : VK}
variable {ta tb tc te to ti : TE} {a b c o : E} {i : Nat} {d : D} {ts : TA} {as : As} {x : V} {dx : D}
/-! ### what is walked -/
theorem SimI.pick {t u : TI} {f g h : Sl → Hs → RE Wk} (h1 : SimI K ca W t g) (h2 : SimI K ca W u h) (k : ∀ env A, f env A = g env A ∨ f env A = h env A) : SimI K ca W (fun σ H R => t σ H R ∨ u σ H R) f := fun F m A σ H env Q R S p => by
  rcases k env A with q | q
  · rw [q] at p; exact .inl (h1 F m A σ H env Q R S p)
  · rw [q] at p; exact .inr (h2 F m A σ H env Q R S p)
def tt : Hs → Prop := fun _ => True
/-- the signs of a text -/
def signsOf (z : Str) : List D := z.cps.toList.map fun c => .str ⟨#[c]⟩
def wkL (A : Hs) (x : D) : Option Wk := match x with
  | .ref i => match A[i]? with
    | some (.lst l) => some ⟨l, fun A' => A'[i]? = some (.lst l)⟩
    | _ => none
  | .scr l => some ⟨l, tt⟩
  | _ => none
def wkT (_ : Hs) (x : D) : Option Wk := match x with
  | .tup l => some ⟨l, tt⟩
  | .wt l => some ⟨l, tt⟩
  | _ => none
def wkS (_ : Hs) (x : D) : Option Wk := match x with
  | .str z => some ⟨signsOf z, tt⟩
  | _ => none
/-- a list, a tuple, a text -/
def wkA (A : Hs) (x : D) : Option Wk := match x with
  | .ref _ => wkL A x
  | .scr _ => wkL A x
  | .tup _ => wkT A x
  | .wt _ => wkT A x
  | _ => wkS A x
def wOf (f : Hs → D → Option Wk) (a : E) : Sl → Hs → RE Wk := fun env A => (a env A).bind fun x A1 => match f A1 x with
  | some k => .ok k A1
  | none => .stuck
def wSeq (a : E) : Sl → Hs → RE Wk := wOf wkA a
theorem wOf_bind {f : Hs → D → Option Wk} {R' : It → Hp → Prop} {T : VK} (h : SimE K ca W te a) (R : Rl K ca F m A H) (S : Slt K ca F m σ env) (p : PoW K ca F m H W σ R' (wOf f a env A))
    (k : ∀ F1 m1 A1 H1 x d kk, Rl K ca F1 m1 A1 H1 → Rep K ca F1 m1 x d → f A1 d = some kk → PoW K ca F1 m1 H1 W σ R' (.ok kk A1) → T x H1) : te σ H T := by
  refine h F m A σ H env T R S ?_
  unfold wOf at p
  cases q : a env A with
  | ok d A1 =>
    rw [q] at p
    intro v F1 m1 H1 R1 g1 r
    simp only [RE.bind] at p
    cases z : f A1 d with
    | none => rw [z] at p; exact p.elim
    | some kk =>
      rw [z] at p
      exact k F1 m1 A1 H1 v d kk R1 r z fun J F' m' H' R2 g2 hh => p J F' m' H' R2 (g1.trans g2) hh
  | exc C A1 => rw [q] at p; exact p
  | stuck => rw [q] at p; exact p
/-- the list at a, as it is at each turn -/
theorem walk_live {a : Addr} {n : Nat} : Walk (Itl K a) n (fun H => ∃ vs, SqL K H a vs ∧ vs.length = n) (fun i H x H' => H' = H ∧ ∀ xs, SqL K H a xs → xs[i]? = some x) :=
  ⟨fun i _ hi ⟨vs, q, e⟩ => ⟨vs, vs[i]'(by omega), q, by simp [show i < vs.length by omega]⟩, fun _ ⟨vs, q, e⟩ => ⟨vs, q, by omega⟩, fun _ _ _ _ _ _ y => y⟩
theorem sw_list (h : SimE K ca W te a) : SimI K ca W (iList K te) (wOf wkL a) := fun F m A σ H env Q R S p => wOf_bind h R S p fun F1 m1 A1 H1 x d kk R1 r hk p1 => by
  cases r with
  | ref hm =>
    rename_i aa i
    unfold wkL at hk
    simp only at hk
    cases hA : A1[i]? with
    | none => simp [hA] at hk
    | some o =>
      cases o with
      | lst l =>
        simp only [hA, Option.some.injEq] at hk
        subst hk
        obtain ⟨a', vs, e, h1, h2, h3⟩ := lst_at R1 (.ref hm) hA
        cases e
        refine ⟨aa, rfl, ⟨vs, .inl (.inl h2)⟩, p1 _ F1 m1 H1 R1 Stp.refl ⟨_, _, walk_live, fun F2 m2 A2 H2 hg R2 g2 => ?_, fun i' d' x' F2 m2 A2 H2 H3 e hg R2 g2 y => .inl ⟨y.1, ?_⟩⟩⟩
        · obtain ⟨a2, vs2, e2, _, h4, h5⟩ := lst_at R2 (.ref (g2.mm.get h1)) hg
          cases e2
          exact ⟨vs2, .inl (.inl h4), h5.length⟩
        · obtain ⟨a2, vs2, e2, _, h4, h5⟩ := lst_at R2 (.ref (g2.mm.get h1)) hg
          cases e2
          obtain ⟨z, z1, z2⟩ := h5.get e
          have := y.2 vs2 (.inl (.inl h4))
          rw [z1] at this; cases this; exact z2
      | dic _ _ _ => simp [hA] at hk
      | obj _ _ => simp [hA] at hk
      | nd _ => simp [hA] at hk
  | scr s rs =>
    cases hk
    refine ⟨_, rfl, ⟨_, R1.fh.l s⟩, p1 _ F1 m1 H1 R1 Stp.refl ⟨_, _, walk_live, fun F2 m2 A2 H2 hg R2 g2 => ⟨_, R2.fh.l (g2.ff.l s), rs.length⟩, fun i' d' x' F2 m2 A2 H2 H3 e hg R2 g2 y => .inl ⟨y.1, ?_⟩⟩⟩
    obtain ⟨z, z1, z2⟩ := rs.get e
    have := y.2 _ (R2.fh.l (g2.ff.l s))
    rw [z1] at this; cases this; exact z2.mono g2.ff g2.mm
  | _ => cases hk
theorem sw_tup (h : SimE K ca W te a) : SimI K ca W (iTup K te) (wOf wkT a) := fun F m A σ H env Q R S p => wOf_bind h R S p fun F1 m1 A1 H1 x d kk R1 r hk p1 => by
  have main : ∀ {aa : Addr} {vs : List V} {l : List D}, SqT K F1 aa vs → RepL K ca F1 m1 vs l → kk = ⟨l, tt⟩ → x = .ref aa → ∃ a, x = .ref a ∧ (∃ xs, SqT K H1 a xs) ∧ Q (Itt K a) H1 := fun {aa vs l} s rs e ex => by
    subst e
    refine ⟨aa, ex, ⟨vs, R1.fh.t s⟩, p1 _ F1 m1 H1 R1 Stp.refl ⟨fun H => SqT K H aa vs, YAt vs, by rw [show (Wk.mk l _).ds.length = vs.length from rs.length.symm]; exact walk_tup, fun F2 m2 A2 H2 hg R2 g2 => R2.fh.t (g2.ff.t s), fun i' d' x' F2 m2 A2 H2 H3 e hg R2 g2 y => .inl ⟨y.1, ?_⟩⟩⟩
    obtain ⟨z, z1, z2⟩ := rs.get e
    have := y.2
    rw [z1] at this; cases this; exact z2.mono g2.ff g2.mm
  cases r with
  | tup s rs => cases hk; exact main (.inl (.inl s)) rs rfl rfl
  | wt s rs => cases hk; exact main s rs rfl rfl
  | _ => cases hk
theorem sw_str (h : SimE K ca W te a) : SimI K ca W (iStr te) (wOf wkS a) := fun F m A σ H env Q R S p => wOf_bind h R S p fun F1 m1 A1 H1 x d kk R1 r hk p1 => by
  cases r with
  | str z =>
    cases hk
    refine ⟨z, rfl, p1 _ F1 m1 H1 R1 Stp.refl ⟨fun _ => True, (fun i H v H' => H' = H ∧ ∃ c, z.cps[i]? = some c ∧ v = .str ⟨#[c]⟩), by rw [show (Wk.mk (signsOf z) _).ds.length = z.cps.size by unfold signsOf; simp]; exact walk_str, fun _ _ _ _ _ _ _ => trivial, fun i' d' x' F2 m2 A2 H2 H3 e hg R2 g2 y => .inl ⟨y.1, ?_⟩⟩⟩
    obtain ⟨_, c, h1, h2⟩ := y
    have e' : (signsOf z)[i']? = some d' := e
    unfold signsOf at e'
    rw [List.getElem?_map, Array.getElem?_toList, h1] at e'
    cases e'
    rw [h2]
    exact .str _
  | _ => cases hk
theorem wOf_pick {f g h : Hs → D → Option Wk} {a : E} (k : ∀ A x, f A x = g A x ∨ f A x = h A x) (env : Sl) (A : Hs) : wOf f a env A = wOf g a env A ∨ wOf f a env A = wOf h a env A := by
  unfold wOf
  cases a env A with
  | stuck => exact .inl rfl
  | exc _ _ => exact .inl rfl
  | ok x A1 =>
    simp only [RE.bind]
    rcases k A1 x with q | q
    · rw [q]; exact .inl rfl
    · rw [q]; exact .inr rfl
def wkTS (A : Hs) (x : D) : Option Wk := match x with
  | .tup _ => wkT A x
  | .wt _ => wkT A x
  | _ => wkS A x
theorem sw_seq (h : SimE K ca W te a) : SimI K ca W (iSeqU K te) (wSeq a) := SimI.pick (sw_list h) (SimI.pick (sw_tup h) (sw_str h) (wOf_pick (f := wkTS) fun A x => by cases x <;> first | exact .inl rfl | exact .inr rfl)) (wOf_pick fun A x => by cases x <;> first | exact .inl rfl | exact .inr rfl)
/-! ranges -/
def wAs (f : List D → Option Wk) (as : As) : Sl → Hs → RE Wk := fun env A => (as env A).bind fun ds A1 => match f ds with
  | some k => .ok k A1
  | none => .stuck
theorem wAs_bind {f : List D → Option Wk} {R' : It → Hp → Prop} {T : List V → Hp → Prop} (h : SimA K ca W ts as) (R : Rl K ca F m A H) (S : Slt K ca F m σ env) (p : PoW K ca F m H W σ R' (wAs f as env A))
    (k : ∀ F1 m1 A1 H1 x d kk, Rl K ca F1 m1 A1 H1 → RepL K ca F1 m1 x d → f d = some kk → PoW K ca F1 m1 H1 W σ R' (.ok kk A1) → T x H1) : ts σ H T := by
  refine h F m A σ H env T R S ?_
  unfold wAs at p
  cases q : as env A with
  | ok d A1 =>
    rw [q] at p
    intro v F1 m1 H1 R1 g1 r
    simp only [RE.bind] at p
    cases z : f d with
    | none => rw [z] at p; exact p.elim
    | some kk =>
      rw [z] at p
      exact k F1 m1 A1 H1 v d kk R1 r z fun J F' m' H' R2 g2 hh => p J F' m' H' R2 (g1.trans g2) hh
  | exc C A1 => rw [q] at p; exact p
  | stuck => rw [q] at p; exact p
def big (i : Int) : Prop := -(2 ^ 62) ≤ i ∧ i < 2 ^ 62
def rgL (lo c : Int) (n : Nat) : List D := (List.range n).map fun i => .int (lo + (i : Nat) * c)
theorem rgL_get {lo c : Int} {n i : Nat} {d : D} (h : (rgL lo c n)[i]? = some d) : d = .int (lo + (i : Nat) * c) ∧ i < n := by
  unfold rgL at h
  rw [List.getElem?_map] at h
  by_cases q : i < n
  · rw [List.getElem?_range q] at h; cases h; exact ⟨rfl, q⟩
  · rw [List.getElem?_eq_none (by simpa using Nat.le_of_not_lt q)] at h; cases h
theorem rgL_len {lo c : Int} {n : Nat} : (rgL lo c n).length = n := by unfold rgL; simp
open Classical in
noncomputable def rg1 : List D → Option Wk
  | [.int j] => if big j then some ⟨rgL 0 1 j.toNat, tt⟩ else none
  | _ => none
open Classical in
noncomputable def rg2 : List D → Option Wk
  | [.int i, .int j] => if big i ∧ big j then some ⟨rgL i 1 (j - i).toNat, tt⟩ else none
  | _ => none
def cnt (i j c : Int) : Nat := (if i < j then (j - i - 1) / c + 1 else 0).toNat
open Classical in
noncomputable def rg3 : List D → Option Wk
  | [.int i, .int j, .int c] => if -(2 ^ 60) ≤ i ∧ i < 2 ^ 60 ∧ -(2 ^ 60) ≤ j ∧ j < 2 ^ 60 ∧ 0 < c ∧ c < 1000000 then some ⟨rgL i c (cnt i j c), tt⟩ else none
  | _ => none
theorem sw_r1 (h : SimA K ca W ts as) : SimI K ca W (iRng1 ts) (wAs rg1 as) := fun F m A σ H env Q R S p => wAs_bind h R S p fun F1 m1 A1 H1 x d kk R1 r hk p1 => by
  match d, x, r, hk with
  | [.int j], _, .cons (.int _) .nil, hk =>
    unfold rg1 at hk
    simp only at hk
    split at hk
    · rename_i hb
      cases hk
      refine ⟨j, rfl, hb.1, hb.2, p1 _ F1 m1 H1 R1 Stp.refl ⟨fun _ => True, YFn fun i => .int (0 + i), by rw [show (Wk.mk (rgL 0 1 j.toNat) _).ds.length = j.toNat from rgL_len]; exact walk_range, fun _ _ _ _ _ _ _ => trivial, fun i' d' x' F2 m2 A2 H2 H3 e hg R2 g2 y => .inl ⟨y.1, ?_⟩⟩⟩
      obtain ⟨e1, _⟩ := rgL_get e
      rw [y.2, e1, Int.mul_one]; exact .int _
    · cases hk
/-! enumerate, zip -/
def enumL (l : List D) : List D := l.zipIdx.map fun p => .tup [.int (p.2 : Nat), p.1]
theorem enumL_len {l : List D} : (enumL l).length = l.length := by simp [enumL]
theorem enumL_get {l : List D} {i : Nat} {d : D} (h : (enumL l)[i]? = some d) : ∃ x, l[i]? = some x ∧ d = .tup [.int (i : Nat), x] := by
  unfold enumL at h
  rw [List.getElem?_map, List.getElem?_zipIdx] at h
  cases q : l[i]? with
  | none => rw [q] at h; cases h
  | some x => rw [q] at h; simp at h; exact ⟨x, rfl, h.symm⟩
def wkE (A : Hs) (x : D) : Option Wk := (wkL A x).map fun k => ⟨enumL k.ds, k.gd⟩
theorem walk_enumL {a : Addr} {n : Nat} : Walk (Ite K a) n (fun H => ∃ vs, SqL K H a vs ∧ vs.length = n) (fun i H v H' => ∃ T x, v = .ref T ∧ H T = none ∧ H' = upd H T (.tup [.int (i : Nat), x]) ∧ ∀ xs, SqL K H a xs → xs[i]? = some x) :=
  ⟨fun i _ hi ⟨vs, q, e⟩ => ⟨vs, vs[i]'(by omega), q, by simp [show i < vs.length by omega]⟩, fun _ ⟨vs, q, e⟩ => ⟨vs, q, by omega⟩, fun _ _ _ _ _ _ y => y⟩
theorem sw_enum (h : SimE K ca W te a) : SimI K ca W (iEnum K (tCons te tNil)) (wOf wkE a) := fun F m A σ H env Q R S p => wOf_bind h R S p fun F1 m1 A1 H1 x d kk R1 r hk p1 => by
  cases r with
  | ref hm =>
    rename_i aa i
    unfold wkE wkL at hk
    simp only at hk
    cases hA : A1[i]? with
    | none => simp [hA] at hk
    | some o =>
      cases o with
      | lst l =>
        simp only [hA, Option.map, Option.some.injEq] at hk
        subst hk
        obtain ⟨a', vs, e, h1, h2, h3⟩ := lst_at R1 (.ref hm) hA
        cases e
        refine ⟨aa, vs, rfl, .inl (.inl h2), p1 _ F1 m1 H1 R1 Stp.refl ⟨_, _, walk_enumL, fun F2 m2 A2 H2 hg R2 g2 => ?_, fun i' d' x' F2 m2 A2 H2 H3 e hg R2 g2 y => .inr (.inl ?_)⟩⟩
        · obtain ⟨a2, vs2, e2, _, h4, h5⟩ := lst_at R2 (.ref (g2.mm.get h1)) hg
          cases e2
          exact ⟨vs2, .inl (.inl h4), by rw [h5.length]; exact enumL_len.symm⟩
        · obtain ⟨a2, vs2, e2, _, h4, h5⟩ := lst_at R2 (.ref (g2.mm.get h1)) hg
          cases e2
          obtain ⟨T, z, y1, y2, y3, y4⟩ := y
          obtain ⟨dx, q1, q2⟩ := enumL_get e
          obtain ⟨w, w1, w2⟩ := h5.get q1
          have := y4 vs2 (.inl (.inl h4))
          rw [w1] at this; cases this
          exact ⟨T, _, _, q2, y1, y2, y3, .cons (.int _) (.cons w2 .nil)⟩
      | dic _ _ _ => simp [hA] at hk
      | obj _ _ => simp [hA] at hk
      | nd _ => simp [hA] at hk
  | scr s rs =>
    cases hk
    refine ⟨_, _, rfl, R1.fh.l s, p1 _ F1 m1 H1 R1 Stp.refl ⟨_, _, walk_enumL, fun F2 m2 A2 H2 hg R2 g2 => ⟨_, R2.fh.l (g2.ff.l s), by rw [rs.length]; exact enumL_len.symm⟩, fun i' d' x' F2 m2 A2 H2 H3 e hg R2 g2 y => .inr (.inl ?_)⟩⟩
    obtain ⟨T, z, y1, y2, y3, y4⟩ := y
    obtain ⟨dx, q1, q2⟩ := enumL_get e
    obtain ⟨w, w1, w2⟩ := rs.get q1
    have := y4 _ (R2.fh.l (g2.ff.l s))
    rw [w1] at this; cases this
    exact ⟨T, _, _, q2, y1, y2, y3, .cons (.int _) (.cons (w2.mono g2.ff g2.mm) .nil)⟩
  | _ => cases hk

/-! ### methods of lists -/
def eBL (o : D → List D → Hs → RE D) (a : E) (as : As) : E := fun env A => (a env A).bind fun x A1 => if (seqL A1 x).isSome then (as env A1).bind fun ds A2 => o x ds A2 else .stuck
def eBL0 (o : D → Hs → RE D) (a : E) : E := fun env A => (a env A).bind fun x A1 => if (seqL A1 x).isSome then o x A1 else .stuck
def MbS (K : PySem.W.Frag) (ca : CaT) (r : V → List V → Hp → VK → Prop) (o : D → List D → Hs → RE D) : Prop := ∀ F m A H x dx vs ds W σ Q, Rl K ca F m A H → Rep K ca F m x dx → RepL K ca F m vs ds → Po K ca (Rep K ca) F m H W σ Q (o dx ds A) → r x vs H Q
theorem tyL_at {A : Hs} (R : Rl K ca F m A H) (r : Rep K ca F m x dx) (h : (seqL A dx).isSome = true) : tyV K "list" x H := by
  obtain ⟨l, hl⟩ := Option.isSome_iff_exists.mp h
  obtain ⟨a, vs, e, h1, h2⟩ := seqL_at R r hl
  subst e
  exact .inl ⟨rfl, vs, h1⟩
theorem se_bl_ {r : V → List V → Hp → VK → Prop} {o : D → List D → Hs → RE D} (h : MbS K ca r o) (ha : SimE K ca W ta a) (hs : SimA K ca W ts as) : SimE K ca W (tBM K "list" r ta ts) (eBL o a as) := fun F m A σ H env Q R S p =>
  ha.bind R S p fun F1 m1 A1 H1 x dx R1 g1 S1 rx p1 => by
    by_cases q : (seqL A1 dx).isSome = true
    · rw [if_pos q] at p1
      exact ⟨tyL_at R1 rx q, hs.bind R1 S1 p1 fun F2 m2 A2 H2 vs ds R2 g2 S2 rs p2 => h F2 m2 A2 H2 x dx vs ds W σ Q R2 (rx.mono g2.ff g2.mm) rs p2⟩
    · rw [if_neg q] at p1; exact p1.elim
/-- the list that stands at a place -/
def lstAt (A : Hs) : D → Option (Nat × List D)
  | .ref i => match A[i]? with
    | some (.lst l) => some (i, l)
    | _ => none
  | _ => none
theorem lstAt_at {A : Hs} {l : List D} (h : lstAt A dx = some (i, l)) : dx = .ref i ∧ A[i]? = some (.lst l) := by
  cases dx with
  | ref j =>
    unfold lstAt at h
    cases q : A[j]? with
    | none => simp [q] at h
    | some o =>
      cases o with
      | lst l' => simp [q] at h; obtain ⟨rfl, rfl⟩ := h; exact ⟨rfl, q⟩
      | dic _ _ _ => simp [q] at h
      | obj _ _ => simp [q] at h
      | nd _ => simp [q] at h
  | _ => cases h
theorem po_put {v : V} {d : D} {a : Addr} {vs vs' : List V} {l' : List D} (R : Rl K ca F m A H) (ha : m[i]? = some a) (h1 : H a = some (.lst vs)) (r : RepL K ca F m vs' l') (rv : Rep K ca F m v d) (p : Po K ca (Rep K ca) F m H W σ Q (.ok d (A.set i (.lst l')))) : Q v (upd H a (.lst vs')) := by
  obtain ⟨R2, g2⟩ := lst_put R ha h1 r
  exact p _ _ _ _ R2 g2 rv
def oAppend (x : D) (ds : List D) (A : Hs) : RE D := match lstAt A x, ds with
  | some (i, l), [d] => if l.length < sizeLine then .ok .non (A.set i (.lst (l ++ [d]))) else .stuck
  | _, _ => .stuck
theorem ms_append : MbS K ca rAppend oAppend := fun F m A H x dx vs ds W σ Q R rx rs p => by
  unfold oAppend at p
  split at p
  · rename_i i l d hA
    split at p
    · rename_i hl
      obtain ⟨e, hA2⟩ := lstAt_at hA
      subst e
      obtain ⟨a, vs', e, h1, h2, h3⟩ := lst_at R rx hA2
      match vs, rs with
      | [y], .cons r1 .nil => exact ⟨a, vs', y, e, rfl, h2, by rw [h3.length]; exact hl, po_put R h1 h2 (h3.append (.cons r1 .nil)) .non p⟩
    · exact p.elim
  · exact p.elim
def oExtend (x : D) (ds : List D) (A : Hs) : RE D := match lstAt A x, ds with
  | some (i, l), [d] => match lstAt A d with
    | some (_, k) => if l.length + k.length ≤ sizeLine then .ok .non (A.set i (.lst (l ++ k))) else .stuck
    | none => match d with
      | .tup k => if l.length + k.length ≤ sizeLine then .ok .non (A.set i (.lst (l ++ k))) else .stuck
      | _ => .stuck
  | _, _ => .stuck
def oPopAt (x : D) (ds : List D) (A : Hs) : RE D := match lstAt A x, ds with
  | some (i, l), [.int j] => if -(2 ^ 63) ≤ j ∧ j < 2 ^ 63 then match seqIndex? j l.length with
      | some k => match l[k]? with
        | some d => .ok d (A.set i (.lst (l.eraseIdx k)))
        | none => .stuck
      | none => .stuck
    else .stuck
  | _, _ => .stuck
def oClear (x : D) (A : Hs) : RE D := match lstAt A x with
  | some (i, _) => .ok .non (A.set i (.lst []))
  | none => .stuck
/-- bs.count(c), bs.index(c), of truths -/
def oCount (x : D) (ds : List D) (A : Hs) : RE D := match (seqL A x).bind boolsOf, ds with
  | some bs, [.bl c] => .ok (.int (bs.count c : Nat)) A
  | _, _ => .stuck
end
end SM

namespace SM
open PySem L2
open DL (Ex ExK rJoin rIdxS)
section
variable {K : PySem.W.Frag} {ca : CaT} {F F1 F2 H H1 H2 : Hp} {m m1 m2 : List Addr} {A A1 A2 : Hs} {σ : L2.St} {env : Sl} {W : WX} {Q : VK}
variable {ta tb tc te to ti : TE} {a b c o : E} {i : Nat} {d : D} {ts : TA} {as : As} {x : V} {dx : D}
/-! ### methods of texts, one argument -/
/-! ### methods of dicts -/
def isDic (A : Hs) (x : D) : Bool := (dicAt A x).isSome
theorem isD_of (R : Rl K ca F m A H) (r : Rep K ca F m x dx) (h : isDic A dx = true) : ∃ a, x = .ref a ∧ L2.IsD H a := by
  unfold isDic dicAt at h
  cases r with
  | ref hm =>
    rename_i aa i
    simp only at h
    cases q : A[i]? with
    | none => simp [q] at h
    | some o =>
      cases o with
      | dic t lk l =>
        obtain ⟨a, e, ha, r⟩ := R.at q (.ref hm)
        cases e
        cases t with
        | false => obtain ⟨kvs, h1, _⟩ := r; exact ⟨aa, rfl, .inl ⟨kvs, rdK h1⟩⟩
        | true => obtain ⟨kvs, h1, _⟩ := r; exact ⟨aa, rfl, .inr ⟨kvs, rdK h1⟩⟩
      | lst _ => simp [q] at h
      | obj _ _ => simp [q] at h
      | nd _ => simp [q] at h
  | _ => cases h
def getD (A : Hs) (x y z : D) : Option D := match dicAt A x with
  | some (t, l) => if keyOk t y then some ((kget l y).getD z) else none
  | none => none
def ofO {α : Type} (A : Hs) : Option α → RE α
  | some d => .ok d A
  | none => .stuck
/-- d.get(y, z) -/
def eGet2 (o i e : E) : E := fun env A => (o env A).bind fun x A1 => if isDic A1 x then (i env A1).bind fun y A2 => (e env A2).bind fun z A3 => ofO A3 (getD A3 x y z) else .stuck
theorem se_get2 {tz : TE} {e : E} (ho : SimE K ca W to a) (hi : SimE K ca W ti b) (he : SimE K ca W tz e) : SimE K ca W (tDGet2 to ti tz) (eGet2 a b e) := fun F m A σ H env Q R S p =>
  ho.bind R S p fun F1 m1 A1 H1 x dx R1 g1 S1 rx p1 => by
    by_cases q : isDic A1 dx = true
    · rw [if_pos q] at p1
      obtain ⟨aa, e1, h1⟩ := isD_of R1 rx q
      refine ⟨aa, e1, h1, hi.bind R1 S1 p1 fun F2 m2 A2 H2 y dy R2 g2 S2 ry p2 => he.bind R2 S2 p2 fun F3 m3 A3 H3 z dz R3 g3 S3 rz p3 => ?_⟩
      unfold getD at p3
      cases hl : dicAt A3 dx with
      | none => simp only [hl] at p3; exact p3.elim
      | some tl =>
        obtain ⟨t, l⟩ := tl
        simp only [hl] at p3
        by_cases hk : keyOk t dy = true
        · rw [if_pos hk] at p3
          obtain ⟨a2, oo, e2, h2, _, h3, h4⟩ := dic_get R3 (rx.mono (g2.trans g3).ff (g2.trans g3).mm) (ry.mono g3.ff g3.mm) hl hk
          rw [e1] at e2; cases e2
          refine ⟨oo, h2, ?_⟩
          cases w : kget l dy with
          | none =>
            rw [h4 w]; rw [w] at p3
            exact po_ok R3 rz p3
          | some dd =>
            obtain ⟨v, e3, rv⟩ := h3 dd w
            rw [e3]; rw [w] at p3
            exact po_ok R3 rv p3
        · rw [if_neg hk] at p3; exact p3.elim
    · rw [if_neg q] at p1; exact p1.elim
/-! ### a dict of the written part -/
inductive TabOk (K : PySem.W.Frag) (w : World) (da : Addr) : List (String × Int) → Prop
  | nil : TabOk K w da []
  | cons {k : String} {k' : Str} {n : Int} {r : List (String × Int)} : k' = fS k → KDct K w da k' (.int n) → TabOk K w da r → TabOk K w da ((k, n) :: r)
theorem TabOk.of {w : World} {da : Addr} {tb : List (String × Int)} (h : TabOk K w da tb) {z : Str} {n : String × Int} (q : (tb.find? fun e => decide (fS e.1 = z)) = some n) : KDct K w da z (.int n.2) := by
  induction h with
  | nil => cases q
  | cons e h1 h2 ih =>
    rename_i k k' n' r
    rw [List.find?_cons] at q
    by_cases c : fS k = z
    · simp only [c, decide_true] at q
      cases q
      rw [← c, ← e]; exact h1
    · simp only [c, decide_false] at q
      exact ih q
end
end SM

namespace DL
open PySem L2
theorem room65w {k : Nat} {A : Around} (r : Room k A) : A.units + 1 < cLine := by have := r.un; omega
end DL
namespace SM
open PySem L2
open DL (Ex ExK)
/-- a written text -/
def dS (s : String) : D := .str (fS s)
section
variable {K : PySem.W.Frag} {ca : CaT} {F F1 F2 H H1 H2 : Hp} {m m1 m2 : List Addr} {A A1 A2 A3 : Hs} {σ : L2.St} {env : Sl} {W : WX} {Q : VK}
variable {ta tb tc te to ti tv : TE} {a b c o v : E} {i : Nat} {d : D} {ts : TA} {as : As} {x : V} {dx : D} {cs : List String}
theorem se_strS {x : Str} {s : String} (h : x = fS s) : SimE K ca W (tC (.str x)) (eC (dS s)) := se_c fun _ _ => by subst h; exact .str _
/-- xs or e, xs a list -/
def eOrL (a b : E) : E := fun env A => (a env A).bind fun x A1 => match seqL A1 x with
  | some l => if l.isEmpty then b env A1 else .ok x A1
  | none => .stuck
theorem se_orL (ha : SimE K ca W ta a) (hb : SimE K ca W tb b) : SimE K ca W (tOrT K ta tb) (eOrL a b) := fun F m A σ H env Q R S p =>
  ha.bind R S p fun F1 m1 A1 H1 x dx R1 g1 S1 rx p1 => by
    cases hl : seqL A1 dx with
    | none => simp only [hl] at p1; exact p1.elim
    | some l =>
      simp only [hl] at p1
      obtain ⟨aa, vs, e, h1, h2⟩ := seqL_at R1 rx hl
      refine ⟨!vs.isEmpty, by rw [e]; exact .inl ⟨vs, h1, rfl⟩, ?_⟩
      have : vs.isEmpty = l.isEmpty := by cases h2 <;> rfl
      rw [this]
      cases z : l.isEmpty with
      | true => rw [z] at p1; exact hb F1 m1 A1 σ H1 env Q R1 S1 p1
      | false => rw [z] at p1; exact po_ok R1 rx p1
/-! ### {k: v, ..} -/
abbrev Dps := Sl → Hs → RE (List (D × D))
def dNil : Dps := fun _ A => .ok [] A
def dCons (k v : E) (r : Dps) : Dps := fun env A => (k env A).bind fun x A1 => (v env A1).bind fun y A2 => (r env A2).bind fun ps A3 => .ok ((x, y) :: ps) A3
def kmerge (l : List (D × D)) : List (D × D) → List (D × D)
  | [] => l
  | (k, v) :: r => kmerge (kput l k v) r
def eDisp (d : Dps) : E := fun env A => (d env A).bind fun ps A1 => if (ps.all fun p => (keyK p.1).isSome) && decide (ps.length ≤ 15) then alloc A1 (.dic false false (kmerge [] ps)) else .stuck
theorem kmerge_rep : ∀ {more : List (Key × V)} {ps : List (D × D)} {kvs : List (Key × V)} {l : List (D × D)}, KvR K ca F m kD more ps → KvR K ca F m kD kvs l → KvR K ca F m kD (L2.mergeK kvs more) (kmerge l ps)
  | _, _, _, _, .nil, h => h
  | _ :: more, _ :: ps, kvs, l, .cons (k := k) (v := v) r1 r2, h => kmerge_rep (more := more) (ps := ps) (kvs := putK kvs k v) r2 (kput_rep keq_kD r1 h)
/-! ### op= -/
def oIAdd (x y : D) (A : Hs) : RE D := match x, y with
  | .int i, .int j => .ok (.int (i + j)) A
  | .str z, .str w => if z.length + w.length ≤ sizeLine then .ok (.str (z ++ w)) A else .stuck
  | .tup l, .tup k => if l ≠ [] ∧ l.length + k.length ≤ sizeLine then .ok (.tup (l ++ k)) A else .stuck
  | .ref i, .ref j => match A[i]?, A[j]? with
    | some (.lst l), some (.lst k) => if l.length + k.length ≤ sizeLine then .ok (.ref i) (A.set i (.lst (l ++ k))) else .stuck
    | _, _ => .stuck
  | _, _ => .stuck
/-! ### d[k] op= e, xs[i] op= e -/
/-- a dict's item -/
def sDAugP (op : D → D → Hs → RE D) (o i a : E) : S := fun env A => ofE env (o env A) fun x A1 => ofE env (i env A1) fun y A2 => ofE env (oDGet x y A2) fun z A3 => ofE env (a env A3) fun v A4 => ofE env (op z v A4) fun r A5 => if isLst A5 x then .stuck else ofH env (setIt A5 x y r)
/-- a list's item, by a place from 0 on -/
def getN (A : Hs) (x y : D) : Option D := match seqL A x, y with
  | some l, .int i => if 0 ≤ i then l[i.toNat]? else none
  | _, _ => none
def sLAugP (op : D → D → Hs → RE D) (o i a : E) : S := fun env A => ofE env (o env A) fun x A1 => ofE env (i env A1) fun y A2 => match getN A2 x y with
  | some z => ofE env (a env A2) fun v A4 => ofE env (op z v A4) fun r A5 => if isLst A5 x then ofH env (setIt A5 x y r) else .stuck
  | none => .stuck
/-! ### min of three -/
def c3 (f : D → D → D → Hs → RE D) : List D → Hs → RE D := fun ds A => match ds with
  | [d, e, g] => f d e g A
  | _ => .stuck
def oMin3 (x y z : D) (A : Hs) : RE D := match x, y, z with
  | .int i, .int j, .int k => .ok (.int (min (min i j) k)) A
  | _, _, _ => .stuck
end
end SM

/-! ## equations for the plain functions -/
namespace SM
open PySem L2
section
variable {α β : Type} {A A1 A2 A3 : Hs} {env e1 e2 : Sl} {a b c o v : E} {as : As} {d d1 d2 x y z : D} {i j k n : Nat} {p q r : Int} {C : String} {f g : S} {F : Fn} {cs os xs : List String} {tb : List (String × String × Bool)} {l l1 l2 : List D} {fs : List (String × D)}
theorem z2p {f : α → Hs → RE β} : (RE.exc C A : RE α).bind f = .exc C A := rfl
theorem z0n {f : α → Hs → RE β} : (RE.stuck : RE α).bind f = .stuck := rfl
theorem z7l {x : α} : (RE.ok x A).noX = .ok x A := rfl
theorem z4f : (RE.exc C A : RE α).noX = .stuck := rfl
theorem z6q {e : Sl} : eVar 0 (some d :: e) A = .ok d A := rfl
theorem z6z {e : Sl} {s : Option D} : eVar (n + 1) (s :: e) A = eVar n e A := rfl
theorem eC_ : eC d env A = .ok d A := rfl
theorem zc8 {o : D → D → Hs → RE D} : eOp o a b env A = (a env A).bind fun x A1 => (b env A1).bind fun y A2 => o x y A2 := rfl
theorem zab {o : D → Hs → RE D} : eUn o a env A = (a env A).bind fun x A1 => o x A1 := rfl
theorem z86 : aNil env A = .ok [] A := rfl
theorem z7k : aCons a as env A = (a env A).bind fun x A1 => (as env A1).bind fun xs A2 => .ok (x :: xs) A2 := rfl
theorem zaf {f : List D → Hs → RE D} : eCB f as env A = (as env A).bind f := rfl
theorem z5c : eCall F as env A = (as env A).bind F := rfl
theorem z4a : eCall0 F as env A = (as env A).bind fun ds A1 => (F ds A1).noX := rfl
theorem c1_ {f : D → Hs → RE D} : c1 f [d] A = f d A := rfl
theorem c2_ {f : D → D → Hs → RE D} : c2 f [d, d1] A = f d d1 A := rfl
theorem c3_ {f : D → D → D → Hs → RE D} : c3 f [d, d1, d2] A = f d d1 d2 A := rfl
/-- a truth, or stuck -/
def bl_ {α : Type} (r : RE D) (k : Bool → Hs → RE α) : RE α := match r with
  | .ok (.bl c) A => k c A
  | .ok _ _ => .stuck
  | .exc C A => .exc C A
  | .stuck => .stuck
theorem z9l {c : Bool} {k : Bool → Hs → RE α} : bl_ (.ok (.bl c) A) k = k c A := rfl
theorem z5q {k : Bool → Hs → RE α} : bl_ (.exc C A) k = .exc C A := rfl
theorem z88 : eAnd a b env A = bl_ (a env A) fun c A1 => if c = true then b env A1 else .ok (.bl false) A1 := by
  unfold eAnd bl_ RE.bind
  cases a env A with
  | ok x A1 => cases x with
    | bl c => cases c <;> rfl
    | _ => rfl
  | _ => rfl
theorem zbn : eOr a b env A = bl_ (a env A) fun c A1 => if c = true then .ok (.bl true) A1 else b env A1 := by
  unfold eOr bl_ RE.bind
  cases a env A with
  | ok x A1 => cases x with
    | bl c => cases c <;> rfl
    | _ => rfl
  | _ => rfl
theorem z8o : eNot a env A = bl_ (a env A) fun c A1 => .ok (.bl (!c)) A1 := by
  unfold eNot bl_ RE.bind
  cases a env A with
  | ok x A1 => cases x <;> rfl
  | _ => rfl
theorem zbu {o o' : D → D → Hs → RE D} : eCh o o' a b c env A = (a env A).bind fun x A1 => (b env A1).bind fun y A2 => bl_ (o x y A2) fun k A3 => if k = true then (c env A3).bind fun w A4 => o' y w A4 else .ok (.bl false) A3 := by
  unfold eCh bl_ RE.bind
  cases a env A with
  | ok x A1 =>
    simp only
    cases b env A1 with
    | ok y A2 =>
      simp only
      cases o x y A2 with
      | ok z A3 => cases z with
        | bl k => cases k <;> rfl
        | _ => rfl
      | _ => rfl
    | _ => rfl
  | _ => rfl
theorem zc4 : tOf a env A = bl_ (a env A) fun c A1 => .ok c A1 := by
  unfold tOf bl_ RE.bind
  cases a env A with
  | ok x A1 => cases x <;> rfl
  | _ => rfl
theorem zc1 {s t : Tt} : tAn s t env A = (s env A).bind fun c A1 => if c = true then t env A1 else .ok false A1 := rfl
theorem zc5 {s t : Tt} : tOo s t env A = (s env A).bind fun c A1 => if c = true then .ok true A1 else t env A1 := rfl
theorem zbi {s : Tt} : tNo s env A = (s env A).bind fun c A1 => .ok (!c) A1 := rfl
theorem zc2 : tYe env A = .ok true A := rfl
theorem zaq {s : Tt} : eIf s a b env A = (s env A).bind fun c A1 => if c = true then a env A1 else b env A1 := rfl
theorem z9w : eTup as env A = (as env A).bind fun ds A1 => if ds.length ≤ sizeLine then .ok (.tup ds) A1 else .stuck := rfl
theorem z9k : eLst as env A = (as env A).bind fun ds A1 => if ds.length ≤ sizeLine then .ok (.ref A1.length) (A1 ++ [.lst ds]) else .stuck := rfl
theorem z0f {n : Nat} (h : n ≤ 16000000) : n ≤ sizeLine := by rw [sizeLine_eq]; omega
theorem small_line' {n : Nat} (h : n < 16000000) : n < sizeLine := by rw [sizeLine_eq]; omega
theorem z59 {t : Bool} : eDNew t env A = .ok (.ref A.length) (A ++ [.dic t false []]) := rfl
theorem zam : oNo env A = .ok none A := rfl
def int_ {α : Type} (r : RE D) (k : Int → Hs → RE α) : RE α := match r with
  | .ok (.int c) A => k c A
  | .ok _ _ => .stuck
  | .exc C A => .exc C A
  | .stuck => .stuck
theorem z79 {c : Int} {k : Int → Hs → RE α} : int_ (.ok (.int c) A) k = k c A := rfl
theorem zbd : oSo a env A = int_ (a env A) fun c A1 => .ok (some c) A1 := by
  unfold oSo int_ RE.bind
  cases a env A with
  | ok x A1 => cases x <;> rfl
  | _ => rfl
theorem zba {o : D → Option Int → Option Int → Hs → RE D} {lo hi : Sl → Hs → RE (Option Int)} : eSl o a lo hi env A = (a env A).bind fun x A1 => (lo env A1).bind fun l A2 => (hi env A2).bind fun h A3 => o x l h A3 := rfl
/-! statements -/
def seqR (r : RS) (b : S) : RS := match r with
  | .nx env' A' => b env' A'
  | r => r
theorem z5e : seqR (.rt d A) g = .rt d A := rfl
theorem z3x : seqR (.exc C env A) g = .exc C env A := rfl
theorem z60 : seqR (.bk env A) g = .bk env A := rfl
theorem z64 : seqR (.ct env A) g = .ct env A := rfl
theorem z0p : seqR .stuck g = .stuck := rfl
theorem zb9 : sNx env A = .nx env A := rfl
theorem zay : sBk env A = .bk env A := rfl
theorem zax : sCt env A = .ct env A := rfl
theorem z3g : sRaise C env A = .exc C env A := rfl
theorem z5m {k : D → Hs → RS} : ofE env (.ok d A) k = k d A := rfl
theorem z4x {k : D → Hs → RS} : ofE env (.exc C A) k = .exc C env A := rfl
theorem z7e {c : Bool} {k : Bool → Hs → RS} : ofT env (.ok c A) k = k c A := rfl
theorem z3s {k : Bool → Hs → RS} : ofT env (.exc C A) k = .exc C env A := rfl
theorem z5u : sDrop a env A = ofE env (a env A) fun _ A1 => .nx env A1 := rfl
theorem za5 : sRet a env A = ofE env (a env A) fun d A1 => .rt d A1 := rfl
theorem z5z : sRetN env A = .rt .non A := rfl
theorem zan {t : Tt} : sIf t f g env A = ofT env (t env A) fun c A1 => if c = true then f env A1 else g env A1 := rfl
theorem z90 : sSet i a env A = ofE env (a env A) fun d A1 => .nx (env.set i (some d)) A1 := rfl
def ofS (r : Option Sl) (A : Hs) : RS := match r with
  | some env' => .nx env' A
  | none => .stuck
theorem z2s : ofS (some env) A = .nx env A := rfl
theorem z7x {g : G} : sAsg a g env A = ofE env (a env A) fun d A1 => ofS (g d env A1) A1 := by
  unfold sAsg ofS; rfl
theorem gN_ : gN i d env A = some (env.set i (some d)) := rfl
theorem z5d {gs : List G} : gT gs (.tup l) env A = gAll gs l env A := rfl
theorem z2m : gAll [] [] env A = some env := rfl
theorem z1b {g : G} {gs : List G} : gAll (g :: gs) (d :: l) env A = (g d env A).bind fun e => gAll gs l e A := by
  rw [gAll]; cases g d env A <;> rfl
def par_ (env : Sl) (i j : Nat) (r : RE (List D)) : RS := match r with
  | .ok [x, y] A1 => .nx ((env.set i (some x)).set j (some y)) A1
  | .exc C A1 => .exc C env A1
  | _ => .stuck
theorem z98 : sPar i j as env A = par_ env i j (as env A) := rfl
theorem z74 : par_ env i j (.ok [x, y] A) = .nx ((env.set i (some x)).set j (some y)) A := rfl
def var_ (env : Sl) (i : Nat) (k : D → RS) : RS := match env[i]? with
  | some (some x) => k x
  | _ => .stuck
theorem za2 {e : Sl} {k : D → RS} : var_ (some d :: e) 0 k = k d := rfl
theorem z99 {e : Sl} {s : Option D} {k : D → RS} : var_ (s :: e) (n + 1) k = var_ e n k := rfl
theorem z8h {o : D → D → Hs → RE D} : sAug i o a env A = var_ env i fun x => ofE env (a env A) fun y A1 => ofE env (o x y A1) fun z A2 => .nx (env.set i (some z)) A2 := rfl
def finR (r : RS) : RE D := match r with
    | .nx _ A' => .ok .non A'
    | .rt d A' => .ok d A'
    | .exc C _ A' => .exc C A'
    | _ => .stuck
theorem z5v : finR (.nx env A) = .ok .non A := rfl
theorem z63 : finR (.rt d A) = .ok d A := rfl
theorem z52 : finR (.exc C env A) = .exc C A := rfl
theorem z0u : finR .stuck = .stuck := rfl
theorem z91 (h : l.length = n) : mkFn n k f l A = finR (f (l.map some ++ List.replicate (k - n) none) A) := by
  unfold mkFn; rw [if_pos h]; unfold finR; rfl
theorem z8r {e : Sl} {s t : Option D} : List.set (s :: e) 0 t = t :: e := rfl
theorem z9o {e : Sl} {s t : Option D} : List.set (s :: e) (n + 1) t = s :: List.set e n t := rfl
/-! operators -/
theorem z70 : oAdd (.int p) (.int q) A = .ok (.int (p + q)) A := rfl
theorem z6j (h : l.length + l1.length ≤ 16000000) : oAdd (.tup l) (.tup l1) A = .ok (.tup (l ++ l1)) A := by
  unfold oAdd; simp only; rw [if_pos (z0f h)]
theorem z67 {s t : Str} (h : s.length + t.length ≤ 16000000) : oAdd (.str s) (.str t) A = .ok (.str (s ++ t)) A := by
  unfold oAdd; simp only; rw [if_pos (z0f h)]
theorem oAdd_l (h1 : A[i]? = some (.lst l)) (h2 : A[j]? = some (.lst l1)) (h : l.length + l1.length ≤ 16000000) : oAdd (.ref i) (.ref j) A = .ok (.ref A.length) (A ++ [.lst (l ++ l1)]) := by
  unfold oAdd; simp only [h1, h2]; rw [if_pos (z0f h)]; rfl
theorem z7m : oSub (.int p) (.int q) A = .ok (.int (p - q)) A := rfl
theorem z5x (h : -18446744073709551616 < q ∧ q < 18446744073709551616) : oMul (.int p) (.int q) A = .ok (.int (p * q)) A := by
  unfold oMul; simp only; rw [if_pos (.inl (.inr ⟨by have := h.1; omega, by have := h.2; omega⟩))]
theorem z75 (h : -18446744073709551616 < p ∧ p < 18446744073709551616) : oMul (.int p) (.int q) A = .ok (.int (p * q)) A := by
  unfold oMul; simp only; rw [if_pos (.inl (.inl ⟨by have := h.1; omega, by have := h.2; omega⟩))]
theorem z66 (h : l.length ≤ 1000 ∧ -1000 ≤ q ∧ q ≤ 4000) : oMul (.tup l) (.int q) A = .ok (.tup (List.replicate q.toNat l).flatten) A := by
  unfold oMul; simp only; rw [if_pos h]
theorem log_small {q : Int} (h : 0 < q ∧ q < 18446744073709551616) : q.natAbs.log2 < 9000 := by
  have : q.natAbs < 2 ^ 64 := by omega
  by_cases z : q.natAbs = 0
  · rw [z]; decide
  · have := (Nat.log2_lt z).mpr this; omega
theorem z5s (h : 0 < q ∧ q < 18446744073709551616) : oDiv (.int p) (.int q) A = .ok (.int (p / q)) A := by
  unfold oDiv oII; simp only; rw [if_pos ⟨h.1, log_small h⟩]
theorem z6k (h : 0 < q) : oMod (.int p) (.int q) A = .ok (.int (p % q)) A := by
  unfold oMod oII; simp only; rw [if_pos h]
theorem z5n (h : 0 ≤ q ∧ q ≤ 1000000 ∧ p.natAbs < 18446744073709551616) : oPow (.int p) (.int q) A = .ok (.int (p ^ q.toNat)) A := by
  unfold oPow oII; simp only; rw [if_pos ⟨h.1, h.2.1, by have := h.2.2; omega⟩]
theorem z97 : oLt (.int p) (.int q) A = .ok (.bl (decide (p < q))) A := rfl
theorem za1 : oLe (.int p) (.int q) A = .ok (.bl (decide (p ≤ q))) A := rfl
theorem z9j : oGt (.int p) (.int q) A = .ok (.bl (decide (q < p))) A := rfl
theorem z7r : oGe (.int p) (.int q) A = .ok (.bl (decide (q ≤ p))) A := rfl
theorem z7d : oNeg (.int p) A = .ok (.int (-p)) A := rfl
theorem z3b : oMax2 (.int p) (.int q) A = .ok (.int (max p q)) A := by
  show RE.ok (D.int (if q > p then q else p)) A = _
  congr 2; omega
theorem z4o : oMin2 (.int p) (.int q) A = .ok (.int (min p q)) A := by
  show RE.ok (D.int (if q < p then q else p)) A = _
  congr 2; omega
theorem z45 : oMin3 (.int p) (.int q) (.int r) A = .ok (.int (min (min p q) r)) A := rfl
theorem z5r : oInt (.int p) A = .ok (.int p) A := rfl
theorem z7j {b : Bool} : oInt (.bl b) A = .ok (.int (if b then 1 else 0)) A := rfl
theorem z9p : oEq (.int p) (.int q) A = .ok (.bl (decide (p = q))) A := by
  unfold oEq oB eqA; simp [pyA, PyData.eqv]; rfl
theorem z9i : oNe (.int p) (.int q) A = .ok (.bl (!decide (p = q))) A := by
  unfold oNe oB eqA; simp [pyA, PyData.eqv]; rfl
theorem z3h {s t : Str} : oEq (.str s) (.str t) A = .ok (.bl (decide (s = t))) A := by
  unfold oEq oB eqA; simp [pyA, PyData.eqv]; rfl
theorem z40 {s t : Str} : oNe (.str s) (.str t) A = .ok (.bl (!decide (s = t))) A := by
  unfold oNe oB eqA; simp [pyA, PyData.eqv]; rfl
theorem z8b {s t : String} : oEq (dS s) (dS t) A = .ok (.bl (decide (s = t))) A := by
  unfold dS; rw [z3h]; congr 3; exact propext fS_inj
theorem z85 {s t : String} : oNe (dS s) (dS t) A = .ok (.bl (!decide (s = t))) A := by
  unfold dS; rw [z40]; congr 4; exact propext fS_inj
theorem eqA_of {b : Bool} (h : eqA A x y = some b) : oEq x y A = .ok (.bl b) A := by unfold oEq oB; rw [h]
theorem neA_of {b : Bool} (h : eqA A x y = some b) : oNe x y A = .ok (.bl (!b)) A := by unfold oNe oB; simp only [h]; rfl
theorem z4c : oIs x .non A = .ok (.bl (isNon x)) A := rfl
theorem z0g : oIsNot x .non A = .ok (.bl (!isNon x)) A := rfl
theorem z72 {b c : Bool} : oIs (.bl b) (.bl c) A = .ok (.bl (decide (b = c))) A := rfl
theorem z0y {b c : Bool} : oIsNot (.bl b) (.bl c) A = .ok (.bl (!decide (b = c))) A := rfl
theorem z16 : isNon .non = true := rfl
theorem z1h : isNon (.int p) = false := rfl
theorem z1v {b : Bool} : isNon (.bl b) = false := rfl
theorem z15 : isNon (.ref i) = false := rfl
theorem z0v : isNon (.tup l) = false := rfl
theorem z1n {s : Str} : isNon (.str s) = false := rfl
theorem z32 {s : String} : isNon (dS s) = false := rfl
theorem z1m : isNon (.exc C) = false := rfl
theorem z1o : oIsi os xs tb (.int p) (.ty "int") A = .ok (.bl true) A := rfl
theorem z0m : oIsi os xs tb (.int p) (.ty "bool") A = .ok (.bl false) A := rfl
theorem z1j {b : Bool} : oIsi os xs tb (.bl b) (.ty "int") A = .ok (.bl true) A := rfl
theorem z0o {b : Bool} : oIsi os xs tb (.bl b) (.ty "bool") A = .ok (.bl true) A := rfl
theorem z1p : oIsi os xs tb .non (.ty "int") A = .ok (.bl false) A := rfl
theorem z0b : oIsi os xs tb .non (.ty "bool") A = .ok (.bl false) A := rfl
theorem z1d : oIsi os xs tb .non (.ty "str") A = .ok (.bl false) A := rfl
theorem z01 : oIsi os xs tb .non (.ty "tuple") A = .ok (.bl false) A := rfl
theorem z0c : oIsi os xs tb .non (.ty "list") A = .ok (.bl false) A := rfl
theorem z0x {s : Str} : oIsi os xs tb (.str s) (.ty "int") A = .ok (.bl false) A := rfl
theorem z0e {s : Str} : oIsi os xs tb (.str s) (.ty "bool") A = .ok (.bl false) A := rfl
theorem z14 {s : Str} : oIsi os xs tb (.str s) (.ty "str") A = .ok (.bl true) A := rfl
theorem z00 {s : Str} : oIsi os xs tb (.str s) (.ty "tuple") A = .ok (.bl false) A := rfl
theorem z17 : oIsi os xs tb (.tup l) (.ty "int") A = .ok (.bl false) A := rfl
theorem z0h : oIsi os xs tb (.tup l) (.ty "bool") A = .ok (.bl false) A := rfl
theorem z04 : oIsi os xs tb (.tup l) (.ty "tuple") A = .ok (.bl true) A := rfl
theorem z0j : oIsi os xs tb (.tup l) (.ty "list") A = .ok (.bl false) A := rfl
theorem z1f : oIsi os xs tb (.tup l) (.ty "str") A = .ok (.bl false) A := rfl
theorem z05 : oIsi os xs tb (.int p) (.ty "tuple") A = .ok (.bl false) A := rfl
theorem z11 : oIsi os xs tb (.int p) (.ty "str") A = .ok (.bl false) A := rfl
theorem z0k : oIsi os xs tb (.int p) (.ty "list") A = .ok (.bl false) A := rfl
theorem z06 {b : Bool} : oIsi os xs tb (.bl b) (.ty "tuple") A = .ok (.bl false) A := rfl
theorem z1i {b : Bool} : oIsi os xs tb (.bl b) (.ty "str") A = .ok (.bl false) A := rfl
/-! the heap -/
theorem z2y : seqL A (.scr l) = some l := rfl
theorem z1y : seqL A (.tup l) = none := rfl
theorem z2j {s : Str} : seqL A (.str s) = none := rfl
theorem z5h : oLen (.tup l) A = .ok (.int l.length) A := rfl
theorem z5w {s : Str} (h : s.length ≤ 16000000) : oLen (.str s) A = .ok (.int s.length) A := by
  unfold oLen lenA; simp only [seqL, seqT]; rw [if_pos (z0f h)]
theorem z2h : oTuple (.tup l) A = .ok (.tup l) A := rfl
theorem z3p : oList (.tup l) A = .ok (.ref A.length) (A ++ [.lst l]) := rfl
theorem z8i {lo hi : Option Int} : oSl (.tup l) lo hi A = .ok (.tup (cutD l lo hi)) A := rfl
def fld_ (r : Option D) (A : Hs) : RE D := match r with
  | some d => .ok d A
  | none => .stuck
theorem z22 : fld_ (some d) A = .ok d A := rfl
theorem z7s {f : String} : eFld cs f a env A = (a env A).bind fun x A1 => fld_ (getFld cs f A1 x) A1 := rfl
theorem zc7 {f : String} : sFl cs f o a env A = ofE env (a env A) fun d A1 => ofE env (o env A1) fun x A2 => ofH env (setFld cs A2 x f d) := by
  unfold sFl ofH; rfl
theorem z21 : ofH env (some A) = .nx env A := rfl
theorem z4v {f : String} {op : D → D → Hs → RE D} : sFlAug cs f op o a env A = ofE env (o env A) fun x A1 => ofE env (fld_ (getFld cs f A1 x) A1) fun v A1 => ofE env (a env A1) fun y A2 => ofE env (op v y A2) fun z A3 => ofH env (setFld cs A3 x f z) := by
  unfold sFlAug ofH
  congr
  funext x A1
  cases getFld cs f A1 x <;> rfl
theorem z2v {f : String} : putF f d [] = [(f, d)] := rfl
theorem z0z {f g : String} : putF f d ((g, x) :: fs) = if g = f then (g, d) :: fs else (g, x) :: putF f d fs := rfl
theorem z4e : oIAdd (.int p) (.int q) A = .ok (.int (p + q)) A := rfl
def meth_ (r : Option Fn) (k : Fn → RE D) : RE D := match r with
  | some f => k f
  | none => .stuck
theorem z0t {k : Fn → RE D} : meth_ (some F) k = k F := rfl
theorem z6d {m : String} {t : List (String × Fn)} : eMeth m t o as env A = (o env A).bind fun x A1 => meth_ (methOf m t A1 x) fun f => (as env A1).bind fun ds A2 => f (x :: ds) A2 := by
  unfold eMeth meth_; rfl
theorem z34 {m : String} {t : List (String × Fn)} : eMeth0 m t o as env A = (o env A).bind fun x A1 => meth_ (methOf m t A1 x) fun f => (as env A1).bind fun ds A2 => (f (x :: ds) A2).noX := by
  unfold eMeth0 meth_; rfl
theorem make_ok {ds : List D} (h : F (.ref A.length :: ds) (A ++ [.obj C []]) = .ok .non A1) : make C F ds A = .ok (.ref A.length) A1 := by unfold make; rw [h]
theorem z6r : eMake C F as env A = (as env A).bind fun ds A1 => make C F ds A1 := rfl
theorem z58 : eMake0 C F as env A = (as env A).bind fun ds A1 => (make C F ds A1).noX := rfl
theorem za4 : sPut o b a env A = ofE env (a env A) fun v A1 => ofE env (o env A1) fun x A2 => ofE env (b env A2) fun y A3 => ofH env (setIt A3 x y v) := rfl
theorem z3i {s : String} : keyOk false (dS s) = true := rfl
theorem z38 : keyOk false (.int p) = true := rfl
theorem z5g {s t : String} : keq (dS s) (dS t) = decide (s = t) := by
  show decide (fS s = fS t) = decide (s = t)
  simp only [fS_inj]
theorem z71 : keq (.int p) (.int q) = decide (p = q) := rfl
def augL_ (env : Sl) (r : Option D) (k : D → RS) : RS := match r with
  | some z => k z
  | none => .stuck
theorem z0s {k : D → RS} : augL_ env (some d) k = k d := rfl
theorem z46 {op : D → D → Hs → RE D} : sLAugP op o b a env A = ofE env (o env A) fun x A1 => ofE env (b env A1) fun y A2 => augL_ env (getN A2 x y) fun z => ofE env (a env A2) fun v A4 => ofE env (op z v A4) fun r A5 => if isLst A5 x then ofH env (setIt A5 x y r) else .stuck := by
  unfold sLAugP augL_; rfl
theorem z56 {op : D → D → Hs → RE D} : sDAugP op o b a env A = ofE env (o env A) fun x A1 => ofE env (b env A1) fun y A2 => ofE env (oDGet x y A2) fun z A3 => ofE env (a env A3) fun v A4 => ofE env (op z v A4) fun r A5 => if isLst A5 x then .stuck else ofH env (setIt A5 x y r) := rfl
/-! methods of lists -/
theorem zbc {o : D → List D → Hs → RE D} : eBL o a as env A = (a env A).bind fun x A1 => if (seqL A1 x).isSome then (as env A1).bind fun ds A2 => o x ds A2 else .stuck := rfl
theorem z8d {o : D → Hs → RE D} : eBL0 o a env A = (a env A).bind fun x A1 => if (seqL A1 x).isSome then o x A1 else .stuck := rfl
/-! walks -/
def ofW (env : Sl) (r : RE Wk) (k : Wk → Hs → RS) : RS := match r with
  | .ok w A => k w A
  | .exc C A => .exc C env A
  | .stuck => .stuck
theorem z6c {w : Wk} {k : Wk → Hs → RS} : ofW env (.ok w A) k = k w A := rfl
theorem z94 {w : Sl → Hs → RE Wk} {g : G} : sFor w g f env A = ofW env (w env A) fun k A1 => forL g f k.gd k.ds env A1 := by unfold sFor ofW; rfl
def wk_ (r : Option Wk) (A : Hs) : RE Wk := match r with
  | some k => .ok k A
  | none => .stuck
theorem z4h {w : Wk} : wk_ (some w) A = .ok w A := rfl
theorem zbo {f : Hs → D → Option Wk} : wOf f a env A = (a env A).bind fun x A1 => wk_ (f A1 x) A1 := by unfold wOf wk_; rfl
theorem z9e : wSeq a env A = (a env A).bind fun x A1 => wk_ (wkA A1 x) A1 := zbo
theorem zb1 {f : List D → Option Wk} : wAs f as env A = (as env A).bind fun x A1 => wk_ (f x) A1 := by unfold wAs wk_; rfl
theorem z3q : wkA A (.tup l) = some ⟨l, tt⟩ := rfl
theorem z3l : wkA A (.scr l) = some ⟨l, tt⟩ := rfl
theorem z3v : wkE A (.scr l) = some ⟨enumL l, tt⟩ := rfl
theorem zbf (h : -4611686018427387904 ≤ p ∧ p < 4611686018427387904) : rg1 [.int p] = some ⟨rgL 0 1 p.toNat, tt⟩ := by
  unfold rg1; simp only; rw [if_pos ⟨by have := h.1; omega, by have := h.2; omega⟩]
theorem zak (h : -4611686018427387904 ≤ p ∧ p < 4611686018427387904 ∧ -4611686018427387904 ≤ q ∧ q < 4611686018427387904) : rg2 [.int p, .int q] = some ⟨rgL p 1 (q - p).toNat, tt⟩ := by
  unfold rg2; simp only; rw [if_pos ⟨⟨by have := h.1; omega, by have := h.2.1; omega⟩, ⟨by have := h.2.2.1; omega, by have := h.2.2.2; omega⟩⟩]
theorem zaa (h : -1152921504606846976 ≤ p ∧ p < 1152921504606846976 ∧ -1152921504606846976 ≤ q ∧ q < 1152921504606846976 ∧ 0 < r ∧ r < 1000000) : rg3 [.int p, .int q, .int r] = some ⟨rgL p r (cnt p q r), tt⟩ := by
  unfold rg3; simp only; rw [if_pos ⟨by have := h.1; omega, by have := h.2.1; omega, by have := h.2.2.1; omega, by have := h.2.2.2.1; omega, h.2.2.2.2.1, h.2.2.2.2.2⟩]
theorem forL_nil {g : G} {gd : Hs → Prop} (h : gd A) : forL g f gd [] env A = .nx env A := by unfold forL; rw [if_pos h]
def turnR (r : RS) (k : S) : RS := match r with
  | .nx e A => k e A
  | .ct e A => k e A
  | .bk e A => .nx e A
  | r => r
theorem z55 {k : S} : turnR (.nx env A) k = k env A := rfl
theorem z53 {k : S} : turnR (.ct env A) k = k env A := rfl
theorem z39 {k : S} : turnR (.rt d A) k = .rt d A := rfl
theorem z3y {k : S} : turnR (.bk env A) k = .nx env A := rfl
theorem z29 {k : S} : turnR (.exc C env A) k = .exc C env A := rfl
theorem forL_cons {g : G} {gd : Hs → Prop} (h : gd A) (hg : g d env A = some e1) : forL g f gd (d :: l) env A = turnR (f e1 A) (forL g f gd l) := by
  rw [forL]; rw [if_pos h, hg]; rfl
/-- a for by what stays true -/
theorem for_inv {g : G} {gd : Hs → Prop} (I : Nat → Sl → Hs → Prop) (R : RS → Prop) {ds : List D} (h0 : I 0 env A) (hg : ∀ i e A, i ≤ ds.length → I i e A → gd A)
    (hs : ∀ i e A d, ds[i]? = some d → I i e A → ∃ e1, g d e A = some e1 ∧ ((∃ e2 A2, (f e1 A = .nx e2 A2 ∨ f e1 A = .ct e2 A2) ∧ I (i + 1) e2 A2) ∨ (∃ d2 A2, f e1 A = .rt d2 A2 ∧ R (.rt d2 A2)) ∨ (∃ e2 A2, f e1 A = .bk e2 A2 ∧ R (.nx e2 A2)) ∨ (∃ C e2 A2, f e1 A = .exc C e2 A2 ∧ R (.exc C e2 A2))))
    (hd : ∀ e A, I ds.length e A → R (.nx e A)) : R (forL g f gd ds env A) := by
  have main : ∀ (m : Nat) (e : Sl) (A : Hs), m ≤ ds.length → I m e A → R (forL g f gd (ds.drop m) e A) := by
    intro m
    generalize hk : ds.length - m = k
    induction k generalizing m with
    | zero =>
      intro e A hm hI
      have : m = ds.length := by omega
      subst this
      rw [List.drop_length, forL_nil (hg _ _ _ hm hI)]
      exact hd e A hI
    | succ k ih =>
      intro e A hm hI
      have hlt : m < ds.length := by omega
      rw [List.drop_eq_getElem_cons hlt]
      obtain ⟨e1, h1, h2⟩ := hs m e A ds[m] (by simp [hlt]) hI
      rw [forL_cons (hg _ _ _ hm hI) h1]
      rcases h2 with ⟨e2, A2, h2, h3⟩ | ⟨d2, A2, h2, h3⟩ | ⟨e2, A2, h2, h3⟩ | ⟨C, e2, A2, h2, h3⟩
      · rcases h2 with h2 | h2
        · rw [h2, z55]; exact ih (m + 1) (by omega) e2 A2 (by omega) h3
        · rw [h2, z53]; exact ih (m + 1) (by omega) e2 A2 (by omega) h3
      · rw [h2]; exact h3
      · rw [h2]; exact h3
      · rw [h2]; exact h3
  have := main 0 env A (Nat.zero_le _) h0
  rwa [List.drop_zero] at this
/-- a while by what stays true and a number that falls -/
theorem wh_inv {t : Tt} (I : Nat → Sl → Hs → Prop) (R : RS → Prop) {n : Nat} (h0 : I n env A)
    (hs : ∀ n e A, I n e A → (∃ A1, t e A = .ok false A1 ∧ R (.nx e A1)) ∨ (∃ A1, t e A = .ok true A1 ∧ ((∃ e2 A2, (f e A1 = .nx e2 A2 ∨ f e A1 = .ct e2 A2) ∧ ∃ m, m < n ∧ I m e2 A2) ∨ (∃ d2 A2, f e A1 = .rt d2 A2 ∧ R (.rt d2 A2)) ∨ (∃ e2 A2, f e A1 = .bk e2 A2 ∧ R (.nx e2 A2)) ∨ (∃ C e2 A2, f e A1 = .exc C e2 A2 ∧ R (.exc C e2 A2))))) : R (sWh t f env A) := by
  induction n using Nat.strongRecOn generalizing env A with
  | _ n ih =>
    rw [sWh_turn]
    rcases hs n env A h0 with ⟨A1, h1, h2⟩ | ⟨A1, h1, h2⟩
    · rw [h1]; exact h2
    · rw [h1]
      simp only [ofT, if_true]
      rcases h2 with ⟨e2, A2, h2, m, hm, h3⟩ | ⟨d2, A2, h2, h3⟩ | ⟨e2, A2, h2, h3⟩ | ⟨C, e2, A2, h2, h3⟩
      · rcases h2 with h2 | h2
        · rw [h2]; exact ih m hm h3
        · rw [h2]; exact ih m hm h3
      · rw [h2]; exact h3
      · rw [h2]; exact h3
      · rw [h2]; exact h3
def lc_ (r : RE (List D)) : RE D := match r with
  | .ok l A2 => alloc A2 (.lst l)
  | _ => .stuck
theorem z9x : lc_ (.ok l A) = .ok (.ref A.length) (A ++ [.lst l]) := rfl
theorem zbs {w : Sl → Hs → RE Wk} {g : G} {t : Tt} {vs : List Nat} : eLc w g t a vs env A = (w env A).bind fun k A1 => lc_ (lcL g t a k.gd (wipeS env vs) k.ds [] A1) := by unfold eLc lc_; rfl
/-- a comprehension whose parts leave the heap as it is -/
theorem lc_pure {g : G} {t : Tt} {gd : Hs → Prop} (p : D → Bool) (h : D → D) {ds acc : List D} (hgd : gd A) (hl : acc.length + ds.length < 16000000)
    (hs : ∀ d ∈ ds, ∃ e1, g d env A = some e1 ∧ t e1 A = .ok (p d) A ∧ (p d = true → a e1 A = .ok (h d) A)) : lcL g t a gd env ds acc A = .ok (acc ++ (ds.filter p).map h) A := by
  induction ds generalizing acc with
  | nil => rw [lcL, if_pos hgd]; simp
  | cons d ds ih =>
    obtain ⟨e1, h1, h2, h3⟩ := hs d List.mem_cons_self
    rw [lcL, if_pos hgd, h1]
    simp only [h2]
    cases q : p d with
    | false =>
      simp only
      rw [ih (by rw [List.length_cons] at hl; omega) fun d' hd => hs d' (List.mem_cons_of_mem _ hd), List.filter_cons, q]
      rfl
    | true =>
      simp only [h3 q]
      rw [if_pos (small_line' (by rw [List.length_cons] at hl; omega)), ih (by rw [List.length_cons] at hl; rw [List.length_append, List.length_singleton]; omega) fun d' hd => hs d' (List.mem_cons_of_mem _ hd), List.filter_cons, q]
      simp
end
end SM

/-! ## frames, equal data, slices -/
namespace SM
open PySem L2
section
variable {α β : Type} {A A1 A2 A3 : Hs} {env e1 e2 : Sl} {a b c o v : E} {as : As} {d d1 d2 x y z : D} {i j k n : Nat} {p q r : Int} {C : String} {f g : S} {F : Fn} {cs os xs : List String} {tb : List (String × String × Bool)} {l l1 l2 : List D} {fs : List (String × D)} {s s1 s2 : List Nat} {u u1 u2 : O}
/-- what a piece of code leaves alone -/
def Fr (s : List Nat) (A A1 : Hs) : Prop := A.length ≤ A1.length ∧ ∀ j, j < A.length → j ∉ s → A1[j]? = A[j]?
theorem Fr.refl : Fr s A A := ⟨Nat.le_refl _, fun _ _ _ => rfl⟩
theorem Fr.trans (h : Fr s A A1) (k : Fr s A1 A2) : Fr s A A2 := ⟨Nat.le_trans h.1 k.1, fun j hj hn => (k.2 j (Nat.lt_of_lt_of_le hj h.1) hn).trans (h.2 j hj hn)⟩
/-- the second may also touch what is new -/
theorem Fr.trans' (h : Fr s A A1) (k : Fr s2 A1 A2) (hs : ∀ j ∈ s2, j ∈ s ∨ A.length ≤ j) : Fr s A A2 := ⟨Nat.le_trans h.1 k.1, fun j hj hn => (k.2 j (Nat.lt_of_lt_of_le hj h.1) fun h3 => (hs j h3).elim hn fun h4 => by omega).trans (h.2 j hj hn)⟩
theorem Fr.mono (h : Fr s A A1) (hs : ∀ j ∈ s, j ∈ s2) : Fr s2 A A1 := ⟨h.1, fun j hj hn => h.2 j hj fun h3 => hn (hs j h3)⟩
theorem lt_of_get {α : Type} {A : List α} {u : α} (h : A[i]? = some u) : i < A.length := by
  rcases Nat.lt_or_ge i A.length with h1 | h1
  · exact h1
  · rw [List.getElem?_eq_none h1] at h; cases h
theorem Fr.get (h : Fr s A A1) (g : A[j]? = some u) (hn : j ∉ s) : A1[j]? = some u := (h.2 j (lt_of_get g) hn).trans g
theorem Fr.le (h : Fr s A A1) : A.length ≤ A1.length := h.1
theorem Fr.set (h : i ∈ s) : Fr s A (A.set i u) := ⟨by simp, fun j hj hn => List.getElem?_set_ne fun (e : i = j) => hn (e ▸ h)⟩
theorem Fr.push : Fr s A (A ++ [u]) := ⟨by simp, fun j hj hn => by rw [List.getElem?_append_left hj]⟩
theorem Fr.then_set (h : Fr s A A1) (hi : i ∈ s ∨ A.length ≤ i) : Fr s A (A1.set i u) := ⟨by simpa using h.1, fun j hj hn => by
  rw [List.getElem?_set_ne fun (e : i = j) => hi.elim (fun h2 => hn (e ▸ h2)) fun h2 => by omega]
  exact h.2 j hj hn⟩
theorem Fr.then_push (h : Fr s A A1) : Fr s A (A1 ++ [u]) := h.trans .push
theorem z2n : (A.set i u).set i u1 = A.set i u1 := List.set_set ..
theorem z3z : (A.set i u).length = A.length := by simp
/-! data without a heap -/
def pd : Nat → D → Bool
  | _, .non => true
  | _, .bl _ => true
  | _, .int _ => true
  | _, .str _ => true
  | n + 1, .tup l => l.all (pd n)
  | n + 1, .scr l => l.all (pd n)
  | n + 1, .wt l => l.all (pd n)
  | _, _ => false
theorem pd_py : ∀ {n : Nat} {d : D}, pd n d = true → ∃ p, p.plain = true ∧ ∀ A, pyA A n d = some p := by
  intro n
  induction n with
  | zero =>
    intro d h
    cases d with
    | non => exact ⟨.none, rfl, fun A => by simp [pyA]⟩
    | bl b => exact ⟨.bool b, rfl, fun A => by simp [pyA]⟩
    | int b => exact ⟨.int b, rfl, fun A => by simp [pyA]⟩
    | str b => exact ⟨.str b, rfl, fun A => by simp [pyA]⟩
    | _ => cases h
  | succ n ih =>
    have all : ∀ {l : List D}, l.all (pd n) = true → ∃ ps, PyData.plainAll ps = true ∧ ∀ A, allSome (l.map (pyA A n)) = some ps := by
      intro l
      induction l with
      | nil => intro _; exact ⟨[], rfl, fun A => rfl⟩
      | cons d l il =>
        intro h
        rw [List.all_cons, Bool.and_eq_true] at h
        obtain ⟨p, h0, h1⟩ := ih h.1
        obtain ⟨ps, h2, h3⟩ := il h.2
        refine ⟨p :: ps, by simp [PyData.plainAll, h0, h2], fun A => ?_⟩
        rw [List.map_cons, h1 A, allSome, h3 A]; rfl
    intro d h
    cases d with
    | tup l =>
      obtain ⟨ps, h1, h2⟩ := all h
      exact ⟨.tuple ps, by simpa [PyData.plain] using h1, fun A => by rw [pyA, h2 A]; rfl⟩
    | wt l =>
      obtain ⟨ps, h1, h2⟩ := all h
      exact ⟨.tuple ps, by simpa [PyData.plain] using h1, fun A => by rw [pyA, h2 A]; rfl⟩
    | scr l =>
      obtain ⟨ps, h1, h2⟩ := all h
      exact ⟨.list ps, by simpa [PyData.plain] using h1, fun A => by rw [pyA, h2 A]; rfl⟩
    | non => exact ⟨.none, rfl, fun A => by simp [pyA]⟩
    | bl b => exact ⟨.bool b, rfl, fun A => by simp [pyA]⟩
    | int b => exact ⟨.int b, rfl, fun A => by simp [pyA]⟩
    | str b => exact ⟨.str b, rfl, fun A => by simp [pyA]⟩
    | _ => cases h
theorem pd_all : ∀ {l : List D}, l.all (pd n) = true → ∃ ps, PyData.plainAll ps = true ∧ ∀ A, allSome (l.map (pyA A n)) = some ps := by
  intro l
  induction l with
  | nil => intro _; exact ⟨[], rfl, fun A => rfl⟩
  | cons d l il =>
    intro h
    rw [List.all_cons, Bool.and_eq_true] at h
    obtain ⟨p, h0, h1⟩ := pd_py h.1
    obtain ⟨ps, h2, h3⟩ := il h.2
    refine ⟨p :: ps, by simp [PyData.plainAll, h0, h2], fun A => ?_⟩
    rw [List.map_cons, h1 A, allSome, h3 A]; rfl
/-- two values that read the same -/
theorem eqA_same {P : PyData} (hp : P.plain = true) (h : pyA A 40 x = some P) (k : pyA A 40 y = some P) : eqA A x y = some true := by
  unfold eqA; rw [h, k]; simp only; rw [PySem.SeqAt.eqv_refl_plain _ hp]
theorem py_lst (h : A[i]? = some (.lst l)) : pyA A (n + 1) (.ref i) = (allSome (l.map (pyA A n))).map .list := by
  rw [pyA]; simp only [h]
theorem eqA_lst (h : A[i]? = some (.lst l)) (k : A[j]? = some (.lst l)) (hp : l.all (pd 39) = true) : eqA A (.ref i) (.ref j) = some true := by
  obtain ⟨ps, h1, h2⟩ := pd_all hp
  refine eqA_same (P := .list ps) (by simpa [PyData.plain] using h1) ?_ ?_
  · rw [py_lst h, h2 A]; rfl
  · rw [py_lst k, h2 A]; rfl
theorem oNe_lst (h : A[i]? = some (.lst l)) (k : A[j]? = some (.lst l)) (hp : l.all (pd 39) = true) : oNe (.ref i) (.ref j) A = .ok (.bl false) A := neA_of (eqA_lst h k hp)
/-! slices -/
theorem sIx_some {n d : Nat} {v : Int} (h : 0 ≤ v) : HT.sIx n d (some v) = min v.toNat n := by
  obtain ⟨k, rfl⟩ := Int.eq_ofNat_of_zero_le h
  exact HT.sIx_nat n d k
theorem z5b {l : List α} : cutD l none none = l := by
  unfold cutD; rw [HT.sIx_none, HT.sIx_none]; simp
theorem z5j {l : List α} (h : 0 ≤ p) : cutD l none (some p) = l.take p.toNat := by
  unfold cutD; rw [HT.sIx_none, sIx_some h]
  rw [List.drop_zero, Nat.sub_zero, List.take_eq_take_iff]; omega
theorem z7n {l : List α} (h : 0 ≤ p) : cutD l (some p) none = l.drop p.toNat := by
  unfold cutD; rw [HT.sIx_none, sIx_some h]
  rcases Nat.le_total p.toNat l.length with q | q
  · rw [Nat.min_eq_left q, List.take_of_length_le (by rw [List.length_drop]; omega)]
  · rw [Nat.min_eq_right q, List.drop_of_length_le (Nat.le_refl _), List.drop_of_length_le q]; simp
theorem z7a {l : List α} (h : 0 ≤ p) (k : 0 ≤ q) : cutD l (some p) (some q) = (l.drop p.toNat).take (q.toNat - p.toNat) := by
  unfold cutD; rw [sIx_some h, sIx_some k]
  rcases Nat.le_total p.toNat l.length with r | r
  · rw [Nat.min_eq_left r, List.take_eq_take_iff, List.length_drop]; omega
  · rw [Nat.min_eq_right r, List.drop_of_length_le (Nat.le_refl _), List.drop_of_length_le r]; simp
theorem z6p {l : List α} (h : 0 ≤ p) : atI l p = l[p.toNat]? := by
  unfold atI ixN
  rw [if_pos h]
  by_cases k : p < l.length
  · rw [if_pos k]; rfl
  · rw [if_neg k, List.getElem?_eq_none (by omega)]; rfl
theorem ixN_nat (h : 0 ≤ p) (k : p < (n : Int)) : ixN n p = some p.toNat := by
  unfold ixN; rw [if_pos h, if_pos k]
end
end SM

/-! ## the same, as rules that only compute (the heap's places are looked up in the term) -/
namespace SM
open PySem L2
section
variable {α β : Type} {A A1 A2 A3 : Hs} {env e1 e2 : Sl} {a b c o v : E} {as : As} {d d1 d2 x y z w : D} {i j k n : Nat} {p q r : Int} {C m : String} {f g : S} {F : Fn} {cs os xs : List String} {tb : List (String × String × Bool)} {l l1 l2 : List D} {fs : List (String × D)} {u u1 u2 : O} {lo hi : Option Int} {t lk : Bool} {kv : List (D × D)}
def sq_ : Option O → Option (List D)
  | some (.lst l) => some l
  | _ => none
theorem zau : sq_ (some (.lst l)) = some l := rfl
theorem z6i : seqL A (.ref i) = sq_ A[i]? := by unfold seqL sq_; rfl
theorem z33 : lstAt A (.ref i) = (sq_ A[i]?).map fun l => (i, l) := by
  unfold lstAt sq_
  rcases h : A[i]? with _ | u
  · simp only [h]; rfl
  · cases u <;> simp only [h] <;> rfl
theorem z8t {α β : Type} {f : α → β} {x : α} : (some x).map f = some (f x) := rfl
def ob_ : Option O → Option (String × List (String × D))
  | some (.obj C fs) => some (C, fs)
  | _ => none
theorem zad : ob_ (some (.obj C fs)) = some (C, fs) := rfl
theorem z3m : objAt A (.ref i) = ob_ A[i]? := by unfold objAt ob_; rfl
def gf_ (cs : List String) (f : String) : Option (String × List (String × D)) → Option D
  | some (C, fs) => if C ∈ cs then fs.lookup f else none
  | none => none
theorem zaz {f : String} : gf_ cs f (some (C, fs)) = if C ∈ cs then fs.lookup f else none := rfl
theorem z26 {f : String} : getFld cs f A x = gf_ cs f (objAt A x) := by unfold getFld gf_; rfl
def sf_ (cs : List String) (A : Hs) (i : Nat) (f : String) (d : D) : Option (String × List (String × D)) → Option Hs
  | some (C, fs) => if C ∈ cs ∧ fs.length < 999 then some (A.set i (.obj C (putF f d fs))) else none
  | none => none
theorem zav {f : String} : sf_ cs A i f d (some (C, fs)) = if C ∈ cs ∧ fs.length < 999 then some (A.set i (.obj C (putF f d fs))) else none := rfl
theorem z23 {f : String} : setFld cs A (.ref i) f d = sf_ cs A i f d (ob_ A[i]?) := by
  unfold setFld
  rcases h : A[i]? with _ | u
  · simp only [h]; rfl
  · cases u <;> simp only [h] <;> rfl
def mo_ (m : String) (t : List (String × Fn)) : Option (String × List (String × D)) → Option Fn
  | some (C, fs) => if (fs.lookup m).isSome = true then none else t.lookup C
  | none => none
theorem zae {t : List (String × Fn)} : mo_ m t (some (C, fs)) = if (fs.lookup m).isSome = true then none else t.lookup C := rfl
theorem z2e {t : List (String × Fn)} : methOf m t A x = mo_ m t (objAt A x) := by
  unfold methOf mo_; rfl
theorem z1w {β : Type} {f : String} : List.lookup f ([] : List (String × β)) = none := rfl
theorem z1l {β : Type} {f g : String} {x : β} {r : List (String × β)} : List.lookup f ((g, x) :: r) = if f = g then some x else List.lookup f r := by
  by_cases h : f = g
  · rw [if_pos h]; subst h; simp
  · rw [if_neg h, List.lookup, beq_false_of_ne h]
theorem look_cons_i {β : Type} {f g : Int} {x : β} {r : List (Int × β)} : List.lookup f ((g, x) :: r) = if f = g then some x else List.lookup f r := by
  by_cases h : f = g
  · rw [if_pos h]; subst h; simp
  · rw [if_neg h, List.lookup, beq_false_of_ne h]
def at_ (A : Hs) : Option D → RE D
  | some d => .ok d A
  | none => .stuck
theorem zby : at_ A (some d) = .ok d A := rfl
def ln_ (A : Hs) : Option O → RE D
  | some (.lst l) => .ok (.int l.length) A
  | some (.dic false false l) => .ok (.int l.length) A
  | _ => .stuck
theorem zar : ln_ A (some (.lst l)) = .ok (.int l.length) A := rfl
theorem zbb : ln_ A (some (.dic false false kv)) = .ok (.int kv.length) A := rfl
theorem z61 : oLen (.ref i) A = ln_ A A[i]? := by
  unfold oLen lenA; rw [z6i]
  simp only [seqT]
  rcases A[i]? with _ | u
  · rfl
  · cases u with
    | lst l => rfl
    | obj C f => rfl
    | nd _ => rfl
    | dic t lk kv => cases t <;> cases lk <;> rfl
theorem z24 : oLen (.scr l) A = .ok (.int l.length) A := rfl
def ix_ (A : Hs) (p : Int) : Option (List D) → RE D
  | some l => at_ A (atI l p)
  | none => .stuck
theorem zbw : ix_ A p (some l) = at_ A (atI l p) := rfl
theorem z8q : oIx (.ref i) (.int p) A = ix_ A p (sq_ A[i]?) := by
  unfold oIx; simp only [z6i]
  rcases h : sq_ A[i]? with _ | l
  · rfl
  · show (match atI l p with | some d => RE.ok d A | none => .stuck) = at_ A (atI l p)
    cases atI l p <;> rfl
theorem z4s : oIx (.scr l) (.int p) A = at_ A (atI l p) := by
  unfold oIx; simp only [seqL]; unfold at_; cases atI l p <;> rfl
theorem z44 : oIx (.tup l) (.int p) A = at_ A (atI l p) := by
  unfold oIx seqT; simp only [z1y]; unfold at_; cases atI l p <;> rfl
def nw_ (A : Hs) : Option (List D) → RE D
  | some l => .ok (.ref A.length) (A ++ [.lst l])
  | none => .stuck
theorem za8 : nw_ A (some l) = .ok (.ref A.length) (A ++ [.lst l]) := rfl
theorem z9f : oSl (.ref i) lo hi A = nw_ A ((sq_ A[i]?).map fun l => cutD l lo hi) := by
  unfold oSl; rw [z6i]; cases sq_ A[i]? <;> rfl
theorem z4y : oSl (.scr l) lo hi A = .ok (.ref A.length) (A ++ [.lst (cutD l lo hi)]) := rfl
theorem z43 : oList (.ref i) A = nw_ A (sq_ A[i]?) := by
  unfold oList; rw [z6i]; cases sq_ A[i]? <;> rfl
theorem z10 : oList (.scr l) A = .ok (.ref A.length) (A ++ [.lst l]) := rfl
theorem z6u : oRev (.ref i) A = nw_ A ((sq_ A[i]?).map List.reverse) := by
  unfold oRev; rw [z6i]; cases sq_ A[i]? <;> rfl
def tp_ (A : Hs) : Option (List D) → RE D
  | some l => .ok (.tup l) A
  | none => .stuck
theorem zbx : tp_ A (some l) = .ok (.tup l) A := rfl
theorem z30 : oTuple (.ref i) A = tp_ A (sq_ A[i]?) := by
  unfold oTuple; rw [z6i]; cases sq_ A[i]? <;> rfl
theorem z09 : oTuple (.scr l) A = .ok (.tup l) A := rfl
def ap_ (A : Hs) (i : Nat) (l1 : List D) : Option (List D) → RE D
  | some l => if l.length + l1.length ≤ sizeLine then .ok .non (A.set i (.lst (l ++ l1))) else .stuck
  | none => .stuck
theorem zb7 (h : l.length + l1.length ≤ 16000000) : ap_ A i l1 (some l) = .ok .non (A.set i (.lst (l ++ l1))) := if_pos (z0f h)
theorem z1q : oAppend (.ref i) [d] A = ap_ A i [d] (sq_ A[i]?) := by
  unfold oAppend; rw [z33]
  rcases sq_ A[i]? with _ | l
  · rfl
  · simp only [z8t, ap_, List.length_singleton]; rfl
theorem z0l : oExtend (.ref i) [.tup l1] A = ap_ A i l1 (sq_ A[i]?) := by
  unfold oExtend; rw [z33]
  rcases sq_ A[i]? with _ | l
  · rfl
  · simp only [z8t, lstAt]; rfl
def ex_ (A : Hs) (i : Nat) (r : Option (List D)) : Option (List D) → RE D
  | some l1 => ap_ A i l1 r
  | none => .stuck
theorem zao {r : Option (List D)} : ex_ A i r (some l1) = ap_ A i l1 r := rfl
theorem z0d : oExtend (.ref i) [.ref j] A = ex_ A i (sq_ A[i]?) (sq_ A[j]?) := by
  unfold oExtend
  rcases h : sq_ A[i]? with _ | l
  · rcases h2 : sq_ A[j]? with _ | l1 <;> simp only [z33, h, Option.map] <;> rfl
  · rcases h2 : sq_ A[j]? with _ | l1 <;> simp only [z33, h, h2, Option.map] <;> rfl
def cl_ (A : Hs) (i : Nat) : Option (List D) → RE D
  | some _ => .ok .non (A.set i (.lst []))
  | none => .stuck
theorem zac : cl_ A i (some l) = .ok .non (A.set i (.lst [])) := rfl
theorem z2u : oClear (.ref i) A = cl_ A i (sq_ A[i]?) := by
  unfold oClear; rw [z33]; cases sq_ A[i]? <;> rfl
def si_ (A : Hs) (i : Nat) (y v : D) (u : Option O) : Option Hs := match u with
    | some (.lst l) => match y with
      | .int k => match ixN l.length k with
        | some n => some (A.set i (.lst (l.set n v)))
        | none => none
      | _ => none
    | some (.dic t false l) => if keyOk t y && decide (l.length < sizeLine) then some (A.set i (.dic t false (kput l y v))) else none
    | _ => none
theorem z4k : setIt A (.ref i) y z = si_ A i y z A[i]? := rfl
theorem zbz (h : 0 ≤ p ∧ p < (l.length : Int)) : si_ A i (.int p) z (some (.lst l)) = some (A.set i (.lst (l.set p.toNat z))) := by
  unfold si_; simp only [ixN_nat h.1 h.2]
theorem zb4 (h : kv.length < 16000000) : si_ A i y z (some (.dic t false kv)) = if keyOk t y = true then some (A.set i (.dic t false (kput kv y z))) else none := by
  unfold si_; simp only [decide_eq_true (small_line' h), Bool.and_true]
def gn_ (p : Int) : Option (List D) → Option D
  | some l => if 0 ≤ p then l[p.toNat]? else none
  | none => none
theorem zaj : gn_ p (some l) = if 0 ≤ p then l[p.toNat]? else none := rfl
theorem z6e : getN A (.ref i) (.int p) = gn_ p (sq_ A[i]?) := by
  unfold getN; rw [z6i]; cases sq_ A[i]? <;> rfl
def il_ : Option O → Bool
  | some (.lst _) => true
  | _ => false
theorem zai : il_ (some (.lst l)) = true := rfl
theorem zah : il_ (some (.dic t lk kv)) = false := rfl
theorem z42 : isLst A (.ref i) = il_ A[i]? := by unfold isLst il_; rfl
def dg_ (A : Hs) (y : D) : Option O → RE D
  | some (.dic t _ kv) => if keyOk t y = true then at_ A (kget kv y) else .stuck
  | _ => .stuck
theorem zb2 : dg_ A y (some (.dic t lk kv)) = if keyOk t y = true then at_ A (kget kv y) else .stuck := rfl
theorem z3d : oDGet (.ref i) y A = dg_ A y A[i]? := by
  unfold oDGet dicAt
  rcases h : A[i]? with _ | u
  · simp only [h]; rfl
  · cases u with
    | dic t lk kv => simp only [h, dg_]; unfold at_; split <;> first | rfl | (cases kget kv y <;> rfl)
    | _ => simp only [h]; rfl
def wl_ (A : Hs) (i : Nat) : Option O → Option Wk
  | some (.lst l) => some ⟨l, fun A' => A'[i]? = some (.lst l)⟩
  | _ => none
theorem zbg : wl_ A i (some (.lst l)) = some ⟨l, fun A' => A'[i]? = some (.lst l)⟩ := rfl
theorem z9y : wkA A (.ref i) = wl_ A i A[i]? := by
  unfold wkA wkL wl_
  rcases h : A[i]? with _ | u
  · simp only [h]
  · cases u <;> simp only [h]
def we_ (A : Hs) (i : Nat) : Option O → Option Wk
  | some (.lst l) => some ⟨enumL l, fun A' => A'[i]? = some (.lst l)⟩
  | _ => none
theorem zag : we_ A i (some (.lst l)) = some ⟨enumL l, fun A' => A'[i]? = some (.lst l)⟩ := rfl
theorem z81 : wkE A (.ref i) = we_ A i A[i]? := by
  unfold wkE wkL we_
  rcases h : A[i]? with _ | u
  · simp only [h]; rfl
  · cases u <;> simp only [h] <;> rfl
/-! lists of truths, numbers -/
def al_ (A : Hs) : Option (List Bool) → RE D
  | some bs => .ok (.bl (bs.all id)) A
  | none => .stuck
theorem zbp {bs : List Bool} : al_ A (some bs) = .ok (.bl (bs.all id)) A := rfl
theorem z5k : oAll x A = al_ A ((seqL A x).bind boolsOf) := by unfold oAll al_; rfl
def sm_ (A : Hs) : Option (List Int) → RE D
  | some bs => .ok (.int bs.sum) A
  | none => .stuck
theorem zas {ns : List Int} : sm_ A (some ns) = .ok (.int ns.sum) A := rfl
theorem z68 : oSum x A = sm_ A ((seqL A x).bind intsOf) := by unfold oSum sm_; rfl
theorem z3k {α β : Type} {f : α → Option β} {x : α} : (some x).bind f = f x := rfl
/-! places -/
theorem zbq (h : i < A.length) : (A.set i u)[i]? = some u := List.getElem?_set_self h
theorem z4d (h : i ≠ j) : (A.set i u)[j]? = A[j]? := List.getElem?_set_ne h
theorem z9t (h : j < A.length) : (A ++ [u])[j]? = A[j]? := List.getElem?_append_left h
theorem zb3 : (A ++ [u])[A.length]? = some u := by simp
theorem z87 (h : j = A.length) : (A ++ [u])[j]? = some u := by subst h; simp
theorem z2o : (A ++ [u]).length = A.length + 1 := by simp
theorem z27 : kget [] y = none := rfl
theorem z1e : kget ((x, z) :: kv) y = if keq x y = true then some z else kget kv y := by rw [kget]
theorem za9 : il_ (some (.obj C fs)) = false := rfl
theorem z7p : (Wk.mk l tt).gd = tt := rfl
theorem za6 {gd : Hs → Prop} : (Wk.mk l gd).ds = l := rfl
theorem z8x {gd : Hs → Prop} : (Wk.mk l gd).gd = gd := rfl
theorem tt_ : tt A := trivial
theorem z2b : wipeS env [] = env := rfl
theorem z12 {vs : List Nat} : wipeS env (i :: vs) = (wipeS env vs).set i none := by rw [wipeS]
/-- a result, by what holds of it -/
def Rk {α : Type} (r : RE α) (P : α → Hs → Prop) : Prop := match r with
  | .ok v A => P v A
  | _ => False
theorem z8c {α : Type} {x : α} {P : α → Hs → Prop} : Rk (.ok x A) P = P x A := rfl
theorem Rk.ex {α : Type} {r : RE α} {P : α → Hs → Prop} (h : Rk r P) : ∃ v A1, r = .ok v A1 ∧ P v A1 := by
  cases r with
  | ok v A1 => exact ⟨v, A1, rfl, h⟩
  | _ => exact h.elim
theorem Rk.of {α : Type} {r : RE α} {P : α → Hs → Prop} {x : α} (e : r = .ok x A) (h : P x A) : Rk r P := by rw [e]; exact h
theorem Rk.mono {α : Type} {r : RE α} {P P2 : α → Hs → Prop} (h : Rk r P) (k : ∀ v A, P v A → P2 v A) : Rk r P2 := by
  obtain ⟨v, A1, e, p⟩ := h.ex
  exact .of e (k v A1 p)
theorem Rk.make {P : D → Hs → Prop} {ds : List D} (h : Rk (F (.ref A.length :: ds) (A ++ [.obj C []])) fun v A1 => v = .non ∧ P (.ref A.length) A1) : Rk (make C F ds A) P := by
  obtain ⟨v, A1, e, rfl, p⟩ := h.ex
  exact .of (make_ok e) p
/-- a call in the goal, by what is known of it -/
theorem Rk.call {α : Type} {r : RE α} {P : α → Hs → Prop} (Q : RE α → Prop) (h : Rk r P) (k : ∀ v A1, P v A1 → Q (.ok v A1)) : Q r := by
  obtain ⟨v, A1, e, p⟩ := h.ex
  rw [e]; exact k v A1 p
/-- one turn of a loop: J where it goes on, R where the loop ends -/
def Trn (J : Sl → Hs → Prop) (R : RS → Prop) (r : RS) : Prop := match r with
  | .nx e A => J e A
  | .ct e A => J e A
  | .rt d A => R (.rt d A)
  | .bk e A => R (.nx e A)
  | .exc C e A => R (.exc C e A)
  | .stuck => False
theorem z8n {J : Sl → Hs → Prop} {R : RS → Prop} : Trn J R (.nx env A) = J env A := rfl
theorem z83 {J : Sl → Hs → Prop} {R : RS → Prop} : Trn J R (.ct env A) = J env A := rfl
theorem z92 {J : Sl → Hs → Prop} {R : RS → Prop} : Trn J R (.rt d A) = R (.rt d A) := rfl
theorem z8v {J : Sl → Hs → Prop} {R : RS → Prop} : Trn J R (.bk env A) = R (.nx env A) := rfl
theorem z5t {J : Sl → Hs → Prop} {R : RS → Prop} : Trn J R (.exc C env A) = R (.exc C env A) := rfl
def Tst (s : Hs → Prop) (k : Hs → Prop) (c : Bool) (A : Hs) : Prop := match c with
  | true => s A
  | false => k A
theorem z8p {s k : Hs → Prop} : Tst s k true A = s A := rfl
theorem z9c {s k : Hs → Prop} : Tst s k false A = k A := rfl
theorem z9z {s k : Hs → Prop} {c : Prop} [Decidable c] : Tst s k (decide c) A = if c then s A else k A := by
  by_cases h : c
  · simp [h, Tst]
  · simp [h, Tst]
theorem wh_go {t : Tt} (I : Nat → Sl → Hs → Prop) (R : RS → Prop) {n : Nat} (h0 : I n env A)
    (hs : ∀ n e A, I n e A → Rk (t e A) (Tst (fun A1 => Trn (fun e2 A2 => ∃ m, m < n ∧ I m e2 A2) R (f e A1)) fun A1 => R (.nx e A1))) : R (sWh t f env A) := by
  refine wh_inv I R h0 fun n e A hI => ?_
  obtain ⟨c, A1, h1, h2⟩ := (hs n e A hI).ex
  cases c with
  | false => exact .inl ⟨A1, h1, h2⟩
  | true =>
    refine .inr ⟨A1, h1, ?_⟩
    change Trn _ _ _ at h2
    cases q : f e A1 with
    | nx e2 A2 => rw [q] at h2; exact .inl ⟨e2, A2, .inl rfl, h2⟩
    | ct e2 A2 => rw [q] at h2; exact .inl ⟨e2, A2, .inr rfl, h2⟩
    | rt d2 A2 => rw [q] at h2; exact .inr (.inl ⟨d2, A2, rfl, h2⟩)
    | bk e2 A2 => rw [q] at h2; exact .inr (.inr (.inl ⟨e2, A2, rfl, h2⟩))
    | exc C e2 A2 => rw [q] at h2; exact .inr (.inr (.inr ⟨C, e2, A2, rfl, h2⟩))
    | stuck => rw [q] at h2; exact h2.elim
def Got (r : Option Sl) (P : Sl → Prop) : Prop := match r with
  | some e => P e
  | none => False
theorem z9n {P : Sl → Prop} : Got (some env) P = P env := rfl
theorem for_go {g : G} {gd : Hs → Prop} (I : Nat → Sl → Hs → Prop) (R : RS → Prop) {ds : List D} (h0 : I 0 env A) (hg : ∀ i e A, i ≤ ds.length → I i e A → gd A)
    (hs : ∀ i e A d, ds[i]? = some d → I i e A → Got (g d e A) fun e1 => Trn (I (i + 1)) R (f e1 A))
    (hd : ∀ e A, I ds.length e A → R (.nx e A)) : R (forL g f gd ds env A) := by
  refine for_inv I R h0 hg (fun i e A d hd hI => ?_) hd
  have h2 := hs i e A d hd hI
  cases q0 : g d e A with
  | none => rw [q0] at h2; exact h2.elim
  | some e1 =>
    rw [q0, z9n] at h2
    refine ⟨e1, rfl, ?_⟩
    cases q : f e1 A with
    | nx e2 A2 => rw [q] at h2; exact .inl ⟨e2, A2, .inl rfl, h2⟩
    | ct e2 A2 => rw [q] at h2; exact .inl ⟨e2, A2, .inr rfl, h2⟩
    | rt d2 A2 => rw [q] at h2; exact .inr (.inl ⟨d2, A2, rfl, h2⟩)
    | bk e2 A2 => rw [q] at h2; exact .inr (.inr (.inl ⟨e2, A2, rfl, h2⟩))
    | exc C e2 A2 => rw [q] at h2; exact .inr (.inr (.inr ⟨C, e2, A2, rfl, h2⟩))
    | stuck => rw [q] at h2; exact h2.elim
/-- a comprehension of pure parts over what its walk gives, as simp shows it -/
theorem lc_go {g : G} {t : Tt} {gd : Hs → Prop} (p : D → Bool) (h : D → D) {ds : List D} (hgd : gd A) (hl : ds.length < 16000000)
    (hs : ∀ d ∈ ds, Got (g d env A) fun e1 => Rk (t e1 A) fun c A1 => c = p d ∧ A1 = A ∧ (c = true → Rk (a e1 A) fun v A2 => v = h d ∧ A2 = A)) : lcL g t a gd env ds [] A = .ok ((ds.filter p).map h) A := by
  refine lc_pure p h hgd (by simpa using hl) fun d hd => ?_
  have h2 := hs d hd
  cases q0 : g d env A with
  | none => rw [q0] at h2; exact h2.elim
  | some e1 =>
    rw [q0, z9n] at h2
    obtain ⟨c, A1, e, rfl, rfl, k⟩ := h2.ex
    refine ⟨e1, rfl, e, fun hp => ?_⟩
    obtain ⟨v, A2, e3, rfl, rfl⟩ := (k hp).ex
    exact e3
end
end SM

/-! ## enumerate over a tuple -/
namespace SM
open PySem L2 PySem.Spec PyProof.Rows
theorem meets_enumerate_newB1 {v : Value} {o : Obj} {H : Heap → Prop} (B : Begins v o H) :
    Meets (Builtin.«enumerate.__new__» ⟨[.type "enumerate", v], []⟩) (fun _ R s => H s.heap ∧
      R (.ok (.ret (.ref (s.heap.push o).objs.size))) { s with heap := (s.heap.push o).push { cls := .type "enumerate", data := .fields #[.none, .bool false, .ref s.heap.objs.size, rawInt 0, .none, .none] } }) :=
  .of_wp fun prog w A R s h => by
    obtain ⟨hp, g, d, tk, os⟩ := s; obtain ⟨h1, h⟩ := h
    have hsub := sub_enumerate
    have q1 : ∀ {A' : Around} {E : Value → Shared → Prop} {Q : Value → Shared → Prop}, Q (.ref hp.objs.size) ⟨hp.push o, g, d, tk, os⟩ → wpAny (model prog w) A' (pyIter v) Q E ⟨hp, g, d, tk, os⟩ :=
      fun q => B.iter prog w _ _ ⟨hp, g, d, tk, os⟩ _ h1 q
    wp_walk using q1
    refine wpAny_stack_any fun st => wpAny_pure ?_
    split
    · rename_i c _ _ _ _ _
      cases (c == Value.type "enumerate")
      · wp_walk using q1
        exact ⟨_, rfl, h⟩
      · wp_walk using q1
        exact ⟨_, rfl, h⟩
    · wp_walk using q1
      exact ⟨_, rfl, h⟩
section
variable {prog : Program} {w : World} {A : Around} {E : Value → Shared → Prop} {s : Shared}
theorem enum_begins1 {v : Value} {o : Obj} {H : Heap → Prop} {Q : Value → Shared → Prop} (B : Begins v o H) (h1 : H s.heap)
    (h : ∀ h', IsEnum h' (s.heap.objs.size + 1) s.heap.objs.size 0 .none → h'.get? s.heap.objs.size = some o → h'.objs.size = s.heap.objs.size + 2 →
      (∀ b o, s.heap.get? b = some o → h'.get? b = some o) → Q (.ref (s.heap.objs.size + 1)) { s with heap := h' }) :
    wpAny (model prog w) A (call (.type "enumerate") [v]) Q E s := by
  refine callType_new F.called_enumerate (by decide) (F.typeCall_enumerate_1 _) (F.newCall_enumerate_1 _) (fun obj => F.args_object_init_2 obj _) F.entry_enumerate_new
    (meets_enumerate_newB1 B) ⟨h1, ?_⟩
  have hz : (s.heap.push o).objs.size = s.heap.objs.size + 1 := Heap.size_push ..
  show _ ∧ _
  rw [hz]
  have he : IsEnum ((s.heap.push o).push { cls := .type "enumerate", data := .fields #[.none, .bool false, .ref s.heap.objs.size, rawInt 0, .none, .none] }) (s.heap.objs.size + 1) s.heap.objs.size 0 .none := by
    have := Heap.get?_push_size (s.heap.push o) (o := { cls := .type "enumerate", data := .fields #[.none, .bool false, .ref s.heap.objs.size, rawInt 0, .none, .none] }) rfl
    rw [hz] at this; exact this
  refine ⟨⟨_, he, rfl⟩, h _ he (Heap.get?_push_of_some _ (Heap.get?_push_size _ B.free)) (by rw [Heap.size_push, hz]) fun b o x => Heap.get?_push_of_some _ (Heap.get?_push_of_some _ x)⟩
end
/-- the tuple at a, each item in a new pair -/
def IteT (K : PySem.W.Frag) (a : Addr) : It :=
  ⟨fun i H => ∃ (xs : List V) (x : V), SqT K H a xs ∧ xs[i]? = some x, fun i H v H' => ∃ T x, v = .ref T ∧ H T = none ∧ H' = upd H T (.tup [.int (i : Nat), x]) ∧ ∀ xs, SqT K H a xs → xs[i]? = some x, fun i H => ∃ xs : List V, SqT K H a xs ∧ xs.length ≤ i⟩
theorem turn_enumT {P : Program} {w : World} {K : PySem.W.Frag} {elts : List Expr} {kk : Nat} {tpos : Pos} (a e it : Addr) :
    Turn P w K (.Tuple elts kk tpos) (IteT K a) [e, it] e (fun i h => (∃ old, IsEnum h e it ((i : Nat) : Int) old) ∧ h.IsTupleIter it a i ∧ e ≠ it) where
  mem := by simp
  obj := fun i h st b hb => by
    obtain ⟨⟨old, he⟩, ⟨o, ho, hc, hd⟩, _⟩ := st
    have e' : b = e ∨ b = it := by simpa using hb
    rcases e' with z | z
    · rw [z]; exact ⟨_, he, fun v q => nomatch q⟩
    · rw [z]; exact ⟨o, ho, fun v q => by rw [hd] at q; cases q⟩
  keep := fun i h h' st k => let ⟨⟨old, he⟩, hi, hne⟩ := st; ⟨⟨old, k e (by simp) _ he⟩, hi.at fun o q => k it (by simp) o q, hne⟩
  item := by
    intro X hP hw hK hc i pins s σ H E I hf st hg
    subst hP hw hK
    obtain ⟨⟨old, he⟩, hit, hne⟩ := st
    obtain ⟨xs, x, hq, hx⟩ := hg
    obtain ⟨its, rv, p, hz⟩ := I.tuple hq
    obtain ⟨u, hu, ru⟩ := rv.get hx
    have hel : e < s.heap.objs.size := Heap.lt_size he
    have hil : it < s.heap.objs.size := by obtain ⟨_, q, _⟩ := hit; exact Heap.lt_size q
    have hpT : s.heap.IsTuple a its.toArray := p
    have hai : a ≠ it := fun z => by
      subst z
      obtain ⟨o, ho, hc, hd⟩ := hit
      obtain ⟨o2, ho2, hc2, _⟩ := hpT
      rw [ho] at ho2; cases ho2
      rw [hc] at hc2; simp at hc2
    have hae : a ≠ e := fun z => by
      subst z
      obtain ⟨o2, ho2, hc2, _⟩ := hpT
      rw [he] at ho2; cases ho2
      simp at hc2
    have hlt : i < its.toArray.size := by
      rcases Nat.lt_or_ge i its.length with q | q
      · simpa using q
      · rw [List.getElem?_eq_none q] at hu; cases hu
    refine wpAny_pyNext_enum_itemD (A := X.A) (Draws.tuple (A := X.A.in1) (I.ok.hd hc) it a hai its.toArray) he ⟨hit, hpT⟩ hlt hne (by simp; exact ⟨hne, fun z => hae z.symm⟩) fun u' h' tk hP ho hst hT hsz hk => ?_
    obtain rfl : u' = u := by
      have : its.toArray[i]? = some u := by simpa using hu
      rw [this] at hP; cases hP; rfl
    refine ⟨_, rfl, wpAny_letOwnedTupleGo_enum (s := { s with heap := h', toks := tk + 1 }) ho fun h'' he' sb => ?_⟩
    have hT2 : h''.get? s.heap.objs.size = some { cls := .type "tuple", data := .seq #[.int i tk, u'] } := (sb.2 _ (Nat.ne_of_gt hel)).trans hT
    have new : ObjOk X.prog X.w (upd H s.heap.objs.size (.tup [.int (i : Nat), x])) h'' s.heap.objs.size (.tup [.int (i : Nat), x]) :=
      ⟨by show 2 ≤ sizeLine; decide, [.int i tk, u'], .cons ⟨_, rfl⟩ (.cons ru .nil), ⟨_, hT2, rfl, _, rfl⟩⟩
    have I1 : Inv X pins σ (upd H s.heap.objs.size (.tup [.int (i : Nat), x])) { s with heap := h'', toks := tk + 1 } :=
      I.turnedNew (ch := [e, it]) (fun b ob hb q => (sb.2 b (fun z => hb (by simp [z]))).trans (hk b ob (fun z => hb (by simp [z])) (fun z => hb (by simp [z])) q)) hf (Nat.le_refl _) new
    refine ⟨.ref s.heap.objs.size, _, I1, rfl, ⟨_, x, rfl, I.hok.fresh (Nat.le_refl _), rfl, fun ys hy => by rw [I.tuple_inj hy hq]; exact hx⟩, ⟨⟨u', ?_⟩, hst.1.at fun o q => (sb.2 it (Ne.symm hne)).trans q, hne⟩, fun b hb => ?_⟩
    · have e1 : ((i + 1 : Nat) : Int) = (i : Int) + 1 := by omega
      rw [e1]; exact he'
    · have hb' : b < s.heap.objs.size := by
        have e' : b = e ∨ b = it := by simpa using hb
        rcases e' with z | z
        · rw [z]; exact hel
        · rw [z]; exact hil
      rw [upd_ne (Nat.ne_of_lt hb')]
      exact (hf b hb).1
  done := by
    intro X hP hw hK hc i pins s σ H E I hf st hg
    subst hP hw hK
    obtain ⟨⟨old, he⟩, hit, hne⟩ := st
    obtain ⟨xs, hq, hx⟩ := hg
    obtain ⟨its, rv, p, hz⟩ := I.tuple hq
    obtain ⟨f0, f1, f2, f3, f4, f5⟩ := hf it (by simp)
    have hl := rv.length
    have hpT : s.heap.IsTuple a its.toArray := p
    have hT : s.TypeIs (.ref e) "enumerate" := ⟨_, he, rfl⟩
    unfold pyNext
    refine wpAny_bind (wpAny_attempt (wpAny_callSpecial?_slot (name := Str.ofString "__next__") hT F.slot_enumerate_next
      (wpAny_call_entry F.slot_enumerate_next hT F.entry_enumerate_next ?_ (F.args_enumerate_next_1 _))))
    show wpAny _ _ (field (.ref e) 2 >>= _) _ _ _
    refine wpAny_bind (wpAny_field he rfl (x := .ref it) rfl ?_)
    refine wpAny_bind (wpAny_nextOf_tuple_end (I.ok.hd hc) hit hpT (by simp; omega) fun h' x he' hx' => ?_)
    obtain ⟨o, ho, hc⟩ := hx'
    refine wpAny_bind (wpAny_isInstance (T := "StopIteration") (b := true) ⟨o, ho, hc⟩ isSubtype_stop ?_)
    exact wpAny_pure ⟨rfl, I.turned (t' := s.toks) (fun b o hb q => he' b o hb q) f0 f1 f3 f4 f5⟩
  self := fun A i s Q E st h => let ⟨⟨_, he⟩, _⟩ := st; wpAny_pyIter_enum he h
def iEnumT (K : PySem.W.Frag) (ta : TA) : TI := fun σ H R => ta σ H fun vs H1 => ∃ a xs, vs = [.ref a] ∧ SqT K H1 a xs ∧ R (IteT K a) H1
theorem pi_enumT {X : Cx} {e : Expr} {ta : TA} {p pos tpos : Pos} {elts : List Expr} {kk : Nat} (hg : Gl X "enumerate") (hm : X.mg "enumerate" = none) (ha : PA X [e] ta) (hs : starEach [e] X.env = [(false, eval e X.env)] := by rfl) :
    PI X (.Tuple elts kk tpos) (.Call (.Name "enumerate" p) [e] [] pos) (iEnumT X.K ta) := by
  refine ⟨fun pins s σ H R I h => ?_⟩
  refine PyProof.Rows.Call_ (ld_blt I hg hm boot_enumerate (PyProof.Rows.callWith_type1 (thn (ha.run pos pins s σ H _ I h) fun us s1 ⟨vs, H1, I1, r1, q1⟩ => ?_) hs rfl))
  obtain ⟨a, xs, ex, hq, q⟩ := q1
  subst ex
  cases r1 with
  | cons r rr =>
    cases rr
    cases r
    obtain ⟨its, rv, p', hz⟩ := I1.tuple hq
    have hpT : s1.heap.IsTuple a its.toArray := p'
    refine enum_begins1 (begins_tuple a its.toArray) hpT fun h' he hit hsz hk => wpAny_pyIter_enum he ?_
    have I2 : Inv X pins σ H1 { s1 with heap := h' } := I1.kept (t' := s1.toks) hk
    refine ⟨s1.heap.objs.size + 1, [s1.heap.objs.size + 1, s1.heap.objs.size], _, _, H1, rfl, I2, turn_enumT a (s1.heap.objs.size + 1) s1.heap.objs.size, ⟨⟨.none, he⟩, ⟨_, hit, rfl, rfl⟩, Nat.succ_ne_self _⟩, fun b hb => ?_, q⟩
    have e' : b = s1.heap.objs.size + 1 ∨ b = s1.heap.objs.size := by simpa using hb
    have hle : s1.heap.objs.size ≤ b := by
      rcases e' with z | z
      · rw [z]; exact Nat.le_add_right _ _
      · rw [z]; exact Nat.le_refl _
    exact I1.fpOk hle (I1.hok.fresh hle)
theorem PI.or {X : Cx} {tg e : Expr} {i1 i2 : TI} (h1 : PI X tg e i1) (h2 : PI X tg e i2) : PI X tg e (fun σ H R => i1 σ H R ∨ i2 σ H R) :=
  ⟨fun pins s σ H R I h => h.elim (h1.run pins s σ H R I) (h2.run pins s σ H R I)⟩
section
variable {K : PySem.W.Frag} {ca : CaT} {W : WX} {te : TE} {a : E}
theorem walk_enumT {a : Addr} {vs : List V} : Walk (IteT K a) vs.length (fun H => SqT K H a vs) (fun i H v H' => ∃ T x, v = .ref T ∧ H T = none ∧ H' = upd H T (.tup [.int (i : Nat), x]) ∧ ∀ xs, SqT K H a xs → xs[i]? = some x) :=
  ⟨fun i _ hi q => ⟨vs, vs[i]'hi, q, by simp [hi]⟩, fun _ q => ⟨vs, q, Nat.le_refl _⟩, fun _ _ _ _ _ _ y => y⟩
def wkET (A : Hs) (x : D) : Option Wk := (wkT A x).map fun k => ⟨enumL k.ds, k.gd⟩
theorem sw_enumT (h : SimE K ca W te a) : SimI K ca W (iEnumT K (tCons te tNil)) (wOf wkET a) := fun F m A σ H env Q R S p => wOf_bind h R S p fun F1 m1 A1 H1 x d kk R1 r hk p1 => by
  have main : ∀ {aa : Addr} {vs : List V} {l : List D}, SqT K F1 aa vs → RepL K ca F1 m1 vs l → kk = ⟨enumL l, tt⟩ → x = .ref aa → ∃ a xs, [x] = [.ref a] ∧ SqT K H1 a xs ∧ Q (IteT K a) H1 := fun {aa vs l} s rs e ex => by
    subst e; subst ex
    refine ⟨aa, vs, rfl, R1.fh.t s, p1 _ F1 m1 H1 R1 Stp.refl ⟨fun H => SqT K H aa vs, _, by rw [show (Wk.mk (enumL l) tt).ds.length = vs.length from enumL_len.trans rs.length.symm]; exact walk_enumT, fun F2 m2 A2 H2 hg R2 g2 => R2.fh.t (g2.ff.t s), fun i' d' x' F2 m2 A2 H2 H3 e hg R2 g2 y => .inr (.inl ?_)⟩⟩
    obtain ⟨T, z, y1, y2, y3, y4⟩ := y
    obtain ⟨dx, q1, q2⟩ := enumL_get e
    obtain ⟨w, w1, w2⟩ := rs.get q1
    have := y4 _ (R2.fh.t (g2.ff.t s))
    rw [w1] at this; cases this
    exact ⟨T, _, _, q2, y1, y2, y3, .cons (.int _) (.cons (w2.mono g2.ff g2.mm) .nil)⟩
  cases r with
  | tup s rs => cases hk; exact main (.inl (.inl s)) rs rfl rfl
  | wt s rs => cases hk; exact main s rs rfl rfl
  | _ => cases hk
def wkEA (A : Hs) (x : D) : Option Wk := match x with
  | .tup _ => wkET A x
  | .wt _ => wkET A x
  | _ => wkE A x
def iEnumA (K : PySem.W.Frag) (ta : TA) : TI := fun σ H R => iEnum K ta σ H R ∨ iEnumT K ta σ H R
theorem sw_enumA (h : SimE K ca W te a) : SimI K ca W (iEnumA K (tCons te tNil)) (wOf wkEA a) := SimI.pick (sw_enum h) (sw_enumT h) (wOf_pick (f := wkEA) fun A x => by cases x <;> first | exact .inl rfl | exact .inr rfl)
theorem pi_enumA {X : Cx} {e : Expr} {ta : TA} {p pos tpos : Pos} {elts : List Expr} {kk : Nat} (hg : Gl X "enumerate") (hm : X.mg "enumerate" = none) (ha : PA X [e] ta) (hs : starEach [e] X.env = [(false, eval e X.env)] := by rfl) :
    PI X (.Tuple elts kk tpos) (.Call (.Name "enumerate" p) [e] [] pos) (iEnumA X.K ta) := PI.or (pi_enum hg hm ha hs) (pi_enumT hg hm ha hs)
theorem z2f {A : Hs} {i : Nat} : wkEA A (.ref i) = we_ A i A[i]? := z81
theorem z2k {A : Hs} {l : List D} : wkEA A (.tup l) = some ⟨enumL l, tt⟩ := rfl
theorem z2w {A : Hs} {l : List D} : wkEA A (.scr l) = some ⟨enumL l, tt⟩ := rfl
end
end SM

/-! ## d.pop(k), d.pop(k, e) -/
namespace SM
open PySem L2
open DL (Ex ExK)
section
variable {K : PySem.W.Frag} {ca : CaT} {F F1 F2 H H1 H2 : Hp} {m m1 m2 : List Addr} {A A1 A2 : Hs} {σ : L2.St} {env : Sl} {W : WX} {Q : VK}
variable {to ti ta tb tc te tz : TE} {a b c e : E} {i : Nat} {d : D} {ts : TA} {as : As} {x y : V} {dx dy : D}
def oDPop (x y : D) (A : Hs) : RE D := match x with
  | .ref i => match A[i]? with
    | some (.dic false false l) => match keyK y, kget l y with
      | some _, some d => .ok d (A.set i (.dic false false (kdel l y)))
      | _, _ => .stuck
    | _ => .stuck
  | _ => .stuck
theorem dk_at {l : List (D × D)} {t : Nat} (R : Rl K ca F m A H) (rx : Rep K ca F m x (.ref t)) (hA : A[t]? = some (.dic false false l)) : ∃ a kvs, x = .ref a ∧ m[t]? = some a ∧ H a = some (.dK kvs) ∧ KvR K ca F m kD kvs l := by
  obtain ⟨a, e, ha, r⟩ := R.at hA rx
  obtain ⟨kvs, h1, h2⟩ := r
  exact ⟨a, kvs, e, ha, h1, h2⟩
def ePop1 (a b : E) : E := fun env A => (a env A).bind fun x A1 => if isDic A1 x then (b env A1).bind fun y A2 => oDPop x y A2 else if (seqL A1 x).isSome then ((aCons b aNil) env A1).bind fun ds A2 => oPopAt x ds A2 else .stuck
/-- with a way out -/
def oDPop2 (x y z : D) (A : Hs) : RE D := match x with
  | .ref i => match A[i]? with
    | some (.dic false false l) => match keyK y with
      | some _ => match kget l y with
        | some d => .ok d (A.set i (.dic false false (kdel l y)))
        | none => .ok z A
      | _ => .stuck
    | _ => .stuck
  | _ => .stuck
def eDPop2 (a b c : E) : E := fun env A => (a env A).bind fun x A1 => if isDic A1 x then (b env A1).bind fun y A2 => (c env A2).bind fun z A3 => oDPop2 x y z A3 else .stuck
end
section
variable {A : Hs} {env : Sl} {a b c : E} {i : Nat} {x y z d : D} {kv : List (D × D)} {l : List D} {fs : List (String × D)} {C : String} {t lk : Bool} {n : Nat}
def isd_ : Option O → Bool
  | some (.dic _ _ _) => true
  | _ => false
theorem z9m : isd_ (some (.dic t lk kv)) = true := rfl
theorem z7u : isd_ (some (.lst l)) = false := rfl
theorem z3w : isDic A (.ref i) = isd_ A[i]? := by
  unfold isDic dicAt
  rcases h : A[i]? with _ | u
  · simp only [h]; rfl
  · cases u <;> simp only [h] <;> rfl
theorem z0q : isDic A (.scr l) = false := rfl
theorem z6v : ePop1 a b env A = (a env A).bind fun x A1 => if isDic A1 x = true then (b env A1).bind fun y A2 => oDPop x y A2 else if (seqL A1 x).isSome = true then ((aCons b aNil) env A1).bind fun ds A2 => oPopAt x ds A2 else .stuck := rfl
theorem z4p : eDPop2 a b c env A = (a env A).bind fun x A1 => if isDic A1 x = true then (b env A1).bind fun y A2 => (c env A2).bind fun z A3 => oDPop2 x y z A3 else .stuck := rfl
def dp_ (A : Hs) (i : Nat) (y : D) (kv : List (D × D)) : Option D → RE D
  | some d => if (keyK y).isSome = true then .ok d (A.set i (.dic false false (kdel kv y))) else .stuck
  | none => .stuck
theorem zc9 : dp_ A i y kv (some d) = if (keyK y).isSome = true then .ok d (A.set i (.dic false false (kdel kv y))) else .stuck := rfl
def dpo_ (A : Hs) (i : Nat) (y : D) : Option O → RE D
  | some (.dic false false kv) => dp_ A i y kv (kget kv y)
  | _ => .stuck
theorem z8w : dpo_ A i y (some (.dic false false kv)) = dp_ A i y kv (kget kv y) := rfl
theorem z4j : oDPop (.ref i) y A = dpo_ A i y A[i]? := by
  unfold oDPop dpo_ dp_
  rcases h : A[i]? with _ | u
  · simp only [h]
  · cases u with
    | dic t lk kv => cases t <;> cases lk <;> simp only [h] <;> (cases keyK y <;> cases kget kv y <;> rfl)
    | _ => simp only [h]
theorem z6n {p : Int} : keyK (.int p) = some (.inl p) := rfl
theorem z6h {s : Str} : keyK (.str s) = some (.inr s) := rfl
theorem z4q {s : String} : keyK (dS s) = some (.inr (fS s)) := rfl
/-- y in a list's, tuple's items -/
def inl_ (A : Hs) (y : D) (l : List D) (neg : Bool) : RE D := match pyA A 40 y, allSome (l.map (pyA A 39)) with
  | some p, some ps => .ok (.bl (if neg then !(ps.any fun z => PyData.eqv z p) else ps.any fun z => PyData.eqv z p)) A
  | _, _ => .stuck
def in_ (A : Hs) (y : D) (neg : Bool) : Option O → RE D
  | some (.dic t _ kv) => if keyOk t y = true then .ok (.bl (if neg then !(kget kv y).isSome else (kget kv y).isSome)) A else .stuck
  | some (.lst l) => inl_ A y l neg
  | _ => .stuck
theorem zaw {neg : Bool} : in_ A y neg (some (.dic t lk kv)) = if keyOk t y = true then .ok (.bl (if neg then !(kget kv y).isSome else (kget kv y).isSome)) A else .stuck := rfl
theorem zbr {neg : Bool} : in_ A y neg (some (.lst l)) = inl_ A y l neg := rfl
theorem inData_l (h : pyA A 40 x = (allSome (l.map (pyA A 39))).map PyData.list ∨ pyA A 40 x = (allSome (l.map (pyA A 39))).map PyData.tuple) : inData A y x = match pyA A 40 y, allSome (l.map (pyA A 39)) with
  | some p, some ps => some (ps.any fun z => PyData.eqv z p)
  | _, _ => none := by
  unfold inData
  rcases h with h | h <;> rw [h] <;> (cases pyA A 40 y <;> cases allSome (l.map (pyA A 39)) <;> rfl)
theorem z9q : oIn y (.ref i) A = in_ A y false A[i]? := by
  unfold oIn oB inA
  rcases h : A[i]? with _ | u
  · have : pyA A 40 (.ref i) = none := by rw [pyA]; simp only [h]
    simp only [dicAt, h, inData, this]; cases pyA A 40 y <;> rfl
  · cases u with
    | dic t lk kv => simp only [dicAt, h, inDic, zaw]; cases keyOk t y <;> simp [Option.map]
    | lst l =>
      have := inData_l (A := A) (x := .ref i) (y := y) (l := l) (.inl (py_lst h))
      simp only [dicAt, h, this, zbr, inl_]
      cases pyA A 40 y <;> cases allSome (l.map (pyA A 39)) <;> rfl
    | obj C f =>
      have : pyA A 40 (.ref i) = none := by rw [pyA]; simp only [h]
      simp only [dicAt, h, inData, this]; cases pyA A 40 y <;> rfl
    | nd _ =>
      have : pyA A 40 (.ref i) = none := by rw [pyA]; simp only [h]
      simp only [dicAt, h, inData, this]; cases pyA A 40 y <;> rfl
theorem z2r : oNotIn y (.ref i) A = in_ A y true A[i]? := by
  unfold oNotIn oB inA
  rcases h : A[i]? with _ | u
  · have : pyA A 40 (.ref i) = none := by rw [pyA]; simp only [h]
    simp only [dicAt, h, inData, this]; cases pyA A 40 y <;> rfl
  · cases u with
    | dic t lk kv => simp only [dicAt, h, inDic, zaw]; cases keyOk t y <;> simp [Option.map]
    | lst l =>
      have := inData_l (A := A) (x := .ref i) (y := y) (l := l) (.inl (py_lst h))
      simp only [dicAt, h, this, zbr, inl_]
      cases pyA A 40 y <;> cases allSome (l.map (pyA A 39)) <;> rfl
    | obj C f =>
      have : pyA A 40 (.ref i) = none := by rw [pyA]; simp only [h]
      simp only [dicAt, h, inData, this]; cases pyA A 40 y <;> rfl
    | nd _ =>
      have : pyA A 40 (.ref i) = none := by rw [pyA]; simp only [h]
      simp only [dicAt, h, inData, this]; cases pyA A 40 y <;> rfl
theorem z9h : oIn y (.tup l) A = inl_ A y l false := by
  have := inData_l (A := A) (x := .tup l) (y := y) (l := l) (.inr (by rw [pyA]))
  unfold oIn oB inA
  simp only [dicAt, this, inl_]
  cases pyA A 40 y <;> cases allSome (l.map (pyA A 39)) <;> rfl
theorem z1z : oNotIn y (.tup l) A = inl_ A y l true := by
  have := inData_l (A := A) (x := .tup l) (y := y) (l := l) (.inr (by rw [pyA]))
  unfold oNotIn oB inA
  simp only [dicAt, this, inl_]
  cases pyA A 40 y <;> cases allSome (l.map (pyA A 39)) <;> rfl
theorem py_ints {ns : List Int} : allSome ((ns.map D.int).map (pyA A n)) = some (ns.map PyData.int) := by
  induction ns with
  | nil => rfl
  | cons b r ih => rw [List.map_cons, List.map_cons, show pyA A n (.int b) = some (.int b) by cases n <;> simp [pyA], allSome, ih]; rfl
theorem z2c {ns : List Int} {p : Int} {neg : Bool} : inl_ A (.int p) (ns.map D.int) neg = .ok (.bl (if neg then !decide (p ∈ ns) else decide (p ∈ ns))) A := by
  unfold inl_
  rw [py_ints, show pyA A 40 (.int p) = some (.int p) by simp [pyA]]
  have : ((ns.map PyData.int).any fun z => PyData.eqv z (.int p)) = decide (p ∈ ns) := by
    rw [List.any_map]
    induction ns with
    | nil => rfl
    | cons b r ih =>
      rw [List.any_cons, ih]
      simp [PyData.eqv]
      congr 1
      rw [Bool.eq_iff_iff, beq_iff_eq, decide_eq_true_eq]; exact eq_comm
  simp only [this]
end
end SM

/-! ## more equations -/
namespace SM
open PySem L2
section
variable {A A1 A2 : Hs} {env : Sl} {a b c : E} {x y z d : D} {l : List D} {os xs : List String} {tb : List (String × String × Bool)} {s : String}
theorem z1k : oIsi os xs tb (dS s) (.ty "str") A = .ok (.bl true) A := rfl
theorem z18 : oIsi os xs tb (dS s) (.ty "int") A = .ok (.bl false) A := rfl
theorem z08 : oIsi os xs tb (dS s) (.ty "bool") A = .ok (.bl false) A := rfl
theorem z03 : oIsi os xs tb (dS s) (.ty "tuple") A = .ok (.bl false) A := rfl
/-- a comprehension by what stays true of what it has made -/
theorem lc_run {g : G} {t : Tt} {gd : Hs → Prop} (P : Nat → List D → Hs → Prop) {ds : List D} (h0 : P 0 [] A) (hl : ds.length < 16000000) (hg : ∀ i l A, P i l A → gd A)
    (hs : ∀ i d, ds[i]? = some d → ∀ l A, P i l A → Got (g d env A) fun e1 => Rk (t e1 A) (Tst (fun A1 => Rk (a e1 A1) fun v A2 => P (i + 1) (l ++ [v]) A2) fun A1 => P (i + 1) l A1)) : Rk (lcL g t a gd env ds [] A) (P ds.length) := by
  have main : ∀ (n i : Nat) (acc : List D) (A : Hs), n + i = ds.length → P i acc A → acc.length ≤ i → Rk (lcL g t a gd env (ds.drop i) acc A) (P ds.length) := by
    intro n
    induction n with
    | zero =>
      intro i acc A hi h0 hle
      have : i = ds.length := by omega
      subst this
      rw [List.drop_length, lcL, if_pos (hg _ _ _ h0)]; exact h0
    | succ n ih =>
      intro i acc A hi h0 hle
      have hlt : i < ds.length := by omega
      have h2 := hs i ds[i] (by simp [hlt]) acc A h0
      rw [List.drop_eq_getElem_cons hlt]
      cases q0 : g ds[i] env A with
      | none => rw [q0] at h2; exact h2.elim
      | some e1 =>
        rw [q0, z9n] at h2
        obtain ⟨c, A1, e, h3⟩ := h2.ex
        rw [lcL, if_pos (hg _ _ _ h0), q0]
        simp only [e]
        cases c with
        | false => exact ih (i + 1) acc A1 (by omega) h3 (by omega)
        | true =>
          obtain ⟨v, A2, e2, h4⟩ := Rk.ex h3
          simp only [e2]
          rw [if_pos (small_line' (by omega))]
          exact ih (i + 1) _ A2 (by omega) h4 (by rw [List.length_append, List.length_singleton]; omega)
  have := main ds.length 0 [] A rfl h0 (Nat.le_refl _)
  rwa [List.drop_zero] at this
def kset_ (y v : D) (kv : List (D × D)) : List (D × D) := kv.map fun p => if keq p.1 y then (p.1, v) else p
theorem z31 {v : D} : kset_ y v [] = [] := rfl
theorem z0r {v : D} {kv : List (D × D)} : kset_ y v ((x, z) :: kv) = (if keq x y = true then (x, v) else (x, z)) :: kset_ y v kv := rfl
theorem z1x : khas [] y = false := rfl
theorem z13 {kv : List (D × D)} : khas ((x, z) :: kv) y = if keq x y = true then true else khas kv y := by
  unfold khas; rw [List.any_cons]; cases keq x y <;> rfl
theorem z1r {v : D} : kput [] y v = [(y, v)] := rfl
theorem z1c {v : D} {kv : List (D × D)} : kput ((x, z) :: kv) y v = if khas ((x, z) :: kv) y = true then kset_ y v ((x, z) :: kv) else ((x, z) :: kv) ++ [(y, v)] := rfl
theorem za7 : dNil env A = .ok [] A := rfl
theorem z78 {k v : E} {r : Dps} : dCons k v r env A = (k env A).bind fun x A1 => (v env A1).bind fun y A2 => (r env A2).bind fun ps A3 => .ok ((x, y) :: ps) A3 := rfl
def dsp_ (A : Hs) (ps : List (D × D)) : RE D := if (ps.all fun p => (keyK p.1).isSome) && decide (ps.length ≤ 15) then alloc A (.dic false false (kmerge [] ps)) else .stuck
theorem z65 {d : Dps} : eDisp d env A = (d env A).bind fun ps A1 => dsp_ A1 ps := rfl
theorem z5o {ps : List (D × D)} (h : (ps.all fun p => (keyK p.1).isSome) = true) (hl : ps.length ≤ 15) : dsp_ A ps = .ok (.ref A.length) (A ++ [.dic false false (kmerge [] ps)]) := by
  unfold dsp_; rw [h, decide_eq_true hl]; rfl
theorem z0i {l : List (D × D)} : kmerge l [] = l := by rw [kmerge]
theorem z02 {l r : List (D × D)} {v : D} : kmerge l ((x, v) :: r) = kmerge (kput l x v) r := by rw [kmerge]
end
end SM

/-! ## min of four -/
namespace PySem
open Sem (wp)
section
variable {prog : Program} {w : World} {A : Around} {E : Value → Shared → Prop} {s : Shared}
end
end PySem
namespace SM
open PySem L2
section
variable {K : PySem.W.Frag} {ca : CaT}
def c4 (f : D → D → D → D → Hs → RE D) : List D → Hs → RE D := fun ds A => match ds with
  | [d, e, g, h] => f d e g h A
  | _ => .stuck
def oMin4 (x y z w : D) (A : Hs) : RE D := match x, y, z, w with
  | .int i, .int j, .int k, .int l => .ok (.int (min (min (min i j) k) l)) A
  | _, _, _, _ => .stuck
end
theorem c4_ {A : Hs} {d d1 d2 d3 : D} {f : D → D → D → D → Hs → RE D} : c4 f [d, d1, d2, d3] A = f d d1 d2 d3 A := rfl
theorem z3f {A : Hs} {p q r s : Int} : oMin4 (.int p) (.int q) (.int r) (.int s) A = .ok (.int (min (min (min p q) r) s)) A := rfl
def ad_ (A : Hs) : Option (List D) → Option (List D) → RE D
  | some l, some k => if l.length + k.length ≤ sizeLine then .ok (.ref A.length) (A ++ [.lst (l ++ k)]) else .stuck
  | _, _ => .stuck
theorem zbk {A : Hs} {l k : List D} (h : l.length + k.length ≤ 16000000) : ad_ A (some l) (some k) = .ok (.ref A.length) (A ++ [.lst (l ++ k)]) := by
  show (if l.length + k.length ≤ sizeLine then _ else _) = _
  rw [if_pos (z0f h)]
theorem z69 {A : Hs} {i j : Nat} : oAdd (.ref i) (.ref j) A = ad_ A (sq_ A[i]?) (sq_ A[j]?) := by
  unfold oAdd ad_ sq_
  simp only
  rcases A[i]? with _ | u
  · rfl
  · cases u with
    | lst l =>
      rcases A[j]? with _ | v
      · rfl
      · cases v <;> rfl
    | _ => rfl
/-- a statement that goes on, by what holds of it -/
def Nx (r : RS) (P : Sl → Hs → Prop) : Prop := match r with
  | .nx e A => P e A
  | _ => False
theorem z84 {e : Sl} {A : Hs} {P : Sl → Hs → Prop} : Nx (.nx e A) P = P e A := rfl
theorem Nx.call {r : RS} {P : Sl → Hs → Prop} (Q : RS → Prop) (h : Nx r P) (k : ∀ e A, P e A → Q (.nx e A)) : Q r := by
  cases r with
  | nx e A => exact k e A h
  | _ => exact h.elim
theorem rep_nS {n : Nat} : List.replicate (n + 1) (none : Option D) = none :: List.replicate n none := rfl
theorem rep_n0 : List.replicate 0 (none : Option D) = [] := rfl
end SM

/-! ## list.index of flat items -/
namespace SM
open PySem L2
open DL (Ex ExK)
def fV : D → Option V
  | .non => some .non
  | .bl b => some (.bl b)
  | .int i => some (.int i)
  | .str s => some (.str s)
  | _ => none
def fVs : List D → Option (List V)
  | [] => some []
  | d :: r => match fV d, fVs r with
    | some v, some vs => some (v :: vs)
    | _, _ => none
section
variable {K : PySem.W.Frag} {ca : CaT} {F : Hp} {m : List Addr}
theorem fV_rep {v w : V} {d : D} (r : Rep K ca F m v d) (h : fV d = some w) : v = w ∧ flatV v = true := by
  cases r <;> first | (cases h; exact ⟨rfl, rfl⟩) | (simp [fV] at h)
theorem fVs_rep : ∀ {vs ws : List V} {ds : List D}, RepL K ca F m vs ds → fVs ds = some ws → vs = ws ∧ vs.all flatV = true
  | _, _, _, .nil, h => by cases h; exact ⟨rfl, rfl⟩
  | _, _, _, .cons (d := d) (ds := ds) r rs, h => by
    unfold fVs at h
    cases h1 : fV d with
    | none => rw [h1] at h; cases h
    | some w =>
      cases h2 : fVs ds with
      | none => rw [h1, h2] at h; cases h
      | some ws =>
        rw [h1, h2] at h; cases h
        obtain ⟨e1, f1⟩ := fV_rep r h1
        obtain ⟨e2, f2⟩ := fVs_rep rs h2
        exact ⟨by rw [e1, e2], by rw [List.all_cons, f1, f2]; rfl⟩
end
/-- the first place of y -/
def idxV (y : V) : List V → Option Nat
  | [] => none
  | z :: r => if eqV z y = true then some 0 else (idxV y r).map (· + 1)
theorem idxV_some {y : V} : ∀ {l : List V} {j : Nat}, idxV y l = some j → ∃ z, l[j]? = some z ∧ eqV z y = true ∧ ∀ (n : Nat) (z' : V), n < j → l[n]? = some z' → eqV z' y = false
  | [], j, h => by cases h
  | z :: r, j, h => by
    unfold idxV at h
    by_cases q : eqV z y = true
    · rw [if_pos q] at h; cases h
      exact ⟨z, rfl, q, fun n z' hn => by omega⟩
    · rw [if_neg q] at h
      cases h2 : idxV y r with
      | none => rw [h2] at h; cases h
      | some i =>
        rw [h2] at h
        obtain rfl : i + 1 = j := by simpa using h
        obtain ⟨z1, a, b, c⟩ := idxV_some h2
        refine ⟨z1, by simpa using a, b, fun n z' hn hz => ?_⟩
        cases n with
        | zero => simp at hz; subst hz; simpa using q
        | succ n => exact c n z' (by omega) (by simpa using hz)
def oIndex (x : D) (ds : List D) (A : Hs) : RE D := match (seqL A x).bind fVs, ds with
  | some ws, [d] => match fV d with
    | some y => match idxV y ws with
      | some j => .ok (.int (j : Nat)) A
      | none => .stuck
    | none => .stuck
  | _, _ => .stuck
section
variable {K : PySem.W.Frag} {ca : CaT}
theorem ms_index : MbS K ca (rIndex K) oIndex := fun F m A H x dx vs ds W σ Q R rx rs p => by
  unfold oIndex at p
  split at p
  · rename_i ws d hb
    obtain ⟨l, h1, h2⟩ := Option.bind_eq_some_iff.mp hb
    obtain ⟨a, vs', e, h3, h4⟩ := seqL_at R rx h1
    obtain ⟨e2, f2⟩ := fVs_rep h4 h2
    match vs, rs with
    | [v], .cons r1 .nil =>
      cases q1 : fV d with
      | none => rw [q1] at p; exact p.elim
      | some y =>
        obtain ⟨e3, f3⟩ := fV_rep r1 q1
        rw [q1] at p
        simp only at p
        cases q2 : idxV y ws with
        | none => rw [q2] at p; exact p.elim
        | some j =>
          rw [q2] at p
          obtain ⟨z, k1, k2, k3⟩ := idxV_some q2
          subst e2 e3
          exact ⟨a, vs', v, j, z, e, rfl, h3, f3, f2, k1, k2, k3, po_ok R (.int _) p⟩
  · exact p.elim
end
/-! equations -/
section
variable {A : Hs} {x y d : D} {i : Nat} {l : List D}
def ix3 (A : Hs) (y : V) : Option (List V) → RE D
  | some ws => at_ A ((idxV y ws).map fun j => .int (j : Nat))
  | none => .stuck
theorem z2t {b : Bool} : oIndex (.ref i) [.bl b] A = ix3 A (.bl b) ((sq_ A[i]?).bind fVs) := by
  unfold oIndex ix3; rw [z6i]
  cases (sq_ A[i]?).bind fVs with
  | none => rfl
  | some ws => simp only [fV]; cases idxV (V.bl b) ws <;> rfl
theorem z2d {n : Int} : oIndex (.ref i) [.int n] A = ix3 A (.int n) ((sq_ A[i]?).bind fVs) := by
  unfold oIndex ix3; rw [z6i]
  cases (sq_ A[i]?).bind fVs with
  | none => rfl
  | some ws => simp only [fV]; cases idxV (V.int n) ws <;> rfl
theorem z8f {y : V} {ws : List V} : ix3 A y (some ws) = at_ A ((idxV y ws).map fun j => .int (j : Nat)) := rfl
theorem z4l : fVs [] = some [] := rfl
theorem z7v {b : Bool} {r : List D} : fVs (.bl b :: r) = (fVs r).map (V.bl b :: ·) := by
  conv => lhs; unfold fVs
  simp only [fV]; cases fVs r <;> rfl
theorem z95 {b : Int} {r : List D} : fVs (.int b :: r) = (fVs r).map (V.int b :: ·) := by
  conv => lhs; unfold fVs
  simp only [fV]; cases fVs r <;> rfl
theorem z2x {y : V} : idxV y [] = none := rfl
theorem z7g {b c : Bool} {r : List V} : idxV (.bl c) (.bl b :: r) = if b = c then some 0 else (idxV (.bl c) r).map (· + 1) := by
  rw [idxV]; cases b <;> cases c <;> rfl
end
/-! try, count -/
section
variable {A A1 : Hs} {env e1 : Sl} {d : D} {i j : Nat} {C : String} {cts : List String} {b s : S}
def tryK_ (cts : List String) (i j : Nat) (r : RS) : RS := match r with
  | .exc C env1 A1 => if C ∈ cts then .nx (((env1.set i (some (.exc C))).set j (some (.exc C))).set i none) A1 else .stuck
  | r => r
theorem z7h : sTryK cts i j b env A = tryK_ cts i j (b env A) := rfl
theorem z3r : tryK_ cts i j (.nx env A) = .nx env A := rfl
theorem z3n : tryK_ cts i j (.rt d A) = .rt d A := rfl
theorem z2q (h : C ∈ cts) : tryK_ cts i j (.exc C env A) = .nx (((env.set i (some (.exc C))).set j (some (.exc C))).set i none) A := if_pos h
def tryO_ (cts : List String) (s : S) (r : RS) : RS := match r with
  | .exc C env1 A1 => if C ∈ cts then s env1 A1 else .stuck
  | r => r
theorem z6w : sTryO cts b s env A = tryO_ cts s (b env A) := rfl
theorem z4g : tryO_ cts s (.nx env A) = .nx env A := rfl
theorem z4b : tryO_ cts s (.rt d A) = .rt d A := rfl
theorem z1u (h : C ∈ cts) : tryO_ cts s (.exc C env A) = s env A := if_pos h
def cn_ (A : Hs) (c : Bool) : Option (List Bool) → RE D
  | some bs => .ok (.int (bs.count c : Nat)) A
  | none => .stuck
theorem z25 {c : Bool} : oCount (.ref i) [.bl c] A = cn_ A c ((sq_ A[i]?).bind boolsOf) := by
  unfold oCount; rw [z6i]; cases (sq_ A[i]?).bind boolsOf <;> rfl
theorem zal {c : Bool} {bs : List Bool} : cn_ A c (some bs) = .ok (.int (bs.count c : Nat)) A := rfl
theorem z7b : boolsOf [] = some [] := rfl
theorem z3t {c : Bool} {r : List D} : boolsOf (.bl c :: r) = (boolsOf r).map (c :: ·) := rfl
theorem z51 {c : Bool} : List.count c [] = 0 := rfl
theorem z2g {c b : Bool} {r : List Bool} : List.count c (b :: r) = List.count c r + (if b = c then 1 else 0) := by
  rw [List.count_cons]; cases b <;> cases c <;> rfl
end
/-! a, b, c = x, y, z -/
def sPar3 (i j l : Nat) (as : As) : S := fun env A => match as env A with
  | .ok [x, y, z] A1 => .nx (((env.set i (some x)).set j (some y)).set l (some z)) A1
  | .exc C A1 => .exc C env A1
  | _ => .stuck
section
variable {K : PySem.W.Frag} {ca : CaT} {W : WX} {i j l : Nat} {as : As} {ts : TA} {A : Hs} {env : Sl} {x y z : D}
def par3_ (env : Sl) (i j l : Nat) (r : RE (List D)) : RS := match r with
  | .ok [x, y, z] A1 => .nx (((env.set i (some x)).set j (some y)).set l (some z)) A1
  | .exc C A1 => .exc C env A1
  | _ => .stuck
theorem z6m : sPar3 i j l as env A = par3_ env i j l (as env A) := rfl
theorem z50 : par3_ env i j l (.ok [x, y, z] A) = .nx (((env.set i (some x)).set j (some y)).set l (some z)) A := rfl
end
/-! tuple(range(n)) -/
def eTupRg (a : E) : E := fun env A => (a env A).bind fun x A1 => match x with
  | .int n => if 0 ≤ n ∧ n ≤ 16777216 then .ok (.tup (rgL 0 1 n.toNat)) A1 else .stuck
  | _ => .stuck
section
variable {K : PySem.W.Frag} {ca : CaT} {W : WX} {te : TE} {a : E} {A : Hs} {n : Int}
def tupRg_ (A : Hs) : D → RE D
  | .int n => if 0 ≤ n ∧ n ≤ 16777216 then .ok (.tup (rgL 0 1 n.toNat)) A else .stuck
  | _ => .stuck
theorem z4t {env : Sl} : eTupRg a env A = (a env A).bind fun x A1 => tupRg_ A1 x := by
  unfold eTupRg tupRg_; rfl
theorem z4i (h : 0 ≤ n ∧ n ≤ 16777216) : tupRg_ A (.int n) = .ok (.tup (rgL 0 1 n.toNat)) A := if_pos h
end
/-- a def that has a second name -/
theorem Dx.of2 {P : Program} {w : World} {K : PySem.W.Frag} {mg : Str → Option Value} {base : Heap} {k : Nat} {x x0 qn : Str} {st : Stmt} {fa : Addr} {fd : FuncData} {ps : List Str} {sp : Sp} (h : FnOk P w K mg base (L2.CX P w) k fa fd ps sp) (F : Fun K x0 qn st fa fd) (hm : mg x = some (.ref fa)) (b : Binds K fd ps []) : DL.Dx P w K mg base k x sp := ⟨fa, fd, ps, h, hm, F.kp, b⟩
end SM

/-! ## defs with defaults -/
namespace L2
open PySem PySem.Spec PyProof.Rows
section
variable {X : Cx} {CX : CXT} {k : Nat} {f C : Addr} {fd : FuncData} {ps : List Str} {sp : Sp} {E : St → XK} {x : Str} {p pos : Pos} {e : Expr} {es : List Expr} {t : TA} {ds : List Value} {dvs : List V}
end
end L2
namespace DL
open PySem L2
/-- a class whose __init__ is called with its defaults dvs -/
structure MxD (P : Program) (w : World) (K : PySem.W.Frag) (mg : Str → Option Value) (base : Heap) (k : Nat) (x : Str) (C : Addr) (sp : Sp) (dvs : List V) : Prop where
  ex : ∃ (f : Addr) (fd : FuncData) (ps : List Str) (ds : List Value), Mk K C f ∧ FnOk P w K mg base (L2.CX P w) k f fd ps sp ∧ mg x = some (.ref C) ∧ Binds K fd ps ds ∧ Vals dvs ds
theorem MxD.of {P : Program} {w : World} {K : PySem.W.Frag} {mg : Str → Option Value} {base : Heap} {k : Nat} {x : Str} {C fa : Addr} {fd : FuncData} {ps : List Str} {sp : Sp} {dvs : List V} (M : Mk K C fa) (h : FnOk P w K mg base (L2.CX P w) k fa fd ps sp) (hm : mg x = some (.ref C)) (b : ∃ ds, Vals dvs ds ∧ Binds K fd ps ds) : MxD P w K mg base k x C sp dvs := by
  obtain ⟨ds, v, b⟩ := b
  exact ⟨fa, fd, ps, ds, M, h, hm, b, v⟩
theorem MxD.full {P : Program} {w : World} {K : PySem.W.Frag} {mg : Str → Option Value} {base : Heap} {k : Nat} {x : Str} {C : Addr} {sp : Sp} (h : MxD P w K mg base k x C sp []) : Mx P w K mg base k x C sp := by
  obtain ⟨fa, fd, ps, ds, M, h, hm, b, v⟩ := h.ex
  cases v
  exact ⟨fa, fd, ps, M, h, hm, b⟩
section
variable {X : Cx} {W : WX} {k j : Nat} {x : Str} {C : Addr} {sp : Sp} {p pos : Pos} {e : Expr} {es : List Expr} {t : TA} {dvs : List V}
end
end DL
namespace SM
open PySem L2
open DL (Ex ExK)
section
variable {K : PySem.W.Frag} {ca : CaT} {W : WX} {as : As} {ts : TA} {C : String} {f : Fn} {A : Hs} {env : Sl} {l : List D}
def eMakeD (C : String) (f : Fn) (dd : List D) (as : As) : E := fun env A => (as env A).bind fun ds A1 => make C f (ds ++ dd) A1
def eMakeD0 (C : String) (f : Fn) (dd : List D) (as : As) : E := fun env A => (as env A).bind fun ds A1 => (make C f (ds ++ dd) A1).noX
theorem z54 {dd : List D} : eMakeD C f dd as env A = (as env A).bind fun ds A1 => make C f (ds ++ dd) A1 := rfl
theorem z2z {dd : List D} : eMakeD0 C f dd as env A = (as env A).bind fun ds A1 => (make C f (ds ++ dd) A1).noX := rfl
end
section
variable {P : Program} {w : World} {K : PySem.W.Frag} {mg : Str → Option Value} {base : Heap} {ca : CaT} {x qn : Str} {st : Stmt} {fa : Addr} {fd : FuncData} {N ps : List Str} {k : Nat}
end
end SM

/-! ## t[::e] of a tuple, e = 1 or -1 -/
namespace SM
open PySem L2 PySem.Spec PyProof.Rows
section
variable {prog : Program} {w : World} {A : Around} {E : Value → Shared → Prop} {s : Shared}
end
section
open DL (Ex ExK)
variable {K : PySem.W.Frag} {ca : CaT} {W : WX} {ta tb : TE} {a b : E}
def oStT (x y : D) (A : Hs) : RE D := match seqT x with
  | some l => match y with
    | .int i => if i = 1 then .ok x A else if i = -1 then .ok (.tup l.reverse) A else .stuck
    | _ => .stuck
  | _ => .stuck
theorem z6s {l : List D} {A : Hs} : oStT (.tup l) (.int 1) A = .ok (.tup l) A := rfl
theorem z76 {l : List D} {A : Hs} : oStT (.tup l) (.int (-1)) A = .ok (.tup l.reverse) A := rfl
end
end SM

/-! ## text * 0, text * 1 -/
namespace L2
open PySem PySem.Spec PyProof.Rows
end L2
namespace SM
open PySem L2
open DL (Ex ExK)
section
variable {K : PySem.W.Frag} {ca : CaT}
def oMulS (x y : D) (A : Hs) : RE D := match x, y with
  | .str s, .int i => if i = 1 then .ok (.str s) A else if i = 0 then .ok (.str Str.empty) A else .stuck
  | _, _ => .stuck
end
theorem z4u {A : Hs} {s : String} : oMulS (dS s) (.int 1) A = .ok (dS s) A := rfl
theorem z3e {A : Hs} {s : String} : oMulS (dS s) (.int 0) A = .ok (dS "") A := rfl
section
variable {A : Hs} {env : Sl} {o a e : E} {i : Nat} {x y z d : D} {kv : List (D × D)} {t lk : Bool}
theorem z5p : eGet2 o a e env A = (o env A).bind fun x A1 => if isDic A1 x = true then (a env A1).bind fun y A2 => (e env A2).bind fun z A3 => ofO A3 (getD A3 x y z) else .stuck := rfl
def gD_ (y z : D) : Option O → Option D
  | some (.dic t _ kv) => if keyOk t y = true then some ((kget kv y).getD z) else none
  | _ => none
theorem z62 : getD A (.ref i) y z = gD_ y z A[i]? := by
  unfold getD gD_ dicAt
  rcases h : A[i]? with _ | u
  · simp only [h]
  · cases u <;> simp only [h]
theorem zbv : gD_ y z (some (.dic t lk kv)) = if keyOk t y = true then some ((kget kv y).getD z) else none := rfl
theorem z8z {α : Type} {d : α} : ofO A (some d) = .ok d A := rfl
end
def oL_ (r : RE D) (x : D) (A : Hs) : Option (List D) → RE D
  | some l => if l.isEmpty = true then r else .ok x A
  | none => .stuck
theorem z7w {A : Hs} {env : Sl} {a b : E} : eOrL a b env A = (a env A).bind fun x A1 => oL_ (b env A1) x A1 (seqL A1 x) := by
  unfold eOrL
  cases a env A with
  | ok x A1 =>
    simp only [RE.bind]
    cases seqL A1 x <;> rfl
  | exc _ _ => rfl
  | stuck => rfl
theorem zbt {r : RE D} {x : D} {A : Hs} {l : List D} : oL_ r x A (some l) = if l.isEmpty = true then r else .ok x A := rfl
/-! len(set(xs)) of ints -/
def eLenSet (a : E) : E := fun env A => (a env A).bind fun x A1 => match (seqL A1 x).bind intsOf with
  | some ns => if ns.length ≤ 4000 then .ok (.int (L2.unlike ns : Nat)) A1 else .stuck
  | none => .stuck
def lnS_ (A : Hs) : Option (List Int) → RE D
  | some ns => if ns.length ≤ 4000 then .ok (.int (L2.unlike ns : Nat)) A else .stuck
  | none => .stuck
theorem z28 {a : E} {env : Sl} {A : Hs} : eLenSet a env A = (a env A).bind fun x A1 => lnS_ A1 ((seqL A1 x).bind intsOf) := by
  unfold eLenSet lnS_; rfl
theorem z80 {A : Hs} {ns : List Int} (h : ns.length ≤ 4000) : lnS_ A (some ns) = .ok (.int (L2.unlike ns : Nat)) A := if_pos h
/-- a def that is called by no run -/
theorem Dx.never {P : Program} {w : World} {K : PySem.W.Frag} {mg : Str → Option Value} {base : Heap} {ca : CaT} {k : Nat} {x x0 qn : Str} {st : Stmt} {fa : Addr} {fd : FuncData} {ps : List Str} (F : Fun K x0 qn st fa fd) (hm : mg x = some (.ref fa)) (b : Binds K fd ps []) : DL.Dx P w K mg base k x (SpF K ca fun _ _ => .stuck) := by
  refine ⟨fa, fd, ps, ⟨fun vs H Q E h => ?_, fun A outer s H args us vs Q E _ _ _ _ h => ?_⟩, hm, F.kp, b⟩
  · obtain ⟨_, _, _, _, _, _, p⟩ := h; exact p.elim
  · obtain ⟨_, _, _, _, _, _, p⟩ := h; exact p.elim
end SM

/-! ## z.join(xs).replace(y, w), int(text) -/
namespace DL
open PySem L2 PySem.Spec PyProof.Rows
section
variable {X : Cx} {e : Expr} {te : TE} {x y z : Str} {j k i : Nat} {c c0 c1 ap1 p1 apos pos : Pos}
end
def rIntT : List V → Hp → VK → Prop := fun xs H Q => rInt1 xs H Q ∨ ∃ a n, xs = [.str a] ∧ PySem.intText? a = some n ∧ a.length ≤ 640 ∧ Q (.int n) H
def rStrI : List V → Hp → VK → Prop := fun xs H Q => ∃ i, xs = [V.int i] ∧ i.natAbs.log2 < 1920 ∧ Q (.str (toString i)) H
end DL
namespace SM
open PySem L2
open DL (rJoin rIntT rStrI)
section
variable {K : PySem.W.Frag} {ca : CaT} {F H H1 : Hp} {m : List Addr} {A A1 : Hs} {σ : L2.St} {env : Sl} {W : WX} {Q : VK}
variable {to : TE} {o : E}
def rpl (y z : Str) (A : Hs) : D → RE D
  | .str x => if x.length + (x.length + 1) * z.length ≤ 16777216 then .ok (.str (Txt.replace x y z)) A else .stuck
  | _ => .stuck
def eRepl (y z : Str) (o : E) : E := fun env A => (o env A).bind fun x A1 => rpl y z A1 x
def oIntT (x : D) (A : Hs) : RE D := match x with
  | .int i => .ok (.int i) A
  | .bl b => .ok (.int (if b then 1 else 0)) A
  | .str a => if a.length ≤ 640 then match PySem.intText? a with
    | some n => .ok (.int n) A
    | none => .stuck
    else .stuck
  | _ => .stuck
/-- not by rfl alone: else the kernel may unfold the whole def that is called -/
theorem z8y {α β : Type} {a : α} {A : Hs} {f : α → Hs → RE β} : (RE.ok a A).bind f = f a A := id rfl
theorem zb8 {e : Sl} {A : Hs} {f : S} : seqR (.nx e A) f = f e A := id rfl
theorem z8e {a b : S} : sSeq a b env A = seqR (a env A) b := id rfl
theorem z73 {y z : Str} : eRepl y z o env A = (o env A).bind fun x A1 => rpl y z A1 x := rfl
theorem z47 {p : Int} : oIntT (.int p) A = .ok (.int p) A := rfl
theorem z3a {b : Bool} : oIntT (.bl b) A = .ok (.int (if b then 1 else 0)) A := rfl
end
/-- a module's own tuple of ints -/
def KTpl (K : PySem.W.Frag) (a : Addr) (ns : List Int) : Prop := ∃ (o : Obj) (its : Array Value) (n : Nat), K.lookup a = some o ∧ o.cls = .type "tuple" ∧ o.data = .seq its n ∧ its.size ≤ sizeLine ∧ Vals (ns.map V.int) its.toList
theorem repL_ints {K : PySem.W.Frag} {ca : CaT} {F : Hp} {m : List Addr} : ∀ ns : List Int, RepL K ca F m (ns.map V.int) (ns.map D.int)
  | [] => .nil
  | n :: ns => .cons (.int n) (repL_ints ns)
theorem KTpl.rep {K : PySem.W.Frag} {ca : CaT} {a : Addr} {ns : List Int} (h : KTpl K a ns) (F : Hp) (m : List Addr) : Rep K ca F m (.ref a) (.wt (ns.map D.int)) := .wt (.inr h) (repL_ints ns)
end SM

/-! ## dicts walked: locked while a loop runs; their keys, values, pairs; dict(x); sorted(ints) -/
namespace SM
open PySem L2
open DL (Ex ExK)
section
variable {K : PySem.W.Frag} {ca : CaT} {F F1 F2 H H1 H2 : Hp} {m m1 m2 : List Addr} {A A1 A2 : Hs} {σ : L2.St} {env : Sl} {W : WX} {i : Nat} {u : HO} {t : Bool} {l : List (D × D)}
theorem Rl.put1 {a : Addr} {o' : O} (R : Rl K ca F m A H) (ha : m[i]? = some a) (r : ORep K ca F m (upd H a u) a o') : Rl K ca F m (A.set i o') (upd H a u) := by
  have hm : a ∈ m := List.mem_of_getElem? ha
  have fa := R.fr a hm
  obtain ⟨w0, e0, o0⟩ := R.ordy ha
  refine ⟨R.fh.right fa, by simp [R.len], R.nd, R.fr, fun j o b h1 h2 => ?_, tabs_upd R.tb e0 o0, R.ft⟩
  by_cases q : i = j
  · subst q
    rw [ha] at h2; cases h2
    rw [List.getElem?_set] at h1
    split at h1
    · split at h1
      · cases h1; exact r
      · cases h1
    · rename_i z; exact absurd rfl z
  · rw [List.getElem?_set_ne q] at h1
    have nb : b ≠ a := fun z => q (by
      subst z
      exact (List.getElem?_inj (List.getElem?_eq_some_iff.mp ha).1 R.nd).mp (ha.trans h2.symm))
    exact (R.ob j o b h1 h2).mono (Ex.refl _) (Pre.refl _) fun w hw => by rw [upd_ne nb]; exact hw
/-- a dict's object is there -/
theorem Rl.dic (R : Rl K ca F m A H) (h : A[i]? = some (.dic t false l)) : ∃ a u, m[i]? = some a ∧ H a = some u ∧ Mut (some u) ∧ (∀ od w, u ≠ .frz od w) ∧ ∀ od, ORep K ca F m (upd H a (.frz od u)) a (.dic t true l) := by
  have l0 : i < m.length := by rw [R.len]; exact (List.getElem?_eq_some_iff.mp h).1
  have ha : m[i]? = some m[i] := List.getElem?_eq_getElem l0
  have r := R.ob i _ m[i] h ha
  cases t with
  | false =>
    obtain ⟨kvs, h1, h2⟩ := r
    exact ⟨m[i], .dK kvs, ha, h1, trivial, fun od w z => (by cases z), fun od => ⟨kvs, ⟨od, upd_same⟩, h2⟩⟩
  | true =>
    obtain ⟨kvs, h1, h2⟩ := r
    exact ⟨m[i], .dT kvs, ha, h1, trivial, fun od w z => (by cases z), fun od => ⟨kvs, ⟨od, upd_same⟩, h2⟩⟩
theorem Rl.lock (R : Rl K ca F m A H) (h : A[i]? = some (.dic t false l)) : ∃ a u, H a = some u ∧ Mut (some u) ∧ ∀ od, (Rl K ca F m (A.set i (.dic t true l)) (upd H a (.frz od u)) ∧ Stp F m H F m (upd H a (.frz od u))) ∧
    ∀ F' m' A' H' l' t', Rl K ca F' m' A' H' → Stp F m (upd H a (.frz od u)) F' m' H' → A'[i]? = some (.dic t' true l') → H' a = some (.frz od u) ∧ Rl K ca F' m' (A'.set i (.dic t' false l')) (upd H' a u) ∧ Stp F m H F' m' (upd H' a u) := by
  obtain ⟨a, u, ha, hu, mu, nz, hr⟩ := R.dic h
  have hm : a ∈ m := List.mem_of_getElem? ha
  refine ⟨a, u, hu, mu, fun od => ⟨R.put ha (fun od' w z => by rw [hu] at z; cases z; exact nz _ _ rfl) (hr od), fun F' m' A' H' l' t' R' g' hA' => ?_⟩⟩
  have hfz : H' a = some (.frz od u) := g'.fz a od u upd_same
  have ha' : m'[i]? = some a := g'.mm.get ha
  have r := R'.ob i _ a hA' ha'
  have new : ORep K ca F' m' (upd H' a u) a (.dic t' false l') := by
    cases t' with
    | false =>
      obtain ⟨kvs, ⟨od', x⟩, h2⟩ := r
      rw [hfz] at x
      cases x
      exact ⟨kvs, upd_same, h2⟩
    | true =>
      obtain ⟨kvs, ⟨od', x⟩, h2⟩ := r
      rw [hfz] at x
      cases x
      exact ⟨kvs, upd_same, h2⟩
  refine ⟨hfz, R'.put1 ha' new, ⟨g'.ff, g'.mm, fun b w hb n nt => ?_, fun b hb => ?_, fun b hb => ?_, fun b hb => ?_, fun b o w hb => ?_⟩⟩
  · have nb : b ≠ a := fun z => n (by rw [z]; exact hm)
    rw [upd_ne nb]
    exact g'.kp b w (by rw [upd_ne nb]; exact hb) n nt
  · rcases g'.gn b hb with q | q | q
    · exact .inl q
    · by_cases z : b = a
      · rw [z] at q; exact (q.no upd_same trivial).elim
      · exact .inr (.inl (q.back fun u hu => by rw [upd_ne z]; exact hu))
    · exact .inr (.inr q)
  · rcases g'.gm b hb with q | q
    · exact .inl q
    · by_cases z : b = a
      · rw [z]; exact .inl hm
      · exact .inr (q.back fun u hu => by rw [upd_ne z]; exact hu)
  · by_cases q : b = a
    · rw [q] at hb
      obtain ⟨w1, e1, o1⟩ := new.ordy
      exact (hb.no e1 o1).elim
    · exact (g'.th b (hb.back fun u hu => by rw [upd_ne q]; exact hu)).back fun u hu => by rw [upd_ne q]; exact hu
  · have nb : b ≠ a := fun z => by rw [z, hu] at hb; cases hb; exact nz _ _ rfl
    rw [upd_ne nb]
    exact g'.fz b o w (by rw [upd_ne nb]; exact hb)
end
def pkR : RE D → Option Nat
  | .ok (.ref i) _ => some i
  | _ => none
/-- unlocked again -/
def un1 {β : Type} (k : Hs → β) (s : β) (A : Hs) (i : Nat) : Option O → β
  | some (.dic t true l) => k (A.set i (.dic t false l))
  | _ => s
def ulR (i : Nat) : RS → RS
  | .nx e A => un1 (fun B => .nx e B) .stuck A i A[i]?
  | .bk e A => un1 (fun B => .bk e B) .stuck A i A[i]?
  | .ct e A => un1 (fun B => .ct e B) .stuck A i A[i]?
  | .rt d A => un1 (fun B => .rt d B) .stuck A i A[i]?
  | .exc C e A => .exc C e A
  | .stuck => .stuck
def lk2 (f : S) (env : Sl) (A : Hs) (i : Nat) : Option O → RS
  | some (.dic t false l) => ulR i (f env (A.set i (.dic t true l)))
  | _ => .stuck
def lk1 (f : S) (env : Sl) (A : Hs) : Option Nat → RS
  | some i => lk2 f env A i A[i]?
  | none => .stuck
def sLk (x : E) (f : S) : S := fun env A => lk1 f env A (pkR (x env A))
def ulE (i : Nat) : RE D → RE D
  | .ok d A => un1 (fun B => .ok d B) .stuck A i A[i]?
  | .exc C A => .exc C A
  | .stuck => .stuck
def lkE2 (f : E) (env : Sl) (A : Hs) (i : Nat) : Option O → RE D
  | some (.dic t false l) => ulE i (f env (A.set i (.dic t true l)))
  | _ => .stuck
def lkE1 (f : E) (env : Sl) (A : Hs) : Option Nat → RE D
  | some i => lkE2 f env A i A[i]?
  | none => .stuck
def eLk (x : E) (f : E) : E := fun env A => lkE1 f env A (pkR (x env A))
section
variable {K : PySem.W.Frag} {ca : CaT} {W : WX}
theorem un1_inv {β : Type} {k : Hs → β} {s : β} {A : Hs} {i : Nat} (P : β → Prop) (h : P (un1 k s A i A[i]?)) (hs : ¬ P s) : ∃ t l, A[i]? = some (.dic t true l) ∧ P (k (A.set i (.dic t false l))) := by
  cases hA : A[i]? with
  | none => rw [hA] at h; exact absurd h hs
  | some o =>
    rw [hA] at h
    cases o with
    | dic t lk l =>
      cases lk with
      | true => exact ⟨t, l, rfl, h⟩
      | false => exact absurd h hs
    | lst l => exact absurd h hs
    | obj C fs => exact absurd h hs
    | nd _ => exact absurd h hs
theorem ss_lk {t : TS} {f : S} {x : E} (h : SimS K ca W t f) : SimS K ca W (tLock t) (sLk x f) := fun F m A σ H env Dn R S p => by
  unfold sLk at p
  cases q : pkR (x env A) with
  | none => rw [q] at p; exact p.elim
  | some i =>
    rw [q] at p
    have p : PoS K ca F m H W Dn (lk2 f env A i A[i]?) := p
    cases hA : A[i]? with
    | none => rw [hA] at p; exact p.elim
    | some o =>
      rw [hA] at p
      cases o with
      | lst l => exact p.elim
      | obj C fs => exact p.elim
      | nd _ => exact p.elim
      | dic tt_ lk l =>
        cases lk with
        | true => exact p.elim
        | false =>
          obtain ⟨a, u, hu, mu, hl⟩ := R.lock hA
          refine ⟨a, u, hu, mu, fun od => ?_⟩
          obtain ⟨⟨R1, g1⟩, hul⟩ := hl od
          refine h F m _ σ _ env _ R1 (S.stp g1) ?_
          have p : PoS K ca F m H W Dn (ulR i (f env (A.set i (.dic tt_ true l)))) := p
          cases z : f env (A.set i (.dic tt_ true l)) with
          | nx e A2 =>
            rw [z] at p
            obtain ⟨t', l', hA2, p⟩ := un1_inv (fun r => PoS K ca F m H W Dn r) p (fun z => z)
            exact fun F' m' σ' H' R' g' S' => ⟨(hul F' m' A2 H' l' t' R' g' hA2).1, p F' m' σ' _ (hul F' m' A2 H' l' t' R' g' hA2).2.1 (hul F' m' A2 H' l' t' R' g' hA2).2.2 S'⟩
          | bk e A2 =>
            rw [z] at p
            obtain ⟨t', l', hA2, p⟩ := un1_inv (fun r => PoS K ca F m H W Dn r) p (fun z => z)
            exact fun F' m' σ' H' R' g' S' => ⟨(hul F' m' A2 H' l' t' R' g' hA2).1, p F' m' σ' _ (hul F' m' A2 H' l' t' R' g' hA2).2.1 (hul F' m' A2 H' l' t' R' g' hA2).2.2 S'⟩
          | ct e A2 =>
            rw [z] at p
            obtain ⟨t', l', hA2, p⟩ := un1_inv (fun r => PoS K ca F m H W Dn r) p (fun z => z)
            exact fun F' m' σ' H' R' g' S' => ⟨(hul F' m' A2 H' l' t' R' g' hA2).1, p F' m' σ' _ (hul F' m' A2 H' l' t' R' g' hA2).2.1 (hul F' m' A2 H' l' t' R' g' hA2).2.2 S'⟩
          | rt d A2 =>
            rw [z] at p
            obtain ⟨t', l', hA2, p⟩ := un1_inv (fun r => PoS K ca F m H W Dn r) p (fun z => z)
            exact fun v F' m' H' R' g' S' => ⟨(hul F' m' A2 H' l' t' R' g' hA2).1, p v F' m' _ (hul F' m' A2 H' l' t' R' g' hA2).2.1 (hul F' m' A2 H' l' t' R' g' hA2).2.2 S'⟩
          | exc C e A2 =>
            rw [z] at p
            exact fun F' m' σ' H' R' g' S' => p F' m' σ' H' R' (g1.trans g') S'
          | stuck => rw [z] at p; exact p.elim
theorem se_lk {t : TE} {f x : E} (h : SimE K ca W t f) : SimE K ca W (tLockE t) (eLk x f) := fun F m A σ H env Q R S p => by
  unfold eLk at p
  cases q : pkR (x env A) with
  | none => rw [q] at p; exact p.elim
  | some i =>
    rw [q] at p
    have p : Po K ca (Rep K ca) F m H W σ Q (lkE2 f env A i A[i]?) := p
    cases hA : A[i]? with
    | none => rw [hA] at p; exact p.elim
    | some o =>
      rw [hA] at p
      cases o with
      | lst l => exact p.elim
      | obj C fs => exact p.elim
      | nd _ => exact p.elim
      | dic tt_ lk l =>
        cases lk with
        | true => exact p.elim
        | false =>
          obtain ⟨a, u, hu, mu, hl⟩ := R.lock hA
          refine ⟨a, u, hu, mu, fun od => ?_⟩
          obtain ⟨⟨R1, g1⟩, hul⟩ := hl od
          refine h F m _ σ _ env _ R1 (S.stp g1) ?_
          have p : Po K ca (Rep K ca) F m H W σ Q (ulE i (f env (A.set i (.dic tt_ true l)))) := p
          cases z : f env (A.set i (.dic tt_ true l)) with
          | ok d A2 =>
            rw [z] at p
            obtain ⟨t', l', hA2, p⟩ := un1_inv (fun r => Po K ca (Rep K ca) F m H W σ Q r) p (fun z => z)
            exact fun v F' m' H' R' g' S' => ⟨(hul F' m' A2 H' l' t' R' g' hA2).1, p v F' m' _ (hul F' m' A2 H' l' t' R' g' hA2).2.1 (hul F' m' A2 H' l' t' R' g' hA2).2.2 S'⟩
          | exc C A2 =>
            rw [z] at p
            exact fun F' m' H' R' g' => p F' m' H' R' (g1.trans g')
          | stuck => rw [z] at p; exact p.elim
end
/-! what is walked -/
def wd_ (A : Hs) (i : Nat) (f : Bool → List (D × D) → Option (List D)) : Option O → Option Wk
  | some (.dic t true l) => (f t l).map fun ds => ⟨ds, fun A' => A'[i]? = some (.dic t true l)⟩
  | _ => none
def wdA (f : Bool → List (D × D) → Option (List D)) (A : Hs) : D → Option Wk
  | .ref i => wd_ A i f A[i]?
  | _ => none
def wkK : Hs → D → Option Wk := wdA fun _ l => some (l.map Prod.fst)
def wkV : Hs → D → Option Wk := wdA fun t l => if t = false then some (l.map Prod.snd) else none
def wkI : Hs → D → Option Wk := wdA fun t l => if t = false then some (l.map fun p => .tup [p.1, p.2]) else none
section
variable {K : PySem.W.Frag} {ca : CaT} {F F1 F2 H H1 H2 : Hp} {m m1 m2 : List Addr} {A A1 A2 : Hs} {W : WX} {te : TE} {a : E}
theorem rep_kD (k : Key) : Rep K ca F m (kV k) (kD k) := by
  cases k with
  | inl i => exact .int i
  | inr x => exact .str x
theorem KvR.at_ {κ δ : Type} {kd : κ → δ} : ∀ {kvs : List (κ × V)} {l : List (δ × D)}, KvR K ca F m kd kvs l → ∀ {i : Nat} {k : κ} {v : V}, kvs[i]? = some (k, v) → ∃ d, l[i]? = some (kd k, d) ∧ Rep K ca F m v d
  | _, _, .nil, i, k, v, h => by simp at h
  | _, _, .cons r t, i, k, v, h => by
    cases i with
    | zero =>
      rw [List.getElem?_cons_zero] at h ⊢
      cases h
      exact ⟨_, rfl, r⟩
    | succ i =>
      rw [List.getElem?_cons_succ] at h ⊢
      exact KvR.at_ t h
/-- a locked dict -/
theorem dic_lk {v : V} {i : Nat} {t : Bool} {l : List (D × D)} (R : Rl K ca F m A H) (r : Rep K ca F m v (.ref i)) (h : A[i]? = some (.dic t true l)) : ∃ a, v = .ref a ∧ m[i]? = some a ∧ ((t = false ∧ ∃ kvs od, H a = some (.frz od (.dK kvs)) ∧ KvR K ca F m kD kvs l) ∨ (t = true ∧ ∃ kvs od, H a = some (.frz od (.dT kvs)) ∧ KvR K ca F m kT kvs l)) := by
  obtain ⟨a, e, ha, r⟩ := R.at h r
  cases t with
  | false => obtain ⟨kvs, ⟨od, x⟩, y⟩ := r; exact ⟨a, e, ha, .inl ⟨rfl, kvs, od, x, y⟩⟩
  | true => obtain ⟨kvs, ⟨od, x⟩, y⟩ := r; exact ⟨a, e, ha, .inr ⟨rfl, kvs, od, x, y⟩⟩
theorem wd_inv {f : Bool → List (D × D) → Option (List D)} {x : D} {kk : Wk} (h : wdA f A x = some kk) : ∃ i t l ds, x = .ref i ∧ A[i]? = some (.dic t true l) ∧ f t l = some ds ∧ kk = ⟨ds, fun A' => A'[i]? = some (.dic t true l)⟩ := by
  cases x with
  | ref i =>
    have h : wd_ A i f A[i]? = some kk := h
    cases q : A[i]? with
    | none => rw [q] at h; cases h
    | some o =>
      rw [q] at h
      cases o with
      | dic t lk l =>
        cases lk with
        | false => cases h
        | true =>
          obtain ⟨ds, h1, h2⟩ := Option.map_eq_some_iff.mp h
          exact ⟨i, t, l, ds, rfl, q, h1, h2.symm⟩
      | lst l => cases h
      | obj C fs => cases h
      | nd _ => cases h
  | _ => cases h
theorem walk_keys {d : Addr} {o : Obj} {kvs : List (Key × V)} : Walk (Itk d o kvs) kvs.length (fun H => H d = some (.frz o (.dK kvs))) (fun i H x H' => H' = H ∧ ∃ k v, kvs[i]? = some (k, v) ∧ x = kV k) :=
  ⟨fun i _ hi q => ⟨q, hi⟩, fun _ q => ⟨q, Nat.le_refl _⟩, fun _ _ _ _ _ _ y => y⟩
theorem walk_keysT {d : Addr} {o : Obj} {kvs : List (List Key × V)} : Walk (Itkt d o kvs) kvs.length (fun H => H d = some (.frz o (.dT kvs))) (fun i H x H' => H' = H ∧ ∃ (k : List Key) (v : V) (q : Addr), kvs[i]? = some (k, v) ∧ x = .ref q ∧ H q = some (.tup (k.map kV))) :=
  ⟨fun i _ hi q => ⟨q, hi⟩, fun _ q => ⟨q, Nat.le_refl _⟩, fun _ _ _ _ _ _ y => y⟩
theorem walk_items {d : Addr} {o : Obj} {kvs : List (Key × V)} : Walk (Iti d o kvs) kvs.length (fun H => H d = some (.frz o (.dK kvs))) (fun i H x H' => ∃ T k v, kvs[i]? = some (k, v) ∧ x = .ref T ∧ H T = none ∧ H' = upd H T (.tup [kV k, v])) :=
  ⟨fun i _ hi q => ⟨q, hi⟩, fun _ q => ⟨q, Nat.le_refl _⟩, fun _ _ _ _ _ _ y => y⟩
theorem repL_kT : ∀ ks : List Key, RepL K ca F m (ks.map kV) (ks.map kD)
  | [] => .nil
  | k :: ks => .cons (rep_kD k) (repL_kT ks)
theorem sw_keys (h : SimE K ca W te a) : SimI K ca W (iKeys te) (wOf wkK a) := fun F m A σ H env Q R S p => wOf_bind h R S p fun F1 m1 A1 H1 x d kk R1 r hk p1 => by
  obtain ⟨i, t, l, ds, rfl, hA, hf, rfl⟩ := wd_inv hk
  cases hf
  obtain ⟨ad, rfl, ha, q⟩ := dic_lk R1 r hA
  rcases q with ⟨rfl, kvs, od, hd, hkv⟩ | ⟨rfl, kvs, od, hd, hkv⟩
  · refine ⟨ad, od, rfl, .inl ⟨kvs, hd, p1 _ F1 m1 H1 R1 Stp.refl ⟨_, (fun i H x H' => H' = H ∧ ∃ k v, kvs[i]? = some (k, v) ∧ x = kV k), ?_, fun F2 m2 A2 H2 hg R2 g2 => g2.fz _ _ _ hd, fun i' d' x' F2 m2 A2 H2 H3 e hg R2 g2 y => .inl ?_⟩⟩⟩
    · rw [show (Wk.mk (l.map Prod.fst) _).ds.length = kvs.length from (List.length_map _).trans hkv.length.symm]; exact walk_keys
    · obtain ⟨e1, k, v, e2, e3⟩ := y
      obtain ⟨dd, e4, _⟩ := hkv.at_ e2
      refine ⟨e1, ?_⟩
      have e : (l.map Prod.fst)[i']? = some d' := e
      rw [List.getElem?_map, e4] at e
      cases e
      rw [e3]
      exact rep_kD k
  · refine ⟨ad, od, rfl, .inr ⟨kvs, hd, p1 _ F1 m1 H1 R1 Stp.refl ⟨_, (fun i H x H' => H' = H ∧ ∃ (k : List Key) (v : V) (q : Addr), kvs[i]? = some (k, v) ∧ x = .ref q ∧ H q = some (.tup (k.map kV))), ?_, fun F2 m2 A2 H2 hg R2 g2 => g2.fz _ _ _ hd, fun i' d' x' F2 m2 A2 H2 H3 e hg R2 g2 y => .inr (.inr (.inl ?_))⟩⟩⟩
    · rw [show (Wk.mk (l.map Prod.fst) _).ds.length = kvs.length from (List.length_map _).trans hkv.length.symm]; exact walk_keysT
    · obtain ⟨e1, k, v, q, e2, e3, e5⟩ := y
      obtain ⟨dd, e4, _⟩ := hkv.at_ e2
      have e : (l.map Prod.fst)[i']? = some d' := e
      rw [List.getElem?_map, e4] at e
      cases e
      exact ⟨q, k.map kV, k.map kD, rfl, e3, e5, e1, repL_kT k⟩
theorem sw_items (h : SimE K ca W te a) : SimI K ca W (iItems te) (wOf wkI a) := fun F m A σ H env Q R S p => wOf_bind h R S p fun F1 m1 A1 H1 x d kk R1 r hk p1 => by
  obtain ⟨i, t, l, ds, rfl, hA, hf, rfl⟩ := wd_inv hk
  obtain ⟨ad, rfl, ha, q⟩ := dic_lk R1 r hA
  rcases q with ⟨rfl, kvs, od, hd, hkv⟩ | ⟨rfl, kvs, od, hd, hkv⟩
  · cases hf
    refine ⟨ad, od, kvs, rfl, hd, p1 _ F1 m1 H1 R1 Stp.refl ⟨_, (fun i H x H' => ∃ T k v, kvs[i]? = some (k, v) ∧ x = .ref T ∧ H T = none ∧ H' = upd H T (.tup [kV k, v])), ?_, fun F2 m2 A2 H2 hg R2 g2 => g2.fz _ _ _ hd, fun i' d' x' F2 m2 A2 H2 H3 e hg R2 g2 y => .inr (.inl ?_)⟩⟩
    · rw [show (Wk.mk (l.map fun p => D.tup [p.1, p.2]) _).ds.length = kvs.length from (List.length_map _).trans hkv.length.symm]; exact walk_items
    · obtain ⟨T, k, v, e2, e3, e5, e6⟩ := y
      obtain ⟨dd, e4, e7⟩ := hkv.at_ e2
      have e : (l.map fun p => D.tup [p.1, p.2])[i']? = some d' := e
      rw [List.getElem?_map, e4] at e
      cases e
      exact ⟨T, _, _, rfl, e3, e5, e6, .cons (rep_kD k) (.cons (e7.mono g2.ff g2.mm) .nil)⟩
  · cases hf
end
/-! dict(xs), sorted(xs) -/
def rDictA (K : PySem.W.Frag) : List V → Hp → VK → Prop := fun xs H Q => (∃ (a : Addr) (ps : List Addr) (kvs : List (Key × V)), xs = [.ref a] ∧ SqL K H a (ps.map V.ref) ∧ Paired (fun p kv => SqT K H p [kV kv.1, kv.2]) ps kvs ∧
    ∀ p, H p = none → Q (.ref p) (upd H p (.dK (mergeK [] kvs)))) ∨ ∃ (a : Addr) (kvs : List (Key × V)), xs = [.ref a] ∧ Rd H a (.dK kvs) ∧ ∀ p, H p = none → Q (.ref p) (upd H p (.dK kvs))
theorem call_dictA {X : Cx} {K : PySem.W.Frag} (hcalm : X.calm = true) (e : X.K = K := by rfl) : CallR X (.type "dict") (rDictA K) := fun pins s σ H xs us Q I r h => by
  subst e
  rcases h with h | h
  · exact call_dictP hcalm pins s σ H xs us Q I r h
  · exact call_dictD pins s σ H xs us Q I r h
def pairsD : List D → Option (List (D × D))
  | [] => some []
  | .tup [k, v] :: r => if (keyK k).isSome = true then (pairsD r).map ((k, v) :: ·) else none
  | _ => none
def oDict (x : D) (A : Hs) : RE D := match x with
  | .ref i => match A[i]? with
    | some (.dic false _ l) => alloc A (.dic false false l)
    | some (.lst l) => match pairsD l with
      | some ps => alloc A (.dic false false (kmerge [] ps))
      | none => .stuck
    | _ => .stuck
  | _ => .stuck
def srt (l : List Int) : List Int := l.mergeSort fun a b => decide (a ≤ b)
def oSorted (x : D) (A : Hs) : RE D := match (seqL A x).bind intsOf with
  | some ns => alloc A (.lst ((srt ns).map D.int))
  | none => .stuck
section
variable {K : PySem.W.Frag} {ca : CaT} {F F1 F2 H H1 H2 : Hp} {m m1 m2 : List Addr} {A A1 A2 : Hs} {W : WX} {te : TE} {a : E}
theorem pairs_rep (R : Rl K ca F m A H) : ∀ {vs : List V} {l : List D} {qs : List (D × D)}, RepL K ca F m vs l → pairsD l = some qs → ∃ (ps : List Addr) (kvs : List (Key × V)), vs = ps.map V.ref ∧ Paired (fun p kv => SqT K H p [kV kv.1, kv.2]) ps kvs ∧ KvR K ca F m kD kvs qs
  | _, _, _, .nil, h => by
    cases h
    exact ⟨[], [], rfl, .nil, .nil⟩
  | _, _, _, .cons (d := d) r rs, h => by
    unfold pairsD at h
    split at h
    · rename_i e; cases e
    · rename_i k v l e
      cases e
      split at h
      · rename_i hk
        obtain ⟨qs', h1, rfl⟩ := Option.map_eq_some_iff.mp h
        obtain ⟨ps, kvs, e1, e2, e3⟩ := pairs_rep R rs h1
        obtain ⟨kk, hk⟩ := Option.isSome_iff_exists.mp hk
        have e := keyK_kD hk
        have e : k = kD kk := e
        subst e
        cases r with
        | tup s rr =>
          cases rr with
          | cons r1 rr =>
            cases rr with
            | cons r2 rr =>
              cases rr
              rename_i x1 x2
              have ex : x1 = kV kk := by cases kk with
                | inl i => cases r1; rfl
                | inr x => cases r1; rfl
              subst ex
              refine ⟨_ :: ps, (kk, x2) :: kvs, by rw [e1]; rfl, .cons (.inl (.inl (R.fh _ _ s))) e2, .cons r2 e3⟩
      · cases h
    · cases h
theorem cs_dict : CbS K ca (rDictA K) (c1 oDict) := cs_1 fun F m A H x dx W σ Q R rx p => by
  unfold oDict at p
  split at p
  · rename_i i
    split at p
    · rename_i lk l hA
      obtain ⟨ad, e, ha, kvs, h1, h2⟩ := R.at hA rx
      subst e
      exact .inr ⟨ad, kvs, rfl, rdK h1, fun q hq => po_alloc (o := .dic false false l) R hq ⟨kvs, upd_same, h2.mono (Ex.refl _) ⟨_, rfl⟩⟩ p⟩
    · rename_i l hA
      split at p
      · rename_i qs hq
        obtain ⟨ad, vs, e, ha, h1, h2⟩ := lst_at R rx hA
        subst e
        obtain ⟨ps, kvs, e1, e2, e3⟩ := pairs_rep R h2 hq
        subst e1
        exact .inl ⟨ad, ps, kvs, rfl, .inl (.inl h1), e2, fun q hq => po_alloc (o := .dic false false (kmerge [] qs)) R hq ⟨_, upd_same, (kmerge_rep e3 .nil).mono (Ex.refl _) ⟨_, rfl⟩⟩ p⟩
      · exact p.elim
    · exact p.elim
  · exact p.elim
end
/-! for plain proofs -/
section
variable {A B : Hs} {i : Nat} {e env : Sl} {d : D} {t : Bool} {l : List (D × D)} {f : S} {x g : E} {β : Type} {k : Hs → β} {s : β} {C : String}
theorem zbe : sLk x f env A = lk1 f env A (pkR (x env A)) := rfl
theorem zc6 : eLk x g env A = lkE1 g env A (pkR (x env A)) := rfl
theorem z6a : pkR (.ok (.ref i) A) = some i := rfl
theorem z96 : lk1 f env A (some i) = lk2 f env A i A[i]? := rfl
theorem z5a : lkE1 g env A (some i) = lkE2 g env A i A[i]? := rfl
theorem z89 : lk2 f env A i (some (.dic t false l)) = ulR i (f env (A.set i (.dic t true l))) := id rfl
theorem z6x : lkE2 g env A i (some (.dic t false l)) = ulE i (g env (A.set i (.dic t true l))) := id rfl
theorem z6t : ulR i (.nx e A) = un1 (fun B => .nx e B) .stuck A i A[i]? := rfl
theorem z6o : ulR i (.bk e A) = un1 (fun B => .bk e B) .stuck A i A[i]? := rfl
theorem z5f : ulR i (.ct e A) = un1 (fun B => .ct e B) .stuck A i A[i]? := rfl
theorem z7f : ulR i (.rt d A) = un1 (fun B => .rt d B) .stuck A i A[i]? := rfl
theorem z3j : ulR i (.exc C e A) = .exc C e A := rfl
theorem z7c : ulE i (.ok d A) = un1 (fun B => .ok d B) .stuck A i A[i]? := rfl
theorem z49 : ulE i (.exc C A) = .exc C A := rfl
theorem za3 : un1 k s A i (some (.dic t true l)) = k (A.set i (.dic t false l)) := rfl
theorem z7q : wkK A (.ref i) = wd_ A i (fun _ l => some (l.map Prod.fst)) A[i]? := rfl
theorem z8u : wkV A (.ref i) = wd_ A i (fun t l => if t = false then some (l.map Prod.snd) else none) A[i]? := rfl
theorem z7t : wkI A (.ref i) = wd_ A i (fun t l => if t = false then some (l.map fun p => .tup [p.1, p.2]) else none) A[i]? := rfl
theorem zc3 {f : Bool → List (D × D) → Option (List D)} : wd_ A i f (some (.dic t true l)) = (f t l).map fun ds => ⟨ds, fun A' => A'[i]? = some (.dic t true l)⟩ := rfl
def od_ (A : Hs) : Option O → RE D
  | some (.dic false _ l) => .ok (.ref A.length) (A ++ [.dic false false l])
  | some (.lst l) => match pairsD l with
    | some ps => .ok (.ref A.length) (A ++ [.dic false false (kmerge [] ps)])
    | none => .stuck
  | _ => .stuck
theorem z3c : oDict (.ref i) A = od_ A A[i]? := by
  unfold oDict od_
  cases h : A[i]? with
  | none => simp only [h]
  | some o =>
    simp only [h]
    cases o with
    | dic t lk l => cases t <;> rfl
    | lst l => cases pairsD l <;> rfl
    | obj C fs => rfl
    | nd _ => rfl
theorem zb0 {lk : Bool} : od_ A (some (.dic false lk l)) = .ok (.ref A.length) (A ++ [.dic false false l]) := rfl
def os_ (A : Hs) : Option (List Int) → RE D
  | some ns => .ok (.ref A.length) (A ++ [.lst ((srt ns).map D.int)])
  | none => .stuck
theorem z1g : oSorted x_ A = os_ A ((seqL A x_).bind intsOf) := by
  unfold oSorted os_
  cases (seqL A x_).bind intsOf <;> rfl
theorem zbh {ns : List Int} : os_ A (some ns) = .ok (.ref A.length) (A ++ [.lst ((srt ns).map D.int)]) := rfl
end
end SM

/-! ## a lambda handed to a def that tries it: told = work(), an error is kept by a name -/
namespace SM
open PySem PySem.Spec PyProof.Rows L2
open DL (Ex ExK)
/-- what a def's end hands back where nothing may be let out -/
def retS : RS → RE D
  | .nx _ A => .ok .non A
  | .rt d A => .ok d A
  | _ => .stuck
/-- slots: 0 what is tried, 1 what it told, 2 what was caught, 3 the handler's name -/
def trK (cts : List String) (frest : S) : RE D → RE D
  | .ok d A1 => retS (frest [none, some d, some .non, none] A1)
  | .exc C A1 => if C ∈ cts then retS (frest [none, none, some (.exc C), none] A1) else .stuck
  | .stuck => .stuck
def eTried (cts : List String) (frest : S) (th : E) : E := fun env A => trK cts frest (th env A)
section
variable {K : PySem.W.Frag} {ca : CaT} {F F1 F2 H H1 H2 : Hp} {m m1 m2 : List Addr} {A A1 A2 : Hs} {σ : L2.St} {env : Sl} {W : WX}
theorem Po.any {α β : Type} {Rr : Hp → List Addr → β → α → Prop} {Q : β → Hp → Prop} {r : RE α} {σ' : L2.St} {W' : WX} (h : Po K ca Rr F m H W σ Q r) (hx : ∀ C A, r ≠ .exc C A) : Po K ca Rr F m H W' σ' Q r := by
  cases r with
  | ok a A' => exact h
  | exc C A' => exact absurd rfl (hx C A')
  | stuck => exact h
end
section
variable {P : Program} {w : World} {K : PySem.W.Frag} {mg : Str → Option Value} {base : Heap} {k : Nat} {x qn : Str} {st : Stmt} {fa : Addr} {fd : FuncData} {N ps : List Str} {ca : CaT}
end
/-! ### the end -/
/-- no table is seen -/
def noT (H : Hp) : Hp := fun b => match H b with
  | some (.tbl _) => none
  | o => o
theorem noT_some {H : Hp} {b : Addr} {u : HO} (h : noT H b = some u) : H b = some u ∧ ∀ ps, u ≠ .tbl ps := by
  unfold noT at h
  split at h
  · cases h
  · rename_i n
    exact ⟨h, fun ps z => n ps (by rw [h, z])⟩
theorem noT_of {H : Hp} {b : Addr} {u : HO} (h : H b = some u) (n : ∀ ps, u ≠ .tbl ps) : noT H b = some u := by
  unfold noT
  split
  · rename_i ps z; rw [h] at z; exact absurd (Option.some.inj z) (n ps)
  · exact h
theorem SqL.noT {K : PySem.W.Frag} {H : Hp} {a : Addr} {xs : List V} (h : SqL K H a xs) : SqL K (noT H) a xs := by
  rcases h with (h | ⟨o, h⟩) | h
  · exact .inl (.inl (noT_of h (by intro _ z; cases z)))
  · exact .inl (.inr ⟨o, noT_of h (by intro _ z; cases z)⟩)
  · exact .inr h
theorem Rl.start {K : PySem.W.Frag} {ca : CaT} {H : Hp} (h : ∀ p ∈ ca.T, H p.1 = some (.tbl #[])) : Rl K ca (SM.noT H) [] [] H :=
  ⟨fun a o h => (noT_some h).1, rfl, List.nodup_nil, fun a h => by simp at h, fun i o a h => by simp at h, fun p hp => LamX.TabS.nil (h p hp), fun a ps h => (noT_some h).2 ps rfl⟩
end SM
/-! ### the script and a list -/
namespace L2
open PySem PySem.Spec PyProof.Rows
end L2
namespace SM
open PySem PySem.Spec PyProof.Rows L2
open DL (Ex ExK)
def oAddS (x y : D) (A : Hs) : RE D := match x, y with
  | .scr l, .ref j => match A[j]? with
    | some (.lst k) => if l.length + k.length ≤ sizeLine then alloc A (.lst (l ++ k)) else .stuck
    | _ => .stuck
  | _, _ => .stuck
theorem z6g {A : Hs} {l k : List D} {j : Nat} (h : A[j]? = some (.lst k)) (hl : l.length + k.length ≤ 16000000) : oAddS (.scr l) (.ref j) A = .ok (.ref A.length) (A ++ [.lst (l ++ k)]) := by
  unfold oAddS; simp only [h]; rw [if_pos (z0f hl)]; rfl
/-! ### equations for the plain proofs -/
theorem z4m {cts : List String} {fr : S} {th : E} {env : Sl} {A : Hs} : eTried cts fr th env A = trK cts fr (th env A) := id rfl
theorem z7i {cts : List String} {fr : S} {d : D} {A1 : Hs} : trK cts fr (.ok d A1) = retS (fr [none, some d, some .non, none] A1) := id rfl
theorem z4r {cts : List String} {fr : S} {C : String} {A1 : Hs} (h : C ∈ cts) : trK cts fr (.exc C A1) = retS (fr [none, none, some (.exc C), none] A1) := by
  show (if C ∈ cts then _ else _) = _
  rw [if_pos h]
theorem z3u {d : D} {A : Hs} : retS (.rt d A) = .ok d A := id rfl
theorem z35 {env : Sl} {A : Hs} : retS (.nx env A) = .ok .non A := id rfl
end SM

/-! ## min, max, sorted of data (ints, truths, texts, tuples of these); min, max with a default; max of a dict's keys -/
namespace L2
open PySem PySem.Spec PyProof.Rows PySem.W
/-- the place of the first of the least (gt: of the greatest) -/
def bix (gt : Bool) (ds : List PyData) : Nat := argBest (fun i j => if gt = true then dataLt (ds.getD j .none) (ds.getD i .none) else dataLt (ds.getD i .none) (ds.getD j .none)) (ds.length - 1)
def rBest (K : PySem.W.Frag) (gt : Bool) : List V → Hp → VK → Prop := fun vs H Q => ∃ (a : Addr) (xs : List V) (ds : List PyData), vs = [.ref a] ∧ SqL K H a xs ∧ DpAll K H xs ds ∧ AlikeAll ds ∧ PyData.depthAll ds ≤ 60 ∧ 0 < ds.length ∧ ∀ v, xs[bix gt ds]? = some v → Q v H
theorem Vals.at_ {xs : List V} {us : List Value} (r : Vals xs us) : ∀ {i : Nat} {u : Value}, us[i]? = some u → ∃ x, xs[i]? = some x ∧ RelV x u := by
  induction r with
  | nil => intro i u h; simp at h
  | cons h t ih =>
    intro i u e
    cases i with
    | zero => rw [List.getElem?_cons_zero] at e ⊢; cases e; exact ⟨_, rfl, h⟩
    | succ i => rw [List.getElem?_cons_succ] at e ⊢; exact ih e
theorem call_minD {X : Cx} (hu : X.A.units + 65 < cLine) (hc : X.calm = true) : CallR X (.builtin "min") (rBest X.K false) := by
  intro pins s σ H vs us Q I r h
  obtain ⟨a, xs, ds, rfl, hs, hd, ha, hdp, hl, q⟩ := h
  obtain ⟨its, rv, hl2, _⟩ := I.list hs
  obtain ⟨as, hr⟩ := Dp.readsAll I ds xs its hd rv
  rw [Vals.ref1 r]
  have hn : its.toArray.size = ds.length := readsAll_len hr
  refine call_min_walkH (iter_listW (A := X.A.in1) (I.ok.hd hc) hl2.isList fun s₂ e W st hfp hw hk => ?_)
  refine ⟨_, _, _, _, _, _, _, s.heap, _, rfl, W, st, hfp, by omega, hw, hk, cmpIn_lt (A := X.A.in1) hr ha (by show X.A.units + 1 + _ < _; omega), fun v s' hP m => ?_⟩
  obtain ⟨h', tk, rfl, hk'⟩ := moved_old e rfl m
  rw [hn] at hP
  have hP : its[argBest (fun i j => dataLt (ds.getD i .none) (ds.getD j .none)) (ds.length - 1)]? = some v := by simpa using hP
  obtain ⟨x, hx, rx⟩ := Vals.at_ rv hP
  exact ⟨x, H, I.kept hk', rx, q x (by unfold bix; simpa using hx)⟩
/-- min(xs, default=d) -/
def rMinDf (K : PySem.W.Frag) : List V → List V → Hp → VK → Prop := fun vs zs H Q => ∃ (a : Addr) (xs : List V) (ds : List PyData) (z : V), vs = [.ref a] ∧ zs = [z] ∧ SqL K H a xs ∧ DpAll K H xs ds ∧ AlikeAll ds ∧ PyData.depthAll ds ≤ 60 ∧
  (ds = [] → Q z H) ∧ (0 < ds.length → ∀ v, xs[bix false ds]? = some v → Q v H)
theorem call_minDf {X : Cx} (hu : X.A.units + 65 < cLine) (hc : X.calm = true) : CallRK X (.builtin "min") [Str.ofString "default"] (rMinDf X.K) := by
  intro pins s σ H vs zs us ws Q I r rz h
  obtain ⟨a, xs, ds, z, rfl, rfl, hs, hd, ha, hdp, q0, q⟩ := h
  obtain ⟨its, rv, hl2, _⟩ := I.list hs
  obtain ⟨as, hr⟩ := Dp.readsAll I ds xs its hd rv
  rw [Vals.ref1 r]
  obtain ⟨w1, rfl, rw1⟩ := vals1 rz
  have hn : its.toArray.size = ds.length := readsAll_len hr
  refine call_min_walkD (d := w1) (iter_listW (A := X.A.in1) (I.ok.hd hc) hl2.isList fun s₂ e W st hfp hw hk => ?_)
  refine ⟨_, _, _, _, _, _, _, s.heap, (fun i j => dataLt (ds.getD i .none) (ds.getD j .none)), rfl, W, st, hfp, hw, hk, fun hz s' m => ?_, fun hp => ⟨cmpIn_lt (A := X.A.in1) hr ha (by show X.A.units + 1 + _ < _; omega), fun v s' hP m => ?_⟩⟩
  · obtain ⟨h', tk, rfl, hk'⟩ := moved_old e rfl m
    exact ⟨z, H, I.kept hk', rw1, q0 (List.eq_nil_of_length_eq_zero (by omega))⟩
  · obtain ⟨h', tk, rfl, hk'⟩ := moved_old e rfl m
    rw [hn] at hP
    have hP : its[argBest (fun i j => dataLt (ds.getD i .none) (ds.getD j .none)) (ds.length - 1)]? = some v := by simpa using hP
    obtain ⟨x, hx, rx⟩ := Vals.at_ rv hP
    exact ⟨x, H, I.kept hk', rx, q (by omega) x (by unfold bix; simpa using hx)⟩
/-- sorted(xs), xs a list of alike data -/
def rSortD (K : PySem.W.Frag) : List V → Hp → VK → Prop := fun vs H Q => ∃ (a : Addr) (xs : List V) (ds : List PyData), vs = [.ref a] ∧ SqL K H a xs ∧ DpAll K H xs ds ∧ AllAlike ds ∧ Sortable ds ∧ PyData.depthAll ds ≤ 60 ∧
  ∀ p, H p = none → Q (.ref p) (upd H p (.lst (((xs.zip ds).mergeSort (dataLe false Prod.snd)).map Prod.fst)))
theorem depthAll_le {n : Nat} : ∀ {ds : List PyData}, PyData.depthAll ds ≤ n → ∀ d ∈ ds, d.depth ≤ n
  | d :: ds, h, x, hx => by
    unfold PyData.depthAll at h
    rcases List.mem_cons.mp hx with e | hx
    · rw [e]; omega
    · exact depthAll_le (by omega) x hx
theorem zip_each {R : Value → V × PyData → Prop} : ∀ {us : List Value} {xs : List V} {ds : List PyData}, us.length = xs.length → xs.length = ds.length → (∀ (i : Nat) (u : Value) (x : V) (d : PyData), us[i]? = some u → xs[i]? = some x → ds[i]? = some d → R u (x, d)) → EachIs R us (xs.zip ds)
  | [], [], [], _, _, _ => .nil
  | u :: us, x :: xs, d :: ds, h, k, r => .cons (r 0 u x d rfl rfl rfl) (zip_each (by simpa using h) (by simpa using k) fun i u x d h1 h2 h3 => r (i + 1) u x d (by simpa using h1) (by simpa using h2) (by simpa using h3))
theorem dpAll_len {K : PySem.W.Frag} {H : Hp} : ∀ {xs : List V} {ds : List PyData}, DpAll K H xs ds → xs.length = ds.length
  | _, _, .nil => rfl
  | _, _, .cons _ r => by rw [List.length_cons, List.length_cons, dpAll_len r]
theorem dpAll_at {K : PySem.W.Frag} {H : Hp} : ∀ {xs : List V} {ds : List PyData}, DpAll K H xs ds → ∀ {i : Nat} {x : V} {d : PyData}, xs[i]? = some x → ds[i]? = some d → Dp K H x d
  | _, _, .nil, i, _, _, h, _ => by simp at h
  | _, _, .cons h r, i, x, d, e, k => by
    cases i with
    | zero => cases e; cases k; exact h
    | succ i => rw [List.getElem?_cons_succ] at e k; exact dpAll_at r e k
theorem vals_out {us : List Value} {ps : List (V × PyData)} (h : EachIs (fun u p => RelV p.1 u) us ps) : Vals (ps.map Prod.fst) us := by
  induction h with
  | nil => exact .nil
  | cons h _ ih => exact .cons h ih
theorem call_sortD {X : Cx} (hu : X.A.units + 65 < cLine) : CallR X (.builtin "sorted") (rSortD X.K) := by
  intro pins s σ H vs us Q I r h
  obtain ⟨a, xs, ds, rfl, hs, hd, ha, hso, hdp, q⟩ := h
  obtain ⟨its, rv, hl2, hz⟩ := I.list hs
  rw [Vals.ref1 r]
  have hlen := dpAll_len hd
  have hmap : (xs.zip ds).map Prod.snd = ds := List.map_snd_zip (by omega)
  have each : EachIs (fun u (p : V × PyData) => RelV p.1 u) its (xs.zip ds) := zip_each rv.length.symm hlen fun i u x d h1 h2 h3 => by
    obtain ⟨x', e1, e2⟩ := Vals.at_ rv h1
    rw [h2] at e1; cases e1; exact e2
  have each2 : EachIs (fun u (p : V × PyData) => ∃ as, Reads s.heap u p.2 as) its (xs.zip ds) := zip_each rv.length.symm hlen fun i u x d h1 h2 h3 => by
    obtain ⟨x', e1, e2⟩ := Vals.at_ rv h1
    rw [h2] at e1; cases e1
    exact Dp.reads I d x u (dpAll_at hd h2 h3) e2
  refine sorted_data hl2.isList each each2 (by rw [hmap]; exact ha) (by rw [hmap]; exact hso) (by rw [List.length_zip, ← hlen, Nat.min_self]; exact hz) (fun b hb => ?_) fun out hl e => ?_
  · have := depthAll_le hdp b.2 (by rw [← hmap]; exact List.mem_map_of_mem hb)
    omega
  · obtain ⟨ep, he'⟩ := PyProof.Rows.sortedAll_at s.heap its out.toArray
    have hl3 : (((xs.zip ds).mergeSort (dataLe false Prod.snd)).map Prod.fst).length ≤ sizeLine := by
      rw [List.length_map, List.length_mergeSort, List.length_zip, ← hlen, Nat.min_self]; exact hz
    exact ⟨.ref _, upd H (s.heap.objs.size + 1) (.lst (((xs.zip ds).mergeSort (dataLe false Prod.snd)).map Prod.fst)), I.laid (t' := s.toks) (fun _ _ => PyProof.Rows.sortedAll_old) (Nat.le_succ _) ⟨hl3, out, ep, vals_out e, he'⟩, rfl, q _ (I.hok.fresh (Nat.le_succ _))⟩
theorem call_minU {X : Cx} {K : PySem.W.Frag} (hu : X.A.units + 65 < cLine) (hc : X.calm = true) (e : X.K = K := by rfl) : CallR X (.builtin "min") (rBest K false) := by subst e; exact call_minD hu hc
theorem call_minDfU {X : Cx} {K : PySem.W.Frag} (hu : X.A.units + 65 < cLine) (hc : X.calm = true) (e : X.K = K := by rfl) : CallRK X (.builtin "min") [Str.ofString "default"] (rMinDf K) := by subst e; exact call_minDf hu hc
theorem call_sortDU {X : Cx} {K : PySem.W.Frag} (hu : X.A.units + 65 < cLine) (e : X.K = K := by rfl) : CallR X (.builtin "sorted") (rSortD K) := by subst e; exact call_sortD hu
end L2
namespace SM
open PySem L2
open DL (Ex ExK)
def alikeB (ds : List PyData) : Bool := ds.all fun x => ds.all fun y => PySem.W.alike x y
def nonone : PyData → Bool
  | .none => false
  | _ => true
def isTup1 : PyData → Bool
  | .tuple (_ :: _) => true
  | _ => false
def isTupB : PyData → Bool
  | .tuple _ => true
  | _ => false
def sortableB (ds : List PyData) : Bool := ds.all isTup1 || ds.all fun d => nonone d && !isTupB d
theorem alikeB_all {ds : List PyData} (h : alikeB ds = true) : PySem.W.AllAlike ds := fun d hd d' hd' => (List.all_eq_true.mp (List.all_eq_true.mp h d hd)) d' hd'
theorem alikeB_of {ds : List PyData} (h : alikeB ds = true) (k : ds.all nonone = true) : PySem.W.AlikeAll ds := ⟨fun x hx y hy => alikeB_all h x hx y hy, fun x hx e => by
  have := List.all_eq_true.mp k x hx
  rw [e] at this; cases this⟩
theorem sortableB_of {ds : List PyData} (h : sortableB ds = true) : PySem.W.Sortable ds := by
  unfold sortableB at h
  rw [Bool.or_eq_true] at h
  rcases h with h | h
  · refine .inl fun d hd => ?_
    have := List.all_eq_true.mp h d hd
    cases d with
    | tuple l => cases l with
      | nil => cases this
      | cons x r => exact ⟨x, r, rfl⟩
    | _ => cases this
  · refine .inr fun d hd => ?_
    have := List.all_eq_true.mp h d hd
    rw [Bool.and_eq_true] at this
    refine ⟨fun e => by rw [e] at this; exact absurd this.1 (by decide), fun xs e => by rw [e] at this; exact absurd this.2 (by simp [isTupB])⟩
def pyAll (A : Hs) (l : List D) : Option (List PyData) := allSome (l.map (pyA A 40))
def oBest (gt : Bool) (x : D) (A : Hs) : RE D := match seqL A x with
  | some l => match pyAll A l with
    | some ds => if alikeB ds = true ∧ ds.all nonone = true ∧ 0 < ds.length then match l[bix gt ds]? with
      | some d => .ok d A
      | none => .stuck
      else .stuck
    | none => .stuck
  | none => .stuck
/-- min(xs, default=z) -/
def oMinDf (x z : D) (A : Hs) : RE D := match seqL A x with
  | some l => match pyAll A l with
    | some ds => if alikeB ds = true ∧ ds.all nonone = true then match ds with
      | [] => .ok z A
      | _ => match l[bix false ds]? with
        | some d => .ok d A
        | none => .stuck
      else .stuck
    | none => .stuck
  | none => .stuck
def mx : List Int → Int
  | [] => 0
  | [a] => a
  | a :: r => if mx r ≤ a then a else mx r
def oMaxKDf (x z : D) (A : Hs) : RE D := match x with
  | .ref i => match A[i]? with
    | some (.dic false false l) => match intsOf (l.map Prod.fst) with
      | some [] => .ok z A
      | some ns => .ok (.int (mx ns)) A
      | none => .stuck
    | _ => .stuck
  | _ => .stuck
def oSortD (x : D) (A : Hs) : RE D := match seqL A x with
  | some l => match pyAll A l with
    | some ds => if alikeB ds = true ∧ sortableB ds = true then alloc A (.lst (((l.zip ds).mergeSort (PySem.W.dataLe false Prod.snd)).map Prod.fst)) else .stuck
    | none => .stuck
  | none => .stuck
/-- a built-in called with one argument and one keyword -/
def eCK (f : D → D → Hs → RE D) (a b : E) : E := fun env A => (a env A).bind fun x A1 => (b env A1).bind fun y A2 => f x y A2
section
variable {K : PySem.W.Frag} {ca : CaT} {F F1 F2 H H1 H2 : Hp} {m m1 m2 : List Addr} {A A1 A2 : Hs} {W : WX} {ta tb : TE} {a b : E}
theorem py_all (R : Rl K ca F m A H) {vs : List V} {l : List D} {ds : List PyData} (h : RepL K ca F m vs l) (k : pyAll A l = some ds) : DpAll K H vs ds ∧ PyData.depthAll ds ≤ 60 := by
  obtain ⟨h1, _, h3⟩ := dp_all R (fun r e => dp_of R r e) h k
  exact ⟨h1, by omega⟩
theorem allSome_len {α : Type} : ∀ {l : List (Option α)} {r : List α}, allSome l = some r → l.length = r.length
  | [], r, h => by cases h; rfl
  | some a :: l, r, h => by
    unfold allSome at h
    obtain ⟨r', h1, rfl⟩ := Option.map_eq_some_iff.mp h
    rw [List.length_cons, List.length_cons, allSome_len h1]
  | none :: _, _, h => by cases h
theorem repL_map {α : Type} {f : α → V} {g : α → D} : ∀ {L : List α}, (∀ a ∈ L, Rep K ca F m (f a) (g a)) → RepL K ca F m (L.map f) (L.map g)
  | [], _ => .nil
  | a :: L, h => .cons (h a List.mem_cons_self) (repL_map fun b hb => h b (List.mem_cons_of_mem _ hb))
theorem repL_zip {γ : Type} : ∀ {vs : List V} {l : List D} {ds : List γ}, RepL K ca F m vs l → l.length = ds.length → ∃ L : List (V × D × γ), vs.zip ds = L.map (fun t => (t.1, t.2.2)) ∧ l.zip ds = L.map (fun t => t.2) ∧ ∀ t ∈ L, Rep K ca F m t.1 t.2.1
  | _, _, [], .nil, _ => ⟨[], rfl, rfl, fun _ h => (by cases h)⟩
  | _, _, d :: ds, .nil, h => by simp at h
  | _, _, [], .cons _ _, h => by simp at h
  | v :: vs, x :: l, d :: ds, .cons r rs, h => by
    obtain ⟨L, h1, h2, h3⟩ := repL_zip (ds := ds) rs (by simpa using h)
    exact ⟨(v, x, d) :: L, by rw [List.zip_cons_cons, h1]; rfl, by rw [List.zip_cons_cons, h2]; rfl, fun t ht => by
      rcases List.mem_cons.mp ht with e | ht
      · rw [e]; exact r
      · exact h3 t ht⟩
theorem sort_par {vs : List V} {l : List D} {ds : List PyData} (h : RepL K ca F m vs l) (hl : (l.map (pyA A 40)).length = ds.length) : RepL K ca F m (((vs.zip ds).mergeSort (PySem.W.dataLe false Prod.snd)).map Prod.fst) (((l.zip ds).mergeSort (PySem.W.dataLe false Prod.snd)).map Prod.fst) := by
  obtain ⟨L, h1, h2, h3⟩ := repL_zip (ds := ds) h (by rw [← hl, List.length_map])
  have m1 : (L.mergeSort (PySem.W.dataLe false fun t => t.2.2)).map (fun t => (t.1, t.2.2)) = (vs.zip ds).mergeSort (PySem.W.dataLe false Prod.snd) := by
    rw [h1]
    exact List.map_mergeSort fun a _ b _ => rfl
  have m2 : (L.mergeSort (PySem.W.dataLe false fun t => t.2.2)).map (fun t => t.2) = (l.zip ds).mergeSort (PySem.W.dataLe false Prod.snd) := by
    rw [h2]
    exact List.map_mergeSort fun a _ b _ => rfl
  rw [← m1, ← m2, List.map_map, List.map_map]
  exact repL_map fun t ht => h3 t (List.mem_mergeSort.mp ht)
theorem cs_best {gt : Bool} : CbS K ca (rBest K gt) (c1 (oBest gt)) := cs_1 fun F m A H x dx W σ Q R rx p => by
  unfold oBest at p
  split at p
  · rename_i l hl
    split at p
    · rename_i ds hd
      split at p
      · rename_i hc
        split at p
        · rename_i d hx
          obtain ⟨ad, vs, e, h3, h4⟩ := seqL_at R rx hl
          subst e
          obtain ⟨h5, h6⟩ := py_all R h4 hd
          refine ⟨ad, vs, ds, rfl, h3, h5, alikeB_of hc.1 hc.2.1, h6, hc.2.2, fun v hv => ?_⟩
          obtain ⟨v', e1, e2⟩ := h4.get hx
          rw [hv] at e1; cases e1
          exact po_ok R e2 p
        · exact p.elim
      · exact p.elim
    · exact p.elim
  · exact p.elim
theorem cs_sortD : CbS K ca (rSortD K) (c1 oSortD) := cs_1 fun F m A H x dx W σ Q R rx p => by
  unfold oSortD at p
  split at p
  · rename_i l hl
    split at p
    · rename_i ds hd
      split at p
      · rename_i hc
        obtain ⟨ad, vs, e, h3, h4⟩ := seqL_at R rx hl
        subst e
        obtain ⟨h5, h6⟩ := py_all R h4 hd
        refine ⟨ad, vs, ds, rfl, h3, h5, alikeB_all hc.1, sortableB_of hc.2, h6, fun q hq => ?_⟩
        refine po_alloc (o := .lst (((l.zip ds).mergeSort (PySem.W.dataLe false Prod.snd)).map Prod.fst)) R hq ⟨_, upd_same, ?_⟩ p
        have big : RepL K ca F m (((vs.zip ds).mergeSort (PySem.W.dataLe false Prod.snd)).map Prod.fst) (((l.zip ds).mergeSort (PySem.W.dataLe false Prod.snd)).map Prod.fst) := by
          exact sort_par h4 (allSome_len hd)
        exact big.mono (Ex.refl _) ⟨_, rfl⟩
      · exact p.elim
    · exact p.elim
  · exact p.elim
theorem se_ck {r : List V → List V → Hp → VK → Prop} {o : D → D → Hs → RE D} (h : ∀ F m A H x y dx dy W σ Q, Rl K ca F m A H → Rep K ca F m x dx → Rep K ca F m y dy → Po K ca (Rep K ca) F m H W σ Q (o dx dy A) → r [x] [y] H Q) (ha : SimE K ca W ta a) (hb : SimE K ca W tb b) : SimE K ca W (tCKw r (tCons ta tNil) (tCons tb tNil)) (eCK o a b) := fun F m A σ H env Q R S p =>
  ha.bind R S p fun F1 m1 A1 H1 x dx R1 g1 S1 rx p1 => hb.bind R1 S1 p1 fun F2 m2 A2 H2 y dy R2 g2 S2 ry p2 => h F2 m2 A2 H2 x y dx dy W σ Q R2 (rx.mono g2.ff g2.mm) ry p2
theorem ck_minDf : ∀ F m A H x y dx dy W σ Q, Rl K ca F m A H → Rep K ca F m x dx → Rep K ca F m y dy → Po K ca (Rep K ca) F m H W σ Q (oMinDf dx dy A) → rMinDf K [x] [y] H Q := fun F m A H x y dx dy W σ Q R rx ry p => by
  unfold oMinDf at p
  split at p
  · rename_i l hl
    split at p
    · rename_i ds hd
      split at p
      · rename_i hc
        obtain ⟨ad, vs, e, h3, h4⟩ := seqL_at R rx hl
        subst e
        obtain ⟨h5, h6⟩ := py_all R h4 hd
        refine ⟨ad, vs, ds, y, rfl, rfl, h3, h5, alikeB_of hc.1 hc.2, h6, fun e => ?_, fun hp v hv => ?_⟩
        · subst e
          exact po_ok R ry p
        · cases ds with
          | nil => exact absurd hp (Nat.lt_irrefl 0)
          | cons d0 dr =>
            simp only at p
            split at p
            · rename_i d hx
              obtain ⟨v', e1, e2⟩ := h4.get hx
              rw [hv] at e1; cases e1
              exact po_ok R e2 p
            · exact p.elim
      · exact p.elim
    · exact p.elim
  · exact p.elim
end
end SM

/-! ## dicts with tuple keys: values(), items(), pop; setdefault; what no run reaches -/
namespace L2
open PySem PySem.Spec PyProof.Rows
section
variable {X : Cx} {pins : List (Addr × Obj)} {σ : St} {H : Hp} {s : Shared} {d : Addr} {o : Obj}
end
section
variable {P : Program} {w : World} {K : PySem.W.Frag} {tg : Expr} {d : Addr} {o : Obj} {es : Array DictEntry} {ep : Nat}
end
section
variable {X : Cx} {tg e : Expr} {td : TE} {apos cpos : Pos}
end
end L2
namespace DT
open PySem PySem.W PySem.Calls PyProof.Rows PyProof.V PySem.Spec
section
variable {K : Type} [DecidableEq K] {prog : Program} {w : World} {knd : HeapKind prog w K} {A : Around} {E : Value → Shared → Prop} {s : Shared}
end
end DT
namespace L2
open PySem PySem.Spec PyProof.Rows
end L2
namespace SM
open PySem L2
open DL (Ex ExK)
section
variable {K : PySem.W.Frag} {ca : CaT} {F F1 F2 H H1 H2 : Hp} {m m1 m2 : List Addr} {A A1 A2 : Hs} {σ : L2.St} {env : Sl} {W : WX} {Q : VK}
variable {to ti ta tb tc te tz : TE} {a b c e : E} {i : Nat} {d : D} {ts : TA} {as : As} {x y : V} {dx dy : D}
/-! walks -/
def wkVT : Hs → D → Option Wk := wdA fun t l => if t = true then some (l.map Prod.snd) else none
def wkIT : Hs → D → Option Wk := wdA fun t l => if t = true then some (l.map fun p => .tup [p.1, p.2]) else none
/-! pop -/
def oDPopT (x y : D) (A : Hs) : RE D := match x with
  | .ref i => match A[i]? with
    | some (.dic true false l) => if keyOk true y = true then match kget l y with
      | some d => .ok d (A.set i (.dic true false (kdel l y)))
      | none => .stuck
      else .stuck
    | _ => .stuck
  | _ => .stuck
def oDPopT2 (x y z : D) (A : Hs) : RE D := match x with
  | .ref i => match A[i]? with
    | some (.dic true false l) => if keyOk true y = true then match kget l y with
      | some d => .ok d (A.set i (.dic true false (kdel l y)))
      | none => .ok z A
      else .stuck
    | _ => .stuck
  | _ => .stuck
def isDicU (A : Hs) : D → Bool
  | .ref i => match A[i]? with
    | some (.dic _ false _) => true
    | _ => false
  | _ => false
def eBD (o : D → List D → Hs → RE D) (a : E) (as : As) : E := fun env A => (a env A).bind fun x A1 => if isDicU A1 x = true then (as env A1).bind fun ds A2 => o x ds A2 else .stuck
def d1_ (f : D → D → Hs → RE D) (x : D) : List D → Hs → RE D
  | [y], A => f x y A
  | _, _ => .stuck
def d2_ (f : D → D → D → Hs → RE D) (x : D) : List D → Hs → RE D
  | [y, z], A => f x y z A
  | _, _ => .stuck
/-! setdefault -/
def oDSetd (x y z : D) (A : Hs) : RE D := match x with
  | .ref i => match A[i]? with
    | some (.dic false false l) => if (keyK y).isSome = true ∧ l.length < sizeLine then match kget l y with
      | some d => .ok d A
      | none => .ok z (A.set i (.dic false false (kput l y z)))
      else .stuck
    | _ => .stuck
  | _ => .stuck
def eDSetd (a b c : E) : E := fun env A => (a env A).bind fun x A1 => if isDic A1 x then (b env A1).bind fun y A2 => (c env A2).bind fun z A3 => oDSetd x y z A3 else .stuck
/-! list(d) -/
def oListT (x : D) (A : Hs) : RE D := match x with
  | .ref i => match A[i]? with
    | some (.dic true _ l) => alloc A (.lst (l.map Prod.fst))
    | _ => .stuck
  | _ => .stuck
end
/-! for plain proofs -/
section
variable {A : Hs} {i : Nat} {env : Sl} {x y z d : D} {t lk gt : Bool} {l : List (D × D)} {a b c : E} {as : As} {ds : List D} {o : D → List D → Hs → RE D} {o2 : D → D → Hs → RE D}
theorem z6y : wkVT A (.ref i) = wd_ A i (fun t l => if t = true then some (l.map Prod.snd) else none) A[i]? := rfl
theorem z77 : wkIT A (.ref i) = wd_ A i (fun t l => if t = true then some (l.map fun p => .tup [p.1, p.2]) else none) A[i]? := rfl
theorem zat : eBD o a as env A = (a env A).bind fun x A1 => if isDicU A1 x = true then (as env A1).bind fun ds A2 => o x ds A2 else .stuck := rfl
def idu_ : Option O → Bool
  | some (.dic _ false _) => true
  | _ => false
theorem z2l : isDicU A (.ref i) = idu_ A[i]? := by
  unfold isDicU idu_
  cases h : A[i]? with
  | none => simp only [h]
  | some u =>
    simp only [h] <;> (cases u with
    | dic t lk l => cases lk <;> rfl
    | _ => rfl)
theorem z9d : idu_ (some (.dic t false l)) = true := rfl
theorem zap {f : D → D → Hs → RE D} : d1_ f x [y] A = f x y A := rfl
theorem zbl {f : D → D → D → Hs → RE D} : d2_ f x [y, z] A = f x y z A := rfl
def dpT_ (A : Hs) (i : Nat) (y : D) : Option O → RE D
  | some (.dic true false l) => if keyOk true y = true then match kget l y with
    | some d => .ok d (A.set i (.dic true false (kdel l y)))
    | none => .stuck
    else .stuck
  | _ => .stuck
theorem z20 : oDPopT (.ref i) y A = dpT_ A i y A[i]? := by
  unfold oDPopT dpT_
  cases h : A[i]? with
  | none => simp only [h]
  | some u =>
    simp only [h] <;> (cases u with
    | dic t lk l => cases t <;> cases lk <;> rfl
    | _ => rfl)
theorem z8s {d : D} (hk : keyOk true y = true) (h : kget l y = some d) : dpT_ A i y (some (.dic true false l)) = .ok d (A.set i (.dic true false (kdel l y))) := by
  unfold dpT_
  simp only
  rw [if_pos hk, h]
def dpT2_ (A : Hs) (i : Nat) (y z : D) : Option O → RE D
  | some (.dic true false l) => if keyOk true y = true then match kget l y with
    | some d => .ok d (A.set i (.dic true false (kdel l y)))
    | none => .ok z A
    else .stuck
  | _ => .stuck
theorem z0w : oDPopT2 (.ref i) y z A = dpT2_ A i y z A[i]? := by
  unfold oDPopT2 dpT2_
  cases h : A[i]? with
  | none => simp only [h]
  | some u =>
    simp only [h] <;> (cases u with
    | dic t lk l => cases t <;> cases lk <;> rfl
    | _ => rfl)
theorem z7o {d : D} (hk : keyOk true y = true) (h : kget l y = some d) : dpT2_ A i y z (some (.dic true false l)) = .ok d (A.set i (.dic true false (kdel l y))) := by
  unfold dpT2_
  simp only
  rw [if_pos hk, h]
theorem z5y (hk : keyOk true y = true) (h : kget l y = none) : dpT2_ A i y z (some (.dic true false l)) = .ok z A := by
  unfold dpT2_
  simp only
  rw [if_pos hk, h]
theorem z36 : eDSetd a b c env A = (a env A).bind fun x A1 => if isDic A1 x = true then (b env A1).bind fun y A2 => (c env A2).bind fun z A3 => oDSetd x y z A3 else .stuck := rfl
def dsd_ (A : Hs) (i : Nat) (y z : D) : Option O → RE D
  | some (.dic false false l) => if (keyK y).isSome = true ∧ l.length < sizeLine then match kget l y with
    | some d => .ok d A
    | none => .ok z (A.set i (.dic false false (kput l y z)))
    else .stuck
  | _ => .stuck
theorem z2a : oDSetd (.ref i) y z A = dsd_ A i y z A[i]? := by
  unfold oDSetd dsd_
  cases h : A[i]? with
  | none => simp only [h]
  | some u =>
    simp only [h] <;> (cases u with
    | dic t lk l => cases t <;> cases lk <;> rfl
    | _ => rfl)
theorem z9s {d : D} (hk : (keyK y).isSome = true) (hl : l.length < 16000000) (h : kget l y = some d) : dsd_ A i y z (some (.dic false false l)) = .ok d A := by
  unfold dsd_
  simp only
  rw [if_pos ⟨hk, Nat.lt_of_lt_of_le hl (by rw [sizeLine_eq]; decide)⟩, h]
theorem z9b (hk : (keyK y).isSome = true) (hl : l.length < 16000000) (h : kget l y = none) : dsd_ A i y z (some (.dic false false l)) = .ok z (A.set i (.dic false false (kput l y z))) := by
  unfold dsd_
  simp only
  rw [if_pos ⟨hk, Nat.lt_of_lt_of_le hl (by rw [sizeLine_eq]; decide)⟩, h]
theorem zb5 : eCK o2 a b env A = (a env A).bind fun x A1 => (b env A1).bind fun y A2 => o2 x y A2 := rfl
def mxd_ (z : D) (A : Hs) : Option O → RE D
  | some (.dic false false l) => match intsOf (l.map Prod.fst) with
    | some [] => .ok z A
    | some ns => .ok (.int (mx ns)) A
    | none => .stuck
  | _ => .stuck
theorem z19 : oMaxKDf (.ref i) z A = mxd_ z A A[i]? := by
  unfold oMaxKDf mxd_
  cases h : A[i]? with
  | none => simp only [h]
  | some u =>
    simp only [h] <;> (cases u with
    | dic t lk l => cases t <;> cases lk <;> first | rfl | (simp only; cases intsOf (l.map Prod.fst) with | none => rfl | some ns => cases ns <;> rfl)
    | _ => rfl)
theorem z9g : mxd_ z A (some (.dic false false [])) = .ok z A := rfl
theorem za0 {ns : List Int} (h : l.map Prod.fst = ns.map D.int) (hn : ns ≠ []) : mxd_ z A (some (.dic false false l)) = .ok (.int (mx ns)) A := by
  unfold mxd_
  simp only
  rw [h, z0a]
  cases ns with
  | nil => exact absurd rfl hn
  | cons n ns => rfl
def lT_ (A : Hs) : Option O → RE D
  | some (.dic true _ l) => .ok (.ref A.length) (A ++ [.lst (l.map Prod.fst)])
  | _ => .stuck
theorem z1s : oListT (.ref i) A = lT_ A A[i]? := by
  unfold oListT lT_
  cases h : A[i]? with
  | none => simp only [h]
  | some u =>
    simp only [h] <;> (cases u with
    | dic t lk l => cases t <;> cases lk <;> rfl
    | _ => rfl)
theorem zb6 : lT_ A (some (.dic true lk l)) = .ok (.ref A.length) (A ++ [.lst (l.map Prod.fst)]) := rfl
end
end SM

/-! ## dicts with tuple keys: setdefault -/
namespace L2
open PySem PySem.Spec PySem.Calls PyProof.Rows PyProof.V
end L2
namespace SM
open PySem L2
open DL (Ex ExK)
section
variable {K : PySem.W.Frag} {ca : CaT} {F : Hp} {H : Hp} {m : List Addr} {A : Hs} {σ : L2.St} {env : Sl} {W : WX} {Q : VK} {i : Nat} {d x y z : D} {l : List (D × D)}
def oDSetdT (x y z : D) (A : Hs) : RE D := match x with
  | .ref i => match A[i]? with
    | some (.dic true false l) => if keyOk true y = true ∧ l.length < sizeLine then match kget l y with
      | some d => .ok d A
      | none => .ok z (A.set i (.dic true false (kput l y z)))
      else .stuck
    | _ => .stuck
  | _ => .stuck
def dst_ (A : Hs) (i : Nat) (y z : D) : Option O → RE D
  | some (.dic true false l) => if keyOk true y = true ∧ l.length < sizeLine then match kget l y with
    | some d => .ok d A
    | none => .ok z (A.set i (.dic true false (kput l y z)))
    else .stuck
  | _ => .stuck
theorem z1a : oDSetdT (.ref i) y z A = dst_ A i y z A[i]? := by
  unfold oDSetdT dst_
  cases h : A[i]? with
  | none => simp only [h]
  | some u =>
    simp only [h] <;> (cases u with
    | dic t lk l => cases t <;> cases lk <;> rfl
    | _ => rfl)
theorem z9u {d : D} (hk : keyOk true y = true) (hl : l.length < 16000000) (h : kget l y = some d) : dst_ A i y z (some (.dic true false l)) = .ok d A := by
  unfold dst_
  simp only
  rw [if_pos ⟨hk, Nat.lt_of_lt_of_le hl (by rw [sizeLine_eq]; decide)⟩, h]
theorem z9r (hk : keyOk true y = true) (hl : l.length < 16000000) (h : kget l y = none) : dst_ A i y z (some (.dic true false l)) = .ok z (A.set i (.dic true false (kput l y z))) := by
  unfold dst_
  simp only
  rw [if_pos ⟨hk, Nat.lt_of_lt_of_le hl (by rw [sizeLine_eq]; decide)⟩, h]
end
end SM

/-! ## d.update(pairs) -/
namespace L2
open PySem PySem.Spec PySem.Calls PyProof.Rows PyProof.V
end L2
namespace SM
open PySem L2
open DL (Ex ExK)
section
variable {K : PySem.W.Frag} {ca : CaT} {F : Hp} {H : Hp} {m : List Addr} {A : Hs} {σ : L2.St} {env : Sl} {W : WX} {Q : VK} {i j : Nat} {d x y z : D} {l : List (D × D)}
def oUpdK (x y : D) (A : Hs) : RE D := match x, y with
  | .ref i, .ref j => match A[i]?, A[j]? with
    | some (.dic false false l), some (.lst r) => match pairsD r with
      | some qs => if l.length + qs.length ≤ sizeLine then .ok .non (A.set i (.dic false false (kmerge l qs))) else .stuck
      | none => .stuck
    | _, _ => .stuck
  | _, _ => .stuck
def up_ (A : Hs) (i : Nat) : Option O → Option O → RE D
  | some (.dic false false l), some (.lst r) => match pairsD r with
    | some qs => if l.length + qs.length ≤ sizeLine then .ok .non (A.set i (.dic false false (kmerge l qs))) else .stuck
    | none => .stuck
  | _, _ => .stuck
theorem z41 : oUpdK (.ref i) (.ref j) A = up_ A i A[i]? A[j]? := by
  unfold oUpdK up_
  cases h : A[i]? with
  | none => simp only [h]
  | some u =>
    cases k : A[j]? with
    | none => simp only [h, k]
    | some w => simp only [h, k] <;> first | done | (cases u with
      | dic t lk l => cases t <;> cases lk <;> cases w <;> rfl
      | _ => cases w <;> rfl)
theorem zc0 {r : List D} {qs : List (D × D)} (h : pairsD r = some qs) (hl : l.length + qs.length ≤ 16000000) : up_ A i (some (.dic false false l)) (some (.lst r)) = .ok .non (A.set i (.dic false false (kmerge l qs))) := by
  unfold up_
  simp only
  rw [h]
  simp only
  rw [if_pos (Nat.le_trans hl (by rw [sizeLine_eq]; decide))]
end
end SM

/-! ## walks within walks of one dict -/
namespace SM
open PySem L2
open DL (Ex ExK)
theorem ps_lockN {X : Cx} {st : Stmt} {t : TS} (h : PS X st t) : PS X st (fun D σ H => tLock t D σ H ∨ t D σ H) := PS.or (ps_lock h) h
theorem pe_lockN {X : Cx} {e : Expr} {t : TE} (h : PE X e t) : PE X e (fun σ H Q => tLockE t σ H Q ∨ t σ H Q) := PE.or (pe_lock h) h
def isLk (A : Hs) : Option Nat → Bool
  | some i => match A[i]? with
    | some (.dic _ true _) => true
    | _ => false
  | none => false
def sLkN (x : E) (f : S) : S := fun env A => if isLk A (pkR (x env A)) = true then f env A else sLk x f env A
def eLkN (x : E) (f : E) : E := fun env A => if isLk A (pkR (x env A)) = true then f env A else eLk x f env A
section
variable {K : PySem.W.Frag} {ca : CaT} {W : WX}
theorem ss_lkN {t : TS} {f : S} {x : E} (h : SimS K ca W t f) : SimS K ca W (fun D σ H => tLock t D σ H ∨ t D σ H) (sLkN x f) := fun F m A σ H env Dn R S p => by
  unfold sLkN at p
  by_cases q : isLk A (pkR (x env A)) = true
  · rw [if_pos q] at p
    exact .inr (h F m A σ H env Dn R S p)
  · rw [if_neg q] at p
    exact .inl (ss_lk h F m A σ H env Dn R S p)
theorem se_lkN {t : TE} {f x : E} (h : SimE K ca W t f) : SimE K ca W (fun σ H Q => tLockE t σ H Q ∨ t σ H Q) (eLkN x f) := fun F m A σ H env Q R S p => by
  unfold eLkN at p
  by_cases q : isLk A (pkR (x env A)) = true
  · rw [if_pos q] at p
    exact .inr (h F m A σ H env Q R S p)
  · rw [if_neg q] at p
    exact .inl (se_lk h F m A σ H env Q R S p)
end
section
variable {x : E} {f : S} {g : E} {env : Sl} {A : Hs} {i : Nat} {t b : Bool} {l : List (D × D)}
def lkb_ : Option O → Bool
  | some (.dic _ true _) => true
  | _ => false
theorem z5i : isLk A (some i) = lkb_ A[i]? := by
  unfold isLk lkb_
  cases h : A[i]? with
  | none => simp only [h]
  | some u => simp only [h] <;> first | done | (cases u with
    | dic t lk l => cases lk <;> rfl
    | _ => rfl)
theorem z9a : lkb_ (some (.dic t b l)) = b := by cases b <;> rfl
theorem z7z : sLkN x f env A = if isLk A (pkR (x env A)) = true then f env A else sLk x f env A := rfl
theorem z8l : eLkN x g env A = if isLk A (pkR (x env A)) = true then g env A else eLk x g env A := rfl
end
end SM

namespace SM
open PySem L2
open DL (Ex ExK)
def rLenL (K : PySem.W.Frag) : List V → Hp → VK → Prop := fun xs H Q => DL.rLenU K xs H Q ∨ ∃ (a : Addr) (o : Obj) (kvs : List (Key × V)), xs = [V.ref a] ∧ H a = some (.frz o (.dK kvs)) ∧ Q (.int kvs.length) H
theorem call_lenF {X : Cx} : CallR X (.builtin "len") (fun xs H Q => ∃ (a : Addr) (o : Obj) (kvs : List (Key × V)), xs = [V.ref a] ∧ H a = some (.frz o (.dK kvs)) ∧ Q (.int kvs.length) H) := by
  intro pins s σ H xs us Q I r h
  obtain ⟨a, o, kvs, rfl, ha, q⟩ := h
  obtain ⟨u, rfl, ru⟩ := vals1 r
  cases ru
  exact d_len I (.inr ⟨o, ha⟩) fun t s' I' => ⟨.int kvs.length, H, I', ⟨t, rfl⟩, q⟩
theorem call_lenL {X : Cx} {K : PySem.W.Frag} (e : X.K = K := by rfl) : CallR X (.builtin "len") (rLenL K) := CallR.or (DL.call_lenU e) call_lenF
def oLenL (x : D) (A : Hs) : RE D := match x with
  | .ref i => match A[i]? with
    | some (.dic false true l) => .ok (.int (l.length : Int)) A
    | _ => oLen x A
  | _ => oLen x A
section
variable {K : PySem.W.Frag} {ca : CaT} {A : Hs} {i : Nat} {l : List (D × D)}
theorem cs_lenL : CbS K ca (rLenL K) (c1 oLenL) := fun F m A H vs ds W σ Q R rs p => by
  by_cases q : ∃ i l, ds = [.ref i] ∧ A[i]? = some (.dic false true l)
  · obtain ⟨i, l, rfl, hA⟩ := q
    have p : Po K ca (Rep K ca) F m H W σ Q (oLenL (.ref i) A) := p
    unfold oLenL at p
    simp only [hA] at p
    cases rs with
    | cons rx t =>
      cases t
      obtain ⟨a, e, ha, kvs, ⟨od, h1⟩, h2⟩ := R.at hA rx
      subst e
      refine .inr ⟨a, od, kvs, rfl, h1, ?_⟩
      rw [h2.length]
      exact po_ok R (Rep.int _) p
  · refine .inl (cs_len F m A H vs ds W σ Q R rs ?_)
    have e : c1 oLenL ds A = c1 oLen ds A := by
      match ds with
      | [] => rfl
      | _ :: _ :: _ => rfl
      | [x] =>
        show oLenL x A = oLen x A
        unfold oLenL
        cases x with
        | ref i =>
          simp only
          split
          · rename_i l hA
            exact absurd ⟨i, l, rfl, hA⟩ q
          · rfl
        | _ => rfl
    rw [← e]
    exact p
def lnL_ (A : Hs) (i : Nat) : Option O → RE D
  | some (.dic false true l) => .ok (.int (l.length : Int)) A
  | _ => oLen (.ref i) A
theorem z37 : oLenL (.ref i) A = lnL_ A i A[i]? := rfl
theorem z8g : lnL_ A i (some (.dic false true l)) = .ok (.int (l.length : Int)) A := rfl
theorem z7y : lnL_ A i (some (.dic false false l)) = oLen (.ref i) A := rfl
theorem z8a {k : List D} : lnL_ A i (some (.lst k)) = oLen (.ref i) A := rfl
theorem z4w {k : List D} : oLenL (.tup k) A = oLen (.tup k) A := rfl
theorem z3o {k : List D} : oLenL (.scr k) A = oLen (.scr k) A := rfl
end
end SM

/-! ## dicts whose keys are nested tuples of ints (PND) -/
namespace SM
open PySem L2
open DL (Ex ExK)
mutual
def nkD : D → Option NestedKey
  | .int i => some (.num i)
  | .non => some .none
  | .tup l => (nkDs l).map .tup
  | _ => none
def nkDs : List D → Option (List NestedKey)
  | [] => some []
  | d :: r => match nkD d, nkDs r with
    | some k, some ks => some (k :: ks)
    | _, _ => none
end
/-- a tuple as a key -/
def keyN (d : D) : Option NestedKey := match d with
  | .tup l => match nkDs l with
    | some ks => if NestedKey.depthAll ks ≤ 7 then some (.tup ks) else none
    | none => none
  | _ => none
def nAt (A : Hs) (x : D) : Option (List (NestedKey × D)) := match x with
  | .ref i => match A[i]? with
    | some (.nd l) => some l
    | _ => none
  | _ => none
def nget (l : List (NestedKey × D)) (k : NestedKey) : Option D := (l.find? fun e => decide (e.1 = k)).map (·.2)
def nput (l : List (NestedKey × D)) (k : NestedKey) (d : D) : List (NestedKey × D) :=
  if (nget l k).isSome then l.map fun x => if x.1 = k then (x.1, d) else x else l ++ [(k, d)]
def eNNew : E := fun _ A => alloc A (.nd [])
def oNIn (neg : Bool) (y x : D) (A : Hs) : RE D := match nAt A x, keyN y with
  | some l, some k => .ok (.bl (if neg then !(nget l k).isSome else (nget l k).isSome)) A
  | _, _ => .stuck
def oNGet (x y : D) (A : Hs) : RE D := match nAt A x, keyN y with
  | some l, some k => match nget l k with
    | some d => .ok d A
    | none => .stuck
  | _, _ => .stuck
def oNGetD (x y z : D) (A : Hs) : RE D := match nAt A x, keyN y with
  | some l, some k => .ok ((nget l k).getD z) A
  | _, _ => .stuck
def eNGet1 (o i : E) : E := fun env A => (o env A).bind fun x A1 => if (nAt A1 x).isSome then (i env A1).bind fun y A2 => oNGetD x y .non A2 else .stuck
def eNGet2 (o i e : E) : E := fun env A => (o env A).bind fun x A1 => if (nAt A1 x).isSome then (i env A1).bind fun y A2 => (e env A2).bind fun z A3 => oNGetD x y z A3 else .stuck
def nPut (A : Hs) (x y v : D) : Option Hs := match x, nAt A x, keyN y with
  | .ref i, some l, some k => if l.length < sizeLine then some (A.set i (.nd (nput l k v))) else none
  | _, _, _ => none
def sNPutF (o i a : E) : S := fun env A => ofE env (a env A) fun v A1 => ofE env (o env A1) fun x A2 => ofE env (i env A2) fun y A3 => ofH env (nPut A3 x y v)
section
variable {K : PySem.W.Frag} {ca : CaT} {F F1 F2 H H1 H2 : Hp} {m m1 m2 : List Addr} {A A1 A2 : Hs} {σ : L2.St} {env : Sl} {W : WX} {Q : VK}
variable {ti to ta tz : TE} {o a b e : E} {i : Nat} {x y v : V} {dx dy d : D} {l : List (NestedKey × D)} {k : NestedKey} {kvs : List (NestedKey × Addr × V)}
end
/-! equations -/
section
variable {A : Hs} {env : Sl} {o a b e : E} {i : Nat} {d y z v : D} {l : List (NestedKey × D)} {k k' : NestedKey} {neg : Bool}
theorem z6f : eNNew env A = .ok (.ref A.length) (A ++ [.nd []]) := rfl
theorem z4n : eNGet1 o a env A = (o env A).bind fun x A1 => if (nAt A1 x).isSome then (a env A1).bind fun y A2 => oNGetD x y .non A2 else .stuck := rfl
theorem z48 : eNGet2 o a e env A = (o env A).bind fun x A1 => if (nAt A1 x).isSome then (a env A1).bind fun y A2 => (e env A2).bind fun z A3 => oNGetD x y z A3 else .stuck := rfl
theorem z4z : sNPutF o b a env A = ofE env (a env A) fun v A1 => ofE env (o env A1) fun x A2 => ofE env (b env A2) fun y A3 => ofH env (nPut A3 x y v) := rfl
def nd_ : Option O → Option (List (NestedKey × D))
  | some (.nd l) => some l
  | _ => none
theorem z9v : nAt A (.ref i) = nd_ A[i]? := by
  unfold nAt nd_
  simp only
theorem zbm : nd_ (some (.nd l)) = some l := rfl
def ndi_ (A : Hs) (k : Option NestedKey) (neg : Bool) : Option (List (NestedKey × D)) → RE D
  | some l => match k with
    | some k => .ok (.bl (if neg then !(nget l k).isSome else (nget l k).isSome)) A
    | none => .stuck
  | none => .stuck
theorem z5l : oNIn neg y (.ref i) A = ndi_ A (keyN y) neg (nd_ A[i]?) := by
  unfold oNIn ndi_; rw [z9v]
  cases nd_ A[i]? <;> cases keyN y <;> rfl
theorem z8m : ndi_ A (some k) neg (some l) = .ok (.bl (if neg then !(nget l k).isSome else (nget l k).isSome)) A := rfl
def ndg_ (A : Hs) (k : Option NestedKey) : Option (List (NestedKey × D)) → RE D
  | some l => match k with
    | some k => at_ A (nget l k)
    | none => .stuck
  | none => .stuck
theorem z57 : oNGet (.ref i) y A = ndg_ A (keyN y) (nd_ A[i]?) := by
  unfold oNGet ndg_; rw [z9v]
  cases nd_ A[i]? with
  | none => cases keyN y <;> rfl
  | some l =>
    cases keyN y with
    | none => rfl
    | some k => simp only; unfold at_; cases nget l k <;> rfl
theorem z93 : ndg_ A (some k) (some l) = at_ A (nget l k) := rfl
def ndd_ (A : Hs) (k : Option NestedKey) (z : D) : Option (List (NestedKey × D)) → RE D
  | some l => match k with
    | some k => .ok ((nget l k).getD z) A
    | none => .stuck
  | none => .stuck
theorem z2i : oNGetD (.ref i) y z A = ndd_ A (keyN y) z (nd_ A[i]?) := by
  unfold oNGetD ndd_; rw [z9v]
  cases nd_ A[i]? <;> cases keyN y <;> rfl
theorem z82 : ndd_ A (some k) z (some l) = .ok ((nget l k).getD z) A := rfl
def ndp_ (A : Hs) (i : Nat) (k : Option NestedKey) (v : D) : Option (List (NestedKey × D)) → Option Hs
  | some l => match k with
    | some k => if l.length < sizeLine then some (A.set i (.nd (nput l k v))) else none
    | none => none
  | none => none
theorem z6b : nPut A (.ref i) y v = ndp_ A i (keyN y) v (nd_ A[i]?) := by
  unfold nPut ndp_; rw [z9v]
  cases nd_ A[i]? <;> cases keyN y <;> rfl
theorem z8k (h : l.length < 16000000) : ndp_ A i (some k) v (some l) = some (A.set i (.nd (nput l k v))) := if_pos (Nat.lt_of_lt_of_le h (by rw [sizeLine_eq]; decide))
end
end SM
namespace DL
open PySem L2
section
variable {X : Cx} {k j : Nat} {x : Str} {C : Addr} {sp : Sp} {p pos : Pos}
end
end DL
namespace SM
open PySem L2
/-- a module's own tuple of texts -/
def KTplS (K : PySem.W.Frag) (a : Addr) (ns : List Str) : Prop := ∃ (o : Obj) (its : Array Value) (n : Nat), K.lookup a = some o ∧ o.cls = .type "tuple" ∧ o.data = .seq its n ∧ its.size ≤ sizeLine ∧ Vals (ns.map V.str) its.toList
theorem repL_strs {K : PySem.W.Frag} {ca : CaT} {F : Hp} {m : List Addr} : ∀ ns : List Str, RepL K ca F m (ns.map V.str) (ns.map D.str)
  | [] => .nil
  | n :: ns => .cons (.str n) (repL_strs ns)
theorem KTplS.rep {K : PySem.W.Frag} {ca : CaT} {a : Addr} {ns : List Str} {ts : List String} (e : ts.map fS = ns) (h : KTplS K a ns) (F : Hp) (m : List Addr) : Rep K ca F m (.ref a) (.wt (ts.map dS)) := by
  have : ts.map dS = ns.map D.str := by rw [← e, List.map_map]; rfl
  rw [this]
  exact .wt (.inr h) (repL_strs ns)
end SM

/-! ## dict(pairs) where the keys are nested tuples -/
namespace L2
open PySem PySem.Spec PySem.Calls PyProof.Rows PyProof.V
end L2
namespace SM
open PySem L2
open DL (Ex ExK)
def pairsN : List D → Option (List (NestedKey × D))
  | [] => some []
  | .tup [k, v] :: r => match keyN k, pairsN r with
    | some kk, some ps => some ((kk, v) :: ps)
    | _, _ => none
  | _ => none
def nputs (acc ps : List (NestedKey × D)) : List (NestedKey × D) := ps.foldl (fun acc e => nput acc e.1 e.2) acc
def oDictN (x : D) (A : Hs) : RE D := match x with
  | .ref i => match A[i]? with
    | some (.lst l) => match pairsN l with
      | some ps => if l.length ≤ sizeLine then alloc A (.nd (nputs [] ps)) else .stuck
      | none => .stuck
    | _ => .stuck
  | _ => .stuck
section
variable {K : PySem.W.Frag} {ca : CaT} {F F1 F2 H H1 H2 : Hp} {m m1 m2 : List Addr} {A A1 A2 : Hs} {W : WX} {te : TE} {a : E}
end
section
variable {A : Hs} {i : Nat} {l : List D} {ps : List (NestedKey × D)}
def odn_ (A : Hs) : Option O → RE D
  | some (.lst l) => match pairsN l with
    | some ps => if l.length ≤ sizeLine then .ok (.ref A.length) (A ++ [.nd (nputs [] ps)]) else .stuck
    | none => .stuck
  | _ => .stuck
theorem z1t : oDictN (.ref i) A = odn_ A A[i]? := by
  unfold oDictN odn_
  cases h : A[i]? with
  | none => simp only [h]
  | some o => cases o <;> simp only [h] <;> first | rfl | (rename_i l; cases pairsN l <;> rfl)
end
end SM

/-! ## zip of two lists; <= of tuples of ints -/
namespace L2
open PySem PySem.Spec PyProof.Rows
end L2
namespace SM
open PySem L2
section
variable {K : PySem.W.Frag} {ca : CaT} {W : WX} {F H : Hp} {m : List Addr} {A B : Hs} {ts : TA} {as : As}
def leT (ns ms : List Int) : Bool := Ob.lexAt (fun j => decide (ns.getD j 0 = ms.getD j 0)) (fun j => decide (ns.getD j 0 ≤ ms.getD j 0)) (decide (ns.length ≤ ms.length)) 0 (min ns.length ms.length)
def oLeX (x y : D) (A : Hs) : RE D := match x, y with
  | .tup l, .tup m => match intsOf l, intsOf m with
    | some ns, some ms => .ok (.bl (leT ns ms)) A
    | _, _ => .stuck
  | .int i, .int j => .ok (.bl (decide (i ≤ j))) A
  | _, _ => .stuck
theorem z6l {a b c d : Int} : oLeX (.tup [.int a, .int b]) (.tup [.int c, .int d]) A = .ok (.bl (if a = c then decide (b ≤ d) else decide (a ≤ c))) A := by
  show RE.ok (D.bl (leT [a, b] [c, d])) A = _
  congr 2
  show (if decide (a = c) = true then (if decide (b = d) = true then decide (2 ≤ 2) else decide (b ≤ d)) else decide (a ≤ c)) = _
  by_cases h : a = c
  · rw [if_pos (decide_eq_true h), if_pos h]
    by_cases k : b = d
    · rw [if_pos (decide_eq_true k), k]; simp
    · rw [if_neg (by simpa using k)]
  · rw [if_neg (by simpa using h), if_neg h]
/-! zip -/
def zipL (l m : List D) : List D := (l.zip m).map fun p => .tup [p.1, p.2]
def wkZ (A : Hs) (ds : List D) : Option Wk := match ds with
  | [.ref i, .ref j] => match A[i]?, A[j]? with
    | some (.lst l), some (.lst k) => some ⟨zipL l k, fun A' => A'[i]? = some (.lst l) ∧ A'[j]? = some (.lst k)⟩
    | _, _ => none
  | _ => none
def wZ (as : As) : Sl → Hs → RE Wk := fun env A => (as env A).bind fun ds A1 => match wkZ A1 ds with
  | some k => .ok k A1
  | none => .stuck
theorem wZ_ {env : Sl} : wZ as env A = (as env A).bind fun x A1 => wk_ (wkZ A1 x) A1 := by unfold wZ wk_; rfl
def wz_ (A : Hs) (i j : Nat) : Option O → Option O → Option Wk
  | some (.lst l), some (.lst k) => some ⟨zipL l k, fun A' => A'[i]? = some (.lst l) ∧ A'[j]? = some (.lst k)⟩
  | _, _ => none
theorem zbj {i j : Nat} {l k : List D} : wz_ A i j (some (.lst l)) (some (.lst k)) = some ⟨zipL l k, fun A' => A'[i]? = some (.lst l) ∧ A'[j]? = some (.lst k)⟩ := rfl
theorem z8j {i j : Nat} : wkZ A [.ref i, .ref j] = wz_ A i j A[i]? A[j]? := by
  unfold wkZ wz_
  simp only
end
end SM

/-! ## != of two dicts of dicts of ints that are alike -/
namespace PySem.W
open Lean Elab Tactic Meta PySem PySem.Calls PyProof.Rows PyProof.V PySem.Spec
section
variable {prog : Program} {w : World} {K : Type} [DecidableEq K] {knd : KeyKind prog w K} {A : Around} {E : Value → Shared → Prop} {s : Shared}
theorem keq_neIn {a b : Addr} {ka kb : List (K × Value)} {r : Bool} {Q : Value → Shared → Prop} (ha : (a == sysModules) = false) (hb : (b == sysModules) = false)
    (da : s.heap.DictOf knd a ka) (db : s.heap.DictOf knd b kb) (hu : A.units < cLine) (hits : ka.length = kb.length → KeqHitsIn prog w A.in1 s kb ka r) (h : Q (.bool (!(ka.length == kb.length && r))) s) :
    wpAny (model prog w) A (compareOp .NotEq (.ref a) (.ref b)) Q E s := by
  refine wpAny_richCompare_same_room (op := .NotEq) da.typeIs db.typeIs PySem.F.slot_dict_ne (wpAny_call_entry PySem.F.slot_dict_ne da.typeIs PySem.F.entry_dict_ne ?_ (PySem.F.args_dict_ne_2 _ _)) hu
  show wpAny _ _ (Builtin.Dict.dictSlotArgs "__ne__" ⟨[.ref a, .ref b], []⟩ >>= _) _ _ s
  refine wpAny_bind ?_
  unfold Builtin.Dict.dictSlotArgs
  refine wpAny_bind (wpAny_notOrdered_dict da.typeIs ?_)
  show wpAny _ _ (pure (Value.ref a, Value.ref b)) _ _ s
  refine wpAny_pure ?_
  refine wpAny_bind (wpAny_isInstance (T := "dict") db.typeIs PySem.F.sub_dict_dict ?_)
  simp only [Bool.not_true, Bool.false_eq_true, if_false]
  refine wpAny_bind (wpAny_pure (wpAny_bind (wpAny_pure ?_)))
  refine wpAny_bind (keq_samePairsIn ha hb da db hits ?_)
  refine wpAny_pure ⟨_, rfl, ?_, ?_⟩
  · exact fun x => nomatch x
  · simpa using h
theorem valueAt_cons {k j : K} {v : Value} {l : List (K × Value)} : valueAt ((j, v) :: l) k = if j = k then some v else valueAt l k := by
  unfold valueAt
  rw [List.find?_cons]
  by_cases h : j = k
  · simp [h]
  · simp [h]
/-- two dicts whose values are alike, one by one -/
theorem alike_all {R : Value → Value → Prop} : ∀ {ka kb : List (K × Value)}, Paired (fun p q => p.1 = q.1 ∧ R p.2 q.2) ka kb → (kb.map (·.1)).Nodup → ∀ k v, (k, v) ∈ ka → ∃ y, valueAt kb k = some y ∧ R v y
  | _, _, .nil, _, k, v, h => by simp at h
  | (j, x) :: ka, (j', y) :: kb, .cons (a := _) r t, nd, k, v, h => by
    obtain ⟨e, r⟩ := r
    have e : j = j' := e
    subst e
    rw [List.map_cons, List.nodup_cons] at nd
    rcases List.mem_cons.mp h with q | q
    · cases q
      exact ⟨y, by rw [valueAt_cons, if_pos rfl], r⟩
    · obtain ⟨z, z1, z2⟩ := alike_all t nd.2 k v q
      refine ⟨z, ?_, z2⟩
      rw [valueAt_cons, if_neg, z1]
      rintro rfl
      apply nd.1
      have : ∃ i : Nat, kb[i]? = some (j, z) := by
        unfold valueAt at z1
        obtain ⟨p, p1, p2⟩ := Option.map_eq_some_iff.mp z1
        obtain ⟨p3, p4⟩ := List.find?_eq_some_iff_append.mp p1
        obtain ⟨as, bs, e, _⟩ := p4
        have pk : p.1 = j := by simpa using p3
        refine ⟨as.length, ?_⟩
        rw [e, List.getElem?_append_right (Nat.le_refl _), Nat.sub_self, List.getElem?_cons_zero]
        obtain ⟨p5, p6⟩ := p
        simp only at pk p2
        rw [pk, p2]
      obtain ⟨i, hi⟩ := this
      exact List.mem_map.mpr ⟨_, List.mem_of_getElem? hi, rfl⟩
theorem alike_len {R : Value → Value → Prop} : ∀ {ka kb : List (K × Value)}, Paired (fun p q => p.1 = q.1 ∧ R p.2 q.2) ka kb → ka.length = kb.length
  | _, _, .nil => rfl
  | _, _, .cons _ t => by rw [List.length_cons, List.length_cons, alike_len t]
theorem alike_hits {ka kb : List (K × Value)} {e : K → Bool} (he : ∀ k, e k = true) (h : ∀ k v, (k, v) ∈ ka → ∃ y, valueAt kb k = some y) : (ka.all fun p => (valueAt kb p.1).isSome && e p.1) = true := by
  rw [List.all_eq_true]
  rintro ⟨k, v⟩ hm
  obtain ⟨y, hy⟩ := h k v hm
  simp [hy, he]
end
end PySem.W
namespace L2
open PySem PySem.Spec PyProof.Rows PySem.W
/-- two dicts of ints, alike -/
def SameIn (H : Hp) (v w : V) : Prop := ∃ (p q : Addr) (kvs : List (Key × V)), v = .ref p ∧ w = .ref q ∧ H p = some (.dK kvs) ∧ H q = some (.dK kvs) ∧ ∀ e ∈ kvs, ∃ i, e.2 = .int i
def rNeDD : R2 := fun x y H Q => ∃ (a b : Addr) (ka kb : List (Key × V)), x = .ref a ∧ y = .ref b ∧ H a = some (.dK ka) ∧ H b = some (.dK kb) ∧ Paired (fun p q => p.1 = q.1 ∧ SameIn H p.2 q.2) ka kb ∧ Q (.bl false) H
theorem kv_pair {P : Program} {w : World} {R : V → V → Prop} {S : Value → Value → Prop} (hs : ∀ x y u v, R x y → RelV x u → RelV y v → S u v) : ∀ {ka kb : List (Key × V)} {va vb : List (Key × Value)}, Paired (fun p q => p.1 = q.1 ∧ R p.2 q.2) ka kb → KV ka va → KV kb vb → Paired (fun (p q : Key × Value) => p.1 = q.1 ∧ S p.2 q.2) va vb
  | _, _, _, _, .nil, .nil, .nil => .nil
  | _, _, _, _, .cons r t, .cons r1 t1, .cons r2 t2 => .cons ⟨by rw [← r1.1, ← r2.1]; exact r.1, hs _ _ _ _ r.2 r1.2 r2.2⟩ (kv_pair (P := P) (w := w) hs t t1 t2)
theorem refl_pair {R : V → V → Prop} : ∀ {ka : List (Key × V)}, (∀ e ∈ ka, R e.2 e.2) → Paired (fun p q => p.1 = q.1 ∧ R p.2 q.2) ka ka
  | [], _ => .nil
  | e :: l, h => .cons ⟨rfl, h e List.mem_cons_self⟩ (refl_pair fun e' h' => h e' (List.mem_cons_of_mem _ h'))
theorem op_neDD {X : Cx} (hu : X.A.units + 65 < cLine) : OpR X (compareOp .NotEq) rNeDD := by
  intro pins s σ H x y v u Q I rx ry h
  obtain ⟨a, b, ka, kb, rfl, rfl, ha, hb, hp, q⟩ := h
  cases rx
  cases ry
  obtain ⟨_, sa, va, ra, da⟩ := (show ObjOk X.prog X.w H s.heap a (.dK ka) from I.hok _ _ ha)
  obtain ⟨_, sb, vb, rb, db⟩ := (show ObjOk X.prog X.w H s.heap b (.dK kb) from I.hok _ _ hb)
  have tree : ∀ x y u v, SameIn H x y → RelV x u → RelV y v → EqTree X.prog X.w s 1 u v true := by
    rintro _ _ u v ⟨p, p', kvs, rfl, rfl, h1, h2, h3⟩ r1 r2
    cases r1
    cases r2
    by_cases e : p = p'
    · subst e; exact .same
    obtain ⟨_, s1, v1, k1, d1⟩ := (show ObjOk X.prog X.w H s.heap p (.dK kvs) from I.hok _ _ h1)
    obtain ⟨_, s2, v2, k2, d2⟩ := (show ObjOk X.prog X.w H s.heap p' (.dK kvs) from I.hok _ _ h2)
    have pr := kv_pair (P := X.prog) (w := X.w) (R := fun x y => ∃ i, x = .int i ∧ y = .int i) (S := fun u v => EqTree X.prog X.w s 0 u v true) (by
      rintro _ _ u v ⟨i, rfl, rfl⟩ r1 r2
      obtain ⟨t, rfl⟩ := r1
      obtain ⟨t', rfl⟩ := r2
      exact .leaf fun A _ => by
        have := SeqAt.EqAt.int_int (A := A) (s := s) i t i t'
        rwa [beq_self_eq_true] at this) (refl_pair (R := fun x y => ∃ i, x = V.int i ∧ y = V.int i) (fun e he => by obtain ⟨i, hi⟩ := h3 e he; exact ⟨i, hi, hi⟩)) k1 k2
    have nd2 := d2
    obtain ⟨_, _, _, _, _, _, _, _, nd⟩ := nd2
    have al := alike_all (R := fun u v => EqTree X.prog X.w s 0 u v true) pr nd
    have t := EqTree.dicts (n := 0) (e := fun _ => true) e s1 s2 d1 d2 (fun k v y hm hy => by
      obtain ⟨z, z1, z2⟩ := al k v hm
      rw [hy] at z1; cases z1
      exact z2)
    rw [alike_hits (fun _ => rfl) (fun k v hm => by obtain ⟨z, z1, _⟩ := al k v hm; exact ⟨z, z1⟩), alike_len (R := fun u v => EqTree X.prog X.w s 0 u v true) pr, beq_self_eq_true] at t
    exact t
  have pr := kv_pair (P := X.prog) (w := X.w) tree hp ra rb
  have nd2 := db
  obtain ⟨_, _, _, _, _, _, _, _, nd⟩ := nd2
  have al := alike_all (R := fun u v => EqTree X.prog X.w s 1 u v true) pr nd
  refine keq_neIn sa sb da db (by omega) (fun _ => KeqHitsIn.of (e := fun _ => true) _ fun k v y hm hv => ?_) ?_
  · obtain ⟨z, z1, z2⟩ := al k v hm
    rw [hv] at z1; cases z1
    exact z2.at X.A.in1 (by show X.A.units + 1 + 1 < cLine; omega)
  · rw [alike_hits (fun _ => rfl) (fun k v hm => by obtain ⟨z, z1, _⟩ := al k v hm; exact ⟨z, z1⟩), alike_len (R := fun u v => EqTree X.prog X.w s 1 u v true) pr, beq_self_eq_true]
    exact ⟨.bl false, H, I, rfl, q⟩
end L2
namespace SM
open PySem L2
section
variable {K : PySem.W.Frag} {ca : CaT} {W : WX} {F H : Hp} {m : List Addr} {A B : Hs}
def sameIn (A : Hs) (x y : D) : Prop := ∃ i j r, x = .ref i ∧ y = .ref j ∧ A[i]? = some (.dic false false r) ∧ A[j]? = some (.dic false false r) ∧ ∀ e ∈ r, ∃ n, e.2 = D.int n
def sameDD (A : Hs) (l m : List (D × D)) : Prop := Paired (fun p q => p.1 = q.1 ∧ sameIn A p.2 q.2) l m
open Classical in
noncomputable def oNeDD (x y : D) (A : Hs) : RE D := match x, y with
  | .ref i, .ref j => if ∃ l k, A[i]? = some (.dic false false l) ∧ A[j]? = some (.dic false false k) ∧ sameDD A l k then .ok (.bl false) A else .stuck
  | _, _ => .stuck
theorem kvr_ints : ∀ {r : List (D × D)} {kvs kvs' : List (Key × V)}, KvR K ca F m kD kvs r → KvR K ca F m kD kvs' r → (∀ e ∈ r, ∃ n, e.2 = D.int n) → kvs' = kvs ∧ ∀ e ∈ kvs, ∃ i, e.2 = V.int i
  | [], kvs, kvs', h1, h2, _ => by cases h1; cases h2; exact ⟨rfl, fun _ h => by simp at h⟩
  | (dk, dv) :: r, kvs, kvs', h1, h2, hi => by
    obtain ⟨n, hn⟩ := hi _ List.mem_cons_self
    have hn : dv = D.int n := hn
    subst hn
    generalize e0 : dk = dk' at h2
    cases h1 with
    | cons a b =>
      cases h2 with
      | cons c d =>
        have ek := kD_inj e0
        subst ek
        cases a
        cases c
        obtain ⟨e1, e2⟩ := kvr_ints b d fun e he => hi e (List.mem_cons_of_mem _ he)
        refine ⟨by rw [e1], fun e he => ?_⟩
        rcases List.mem_cons.mp he with q | q
        · subst q; exact ⟨n, rfl⟩
        · exact e2 e q
theorem sameDD_rep (R : Rl K ca F m A H) : ∀ {l k : List (D × D)} {kl kk : List (Key × V)}, sameDD A l k → KvR K ca F m kD kl l → KvR K ca F m kD kk k → Paired (fun (p q : Key × V) => p.1 = q.1 ∧ SameIn H p.2 q.2) kl kk
  | _, _, kl, kk, .nil, h1, h2 => by cases h1; cases h2; exact .nil
  | (a, b) :: l, (c, d) :: k, kl, kk, .cons r t, h1, h2 => by
    cases h1 with
    | cons a1 b1 =>
      obtain ⟨e, i, j, rr, e1, e2, g1, g2, hi⟩ := r
      have e : _ = c := e
      subst e
      generalize e' : kD _ = dk at h2
      cases h2 with
      | cons a2 b2 =>
        have ek := kD_inj e'
        subst ek
        have e1 : b = .ref i := e1
        have e2 : d = .ref j := e2
        subst e1; subst e2
        obtain ⟨p, v1, rfl, _, p1, p2⟩ := dk_at R a1 g1
        obtain ⟨q, v2, rfl, _, q1, q2⟩ := dk_at R a2 g2
        obtain ⟨z1, z2⟩ := kvr_ints p2 q2 hi
        subst z1
        exact .cons ⟨rfl, p, q, _, rfl, rfl, p1, q1, z2⟩ (sameDD_rep R t b1 b2)
theorem os_neDD : OpS K ca rNeDD oNeDD := fun F m A H x y dx dy W σ Q R rx ry p => by
  unfold oNeDD at p
  split at p
  · split at p
    · rename_i h
      obtain ⟨l, k, h1, h2, h3⟩ := h
      obtain ⟨a, ka, rfl, _, a1, a2⟩ := dk_at R rx h1
      obtain ⟨b, kb, rfl, _, b1, b2⟩ := dk_at R ry h2
      exact ⟨a, b, ka, kb, rfl, rfl, a1, b1, sameDD_rep R h3 a2 b2, po_ok R (.bl _) p⟩
    · exact p.elim
  · exact p.elim
theorem oNeDD_ok {i j : Nat} {l k : List (D × D)} (h1 : A[i]? = some (.dic false false l)) (h2 : A[j]? = some (.dic false false k)) (h3 : sameDD A l k) : oNeDD (.ref i) (.ref j) A = .ok (.bl false) A := by
  unfold oNeDD
  simp only
  rw [if_pos ⟨l, k, h1, h2, h3⟩]
end
end SM
/-! ## list(d), d a dict with int or text keys -/
namespace SM
open PySem L2
section
variable {K : PySem.W.Frag} {ca : CaT} {W : WX} {F H : Hp} {m : List Addr} {A B : Hs}
def oListK (x : D) (A : Hs) : RE D := match x with
  | .ref i => match A[i]? with
    | some (.dic false false l) => alloc A (.lst (l.map Prod.fst))
    | _ => .stuck
  | _ => .stuck
theorem keysK_rep : ∀ {kvs : List (Key × V)} {l : List (D × D)}, KvR K ca F m kD kvs l → RepL K ca F m (kvs.map fun kv => kV kv.1) (l.map Prod.fst)
  | _, _, .nil => .nil
  | _, _, .cons (k := k) (r := r) (s := s) _ t => by
    refine .cons ?_ (keysK_rep t)
    cases k with
    | inl i => exact .int i
    | inr x => exact .str x
theorem cs_listK : CbS K ca rListD (c1 oListK) := cs_1 fun F m A H x dx W σ Q R rx p => by
  unfold oListK at p
  split at p
  · rename_i i
    split at p
    · rename_i l hA
      obtain ⟨a, kvs, rfl, _, h1, h2⟩ := dk_at R rx hA
      exact ⟨a, kvs, rfl, h1, fun q hq => po_alloc (o := .lst (l.map Prod.fst)) R hq ⟨_, upd_same, (keysK_rep h2).mono (DL.Ex.refl _) ⟨_, rfl⟩⟩ p⟩
    · exact p.elim
  · exact p.elim
theorem oListK_at {i : Nat} {l : List (D × D)} (h : A[i]? = some (.dic false false l)) : oListK (.ref i) A = .ok (.ref A.length) (A ++ [.lst (l.map Prod.fst)]) := by
  unfold oListK
  simp only [h]; rfl
end
end SM

namespace DL
open PySem L2
/-! ### division of rows of bits (polynomials over two elements), in plain Lean -/
def bl (n : Nat) : Nat := if n = 0 then 0 else n.log2 + 1
theorem bl_le {n m : Nat} : bl n ≤ m ↔ n < 2 ^ m := by
  unfold bl
  by_cases h : n = 0
  · subst h
    simp [Nat.two_pow_pos]
  · rw [if_neg h]
    exact (Nat.succ_le_iff).trans (Nat.log2_lt h)
theorem bl_lt {n m : Nat} : bl n < m ↔ n < 2 ^ (m - 1) ∧ 0 < m := by
  cases m with
  | zero => simp
  | succ m => rw [Nat.lt_succ_iff, bl_le]; simp
theorem lt_bl (n : Nat) : n < 2 ^ bl n := bl_le.mp (Nat.le_refl _)
theorem bl_ge {n : Nat} (h : n ≠ 0) : 2 ^ (bl n - 1) ≤ n := by
  apply Nat.le_of_not_lt
  intro q
  have := bl_le.mpr q
  have : bl n ≠ 0 := by unfold bl; rw [if_neg h]; omega
  omega
theorem bl_pos {n : Nat} (h : n ≠ 0) : 0 < bl n := by unfold bl; rw [if_neg h]; omega
theorem top_bit {x m : Nat} (h1 : 2 ^ m ≤ x) (h2 : x < 2 ^ (m + 1)) : x.testBit m = true := by
  rw [Nat.testBit_eq_decide_div_mod_eq]
  have : x / 2 ^ m = 1 := by
    rw [Nat.pow_succ] at h2
    have hp := Nat.two_pow_pos m
    apply Nat.div_eq_of_lt_le <;> omega
  rw [this]; rfl
theorem shl_range {c k : Nat} (hc : c ≠ 0) : 2 ^ (bl c - 1 + k) ≤ c <<< k ∧ c <<< k < 2 ^ (bl c - 1 + k + 1) := by
  rw [Nat.shiftLeft_eq, Nat.pow_add]
  have h1 := bl_ge hc
  have h2 := lt_bl c
  have hp := bl_pos hc
  refine ⟨Nat.mul_le_mul_right _ h1, ?_⟩
  rw [show bl c - 1 + k + 1 = bl c + k by omega, Nat.pow_add]
  exact Nat.mul_lt_mul_of_pos_right h2 (Nat.two_pow_pos k)
/-- the sums of c, shifted by less than K -/
def Sp (c : Nat) : Nat → Nat → Prop
  | 0, x => x = 0
  | K + 1, x => Sp c K x ∨ Sp c K (x ^^^ c <<< K)
theorem Sp.more {c K x : Nat} (h : Sp c K x) : Sp c (K + 1) x := .inl h
theorem Sp.mono {c x : Nat} : ∀ {K L : Nat}, K ≤ L → Sp c K x → Sp c L x := fun {K L} h s => by
  induction h with
  | refl => exact s
  | step _ ih => exact ih.more
theorem Sp.zero {c : Nat} : ∀ K, Sp c K 0
  | 0 => rfl
  | K + 1 => .inl (Sp.zero K)
theorem Sp.one {c k : Nat} : Sp c (k + 1) (c <<< k) := by
  refine .inr ?_
  rw [Nat.xor_self]
  exact Sp.zero k
theorem Sp.lt {c : Nat} (hc : c ≠ 0) : ∀ {K x : Nat}, Sp c K x → x < 2 ^ (bl c - 1 + K)
  | 0, x, h => by
    have h : x = 0 := h
    subst h; exact Nat.two_pow_pos _
  | K + 1, x, h => by
    rcases h with h | h
    · exact Nat.lt_of_lt_of_le (Sp.lt hc h) (Nat.pow_le_pow_right (by decide) (by omega))
    · have h1 := Nat.lt_of_lt_of_le (Sp.lt hc h) (Nat.pow_le_pow_right (by decide) (show bl c - 1 + K ≤ bl c - 1 + (K + 1) by omega))
      have h2 := (shl_range (k := K) hc).2
      have e : x = (x ^^^ c <<< K) ^^^ c <<< K := by rw [Nat.xor_assoc, Nat.xor_self, Nat.xor_zero]
      rw [e]
      exact Nat.xor_lt_two_pow h1 (by rw [show bl c - 1 + (K + 1) = bl c - 1 + K + 1 by omega]; exact h2)
/-- a sum that is no nought is as wide as c at the least -/
theorem Sp.wide {c : Nat} (hc : c ≠ 0) : ∀ {K x : Nat}, Sp c K x → x ≠ 0 → 2 ^ (bl c - 1) ≤ x
  | 0, x, h, n => absurd h n
  | K + 1, x, h, n => by
    rcases h with h | h
    · exact Sp.wide hc h n
    · have h1 := Sp.lt hc h
      have ⟨h2, h3⟩ := shl_range (k := K) hc
      have t : x.testBit (bl c - 1 + K) = true := by
        have e : x = (x ^^^ c <<< K) ^^^ c <<< K := by rw [Nat.xor_assoc, Nat.xor_self, Nat.xor_zero]
        rw [e, Nat.testBit_xor, Nat.testBit_lt_two_pow h1, top_bit h2 h3]; rfl
      have := Nat.ge_two_pow_of_testBit t
      exact Nat.le_trans (Nat.pow_le_pow_right (by decide) (by omega)) this
/-- the multiples of c -/
def Mu (c x : Nat) : Prop := ∃ K, Sp c K x
theorem Mu.zero {c : Nat} : Mu c 0 := ⟨0, rfl⟩
theorem Mu.one {c : Nat} (k : Nat) : Mu c (c <<< k) := ⟨k + 1, Sp.one⟩
theorem Mu.small {c x : Nat} (hc : c ≠ 0) (h : Mu c x) (hx : bl x < bl c) : x = 0 := by
  obtain ⟨K, h⟩ := h
  by_cases z : x = 0
  · exact z
  · have := h.wide hc z
    have := (bl_lt.mp hx).1
    omega
def red (c : Nat) : Nat → Nat → Nat
  | 0, n => n
  | f + 1, n => if bl c ≤ bl n then red c f (n ^^^ c <<< (bl n - bl c)) else n
/-- the rest of n by c -/
def dv (c n : Nat) : Nat := red c (bl n) n
section
variable {c : Nat} (hc : c ≠ 0)
include hc
end
end DL
namespace DL
open PySem L2
/-- a row's number -/
def gN (l : List Int) : Nat := (gath l).toNat
end DL


namespace Kk
open PySem L2 SM
def os_ : List String := []
def xs_ : List String := ["NoPlace", "NoTable"]
def tb_ : List (String × String × Bool) := [("NoPlace", "bool", false), ("NoPlace", "dict", false), ("NoPlace", "int", false), ("NoPlace", "list", false), ("NoPlace", "tuple", false), ("NoTable", "bool", false), ("NoTable", "dict", false), ("NoTable", "int", false), ("NoTable", "list", false), ("NoTable", "tuple", false)]
/- slots of _law_copy: 0=_law_table_here 1=_law_place -/
noncomputable def F_l_copy : Fn := mkFn 1 2
  (sRet (eCB (c1 oDict) (aCons (eLkN (eVar 0) (eLc (wOf wkK (eVar 0)) (gN 1) tYe (eTup (aCons (eVar 1) (aCons (eCB (c1 oDict) (aCons (eOp oDGet (eVar 0) (eVar 1)) aNil)) aNil))) [1])) aNil)))
/- slots of _law_next: 0=_law_state_here 1=_law_size 2=_law_number 3=_law_mixed -/
noncomputable def F_l_next : Fn := mkFn 2 4
  (sSeq (sIf (tAn (tOf (eOp oEq (eOp oIx (eVar 0) (eC (.int 1))) (eC (.int 1)))) (tOf (eOp oNotIn (eOp oIx (eVar 0) (eC (.int 0))) (eTup (aCons (eC (.int 0)) (aCons (eUn oNeg (eC (.int 1))) aNil)))))) (sSeq (sSet 2 (eOp oMod (eOp oIx (eVar 0) (eC (.int 0))) (eVar 1))) (sSeq (sPut (eVar 0) (eC (.int 0)) (eOp oDiv (eOp oIx (eVar 0) (eC (.int 0))) (eVar 1))) (sRet (eVar 2)))) sNx) (sSeq (sIf (tOf (eOp oEq (eOp oIx (eVar 0) (eC (.int 1))) (eC (.int 1)))) (sSeq (sPut (eVar 0) (eC (.int 0)) (eOp oIx (eVar 0) (eC (.int 2)))) (sPut (eVar 0) (eC (.int 1)) (eC (.int 0)))) sNx) (sSeq (sPut (eVar 0) (eC (.int 0)) (eOp oMod (eOp oAdd (eOp oMul (eOp oIx (eVar 0) (eC (.int 0))) (eC (.int 48271))) (eC (.int 11))) (eC (.int 2147483647)))) (sSeq (sSet 3 (eOp oMod (eOp oAdd (eOp oMul (eOp oIx (eVar 0) (eC (.int 0))) (eOp oIx (eVar 0) (eC (.int 0)))) (eOp oMul (eC (.int 16807)) (eOp oIx (eVar 0) (eC (.int 0))))) (eC (.int 2147483629)))) (sRet (eOp oMod (eOp oDiv (eOp oMod (eOp oAdd (eOp oMul (eVar 3) (eVar 3)) (eOp oMul (eC (.int 7)) (eVar 3))) (eC (.int 2147483587))) (eC (.int 5))) (eVar 1)))))))
/- slots of _law_walked: 0=_law_table_here 1=_law_place 2=_law_target 3=_law_found 4=_law_following -/
noncomputable def F_l_walked : Fn := mkFn 3 5
  (sSeq (sSet 3 (eLst (aCons (eVar 1) aNil))) (sSeq (sWh (tAn (tOf (eOp oNe (eOp oIx (eVar 3) (eUn oNeg (eC (.int 1)))) (eVar 2))) (tOf (eOp oIn (eVar 2) (eOp oDGet (eVar 0) (eOp oIx (eVar 3) (eUn oNeg (eC (.int 1)))))))) (sSeq (sSet 4 (eOp oDGet (eOp oDGet (eVar 0) (eOp oIx (eVar 3) (eUn oNeg (eC (.int 1))))) (eVar 2))) (sSeq (sIf (tOf (eOp oIn (eVar 4) (eVar 3))) (sRet (eTup (aCons (eVar 3) (aCons (eVar 4) aNil)))) sNx) (sDrop (eBL oAppend (eVar 3) (aCons (eVar 4) aNil)))))) (sRet (eTup (aCons (eVar 3) (aCons (eC .non) aNil))))))
/- slots of _law_way: 0=_law_table_here 1=_law_place 2=_law_target 3=_law_found 4=_law_again 5=_law_places_here 6=_law_least -/
noncomputable def F_l_way : Fn := mkFn 3 7
  (sSeq (sAsg (eCall F_l_walked (aCons (eVar 0) (aCons (eVar 1) (aCons (eVar 2) aNil)))) (gT [(gN 3), (gN 4)])) (sSeq (sIf (tOf (eOp oIsNot (eVar 4) (eC .non))) (sSeq (sSet 5 (eSl oSl (eVar 3) (oSo (eBL oIndex (eVar 3) (aCons (eVar 4) aNil))) oNo)) (sSeq (sSet 6 (eBL oIndex (eVar 5) (aCons (eCB (c1 (oBest false)) (aCons (eVar 5) aNil)) aNil))) (sRet (eTup (aCons (eC (dS "ring")) (aCons (eOp oAdd (eSl oSl (eVar 5) (oSo (eVar 6)) oNo) (eSl oSl (eVar 5) oNo (oSo (eVar 6)))) aNil)))))) sNx) (sRet (eIf (tOf (eOp oEq (eOp oIx (eVar 3) (eUn oNeg (eC (.int 1)))) (eVar 2))) (eVar 3) (eC .non)))))
/- slots of _law_due: 0=_law_table_here 1=_law_found 2=_law_target 3=_law_place 4=_law_told -/
noncomputable def F_l_due : Fn := mkFn 1 5
  (sSeq (sSet 1 (eLst aNil)) (sSeq (sLkN (eVar 0) (sFor (wOf wkK (eVar 0)) (gN 2) (sLkN (eVar 0) (sFor (wOf wkK (eVar 0)) (gN 3) (sSeq (sSet 4 (eCall F_l_way (aCons (eVar 0) (aCons (eVar 3) (aCons (eVar 2) aNil))))) (sIf (tOf (eCB (c2 (oIsi os_ xs_ tb_)) (aCons (eVar 4) (aCons (eC (.ty "tuple")) aNil)))) (sDrop (eBL oAppend (eVar 1) (aCons (eTup (aCons (eVar 2) (aCons (eOp oIx (eVar 4) (eC (.int 1))) aNil))) aNil))) sNx)))))) (sRet (eIf (tOf (eOp oNe (eVar 1) (eLst aNil))) (eOp oIx (eCB (c1 oSortD) (aCons (eVar 1) aNil)) (eC (.int 0))) (eC .non)))))
/- slots of led: 0=table 1=place 2=target 3=found 4=neighbour 5=places 6=least -/
noncomputable def F_led : Fn := mkFn 3 7
  (sSeq (sSet 3 (eLst (aCons (eVar 1) aNil))) (sSeq (sWh (tOf (eOp oNe (eOp oIx (eVar 3) (eUn oNeg (eC (.int 1)))) (eVar 2))) (sSeq (sSet 4 (eGet2 (eOp oDGet (eVar 0) (eOp oIx (eVar 3) (eUn oNeg (eC (.int 1))))) (eVar 2) (eC .non))) (sSeq (sIf (tOf (eOp oIs (eVar 4) (eC .non))) (sRet (eC .non)) sNx) (sSeq (sIf (tOf (eOp oIn (eVar 4) (eVar 3))) (sSeq (sSet 5 (eSl oSl (eVar 3) (oSo (eBL oIndex (eVar 3) (aCons (eVar 4) aNil))) oNo)) (sSeq (sSet 6 (eBL oIndex (eVar 5) (aCons (eCB (c1 (oBest false)) (aCons (eVar 5) aNil)) aNil))) (sRet (eTup (aCons (eC (dS "ring")) (aCons (eOp oAdd (eSl oSl (eVar 5) (oSo (eVar 6)) oNo) (eSl oSl (eVar 5) oNo (oSo (eVar 6)))) aNil)))))) sNx) (sDrop (eBL oAppend (eVar 3) (aCons (eVar 4) aNil))))))) (sRet (eVar 3))))
/- slots of is_place: 0=thing -/
noncomputable def F_is_place : Fn := mkFn 1 1
  (sRet (eAnd (eCB (c2 (oIsi os_ xs_ tb_)) (aCons (eVar 0) (aCons (eC (.ty "int")) aNil))) (eAnd (eNot (eCB (c2 (oIsi os_ xs_ tb_)) (aCons (eVar 0) (aCons (eC (.ty "bool")) aNil)))) (eCh oLe oLe (eC (.int 0)) (eVar 0) (eC (.int 255))))))
/- slots of is_other: 0=thing 1=place 2=table -/
noncomputable def F_is_other : Fn := mkFn 3 3
  (sRet (eAnd (eCall F_is_place (aCons (eVar 0) aNil)) (eAnd (eOp oIn (eVar 0) (eVar 2)) (eOp oNe (eVar 0) (eVar 1)))))
/- slots of are_ways: 0=thing 1=place 2=table 3=target 4=neighbour -/
noncomputable def F_are_ways : Fn := mkFn 3 5
  (sSeq (sIf (tNo (tOf (eCB (c2 (oIsi os_ xs_ tb_)) (aCons (eVar 0) (aCons (eC (.ty "dict")) aNil))))) (sRet (eC (.bl false))) sNx) (sSeq (sLkN (eVar 0) (sFor (wOf wkI (eVar 0)) (gT [(gN 3), (gN 4)]) (sIf (tOo (tNo (tOf (eCall F_is_other (aCons (eVar 3) (aCons (eVar 1) (aCons (eVar 2) aNil)))))) (tNo (tOf (eCall F_is_other (aCons (eVar 4) (aCons (eVar 1) (aCons (eVar 2) aNil))))))) (sRet (eC (.bl false))) sNx))) (sRet (eC (.bl true)))))
/- slots of need_table: 0=thing 1=place 2=ways -/
noncomputable def F_need_table : Fn := mkFn 1 3
  (sSeq (sIf (tOo (tNo (tOf (eCB (c2 (oIsi os_ xs_ tb_)) (aCons (eVar 0) (aCons (eC (.ty "dict")) aNil))))) (tNo (tOf (eCh oLe oLe (eC (.int 1)) (eCB (c1 oLenL) (aCons (eVar 0) aNil)) (eC (.int 12)))))) (sRaise "NoTable") sNx) (sSeq (sIf (tNo (tOf (eCB (c1 oAll) (aCons (eLkN (eVar 0) (eLc (wOf wkK (eVar 0)) (gN 1) tYe (eCall0 F_is_place (aCons (eVar 1) aNil)) [1])) aNil)))) (sRaise "NoTable") sNx) (sLkN (eVar 0) (sFor (wOf wkI (eVar 0)) (gT [(gN 1), (gN 2)]) (sIf (tNo (tOf (eCall F_are_ways (aCons (eVar 2) (aCons (eVar 1) (aCons (eVar 0) aNil)))))) (sRaise "NoTable") sNx)))))
/- slots of ring: 0=table 1=found 2=target 3=place 4=told -/
noncomputable def F_ring : Fn := mkFn 1 5
  (sSeq (sDrop (eCall F_need_table (aCons (eVar 0) aNil))) (sSeq (sSet 1 (eLst aNil)) (sSeq (sLkN (eVar 0) (sFor (wOf wkK (eVar 0)) (gN 2) (sLkN (eVar 0) (sFor (wOf wkK (eVar 0)) (gN 3) (sSeq (sSet 4 (eCall F_led (aCons (eVar 0) (aCons (eVar 3) (aCons (eVar 2) aNil))))) (sIf (tOf (eCB (c2 (oIsi os_ xs_ tb_)) (aCons (eVar 4) (aCons (eC (.ty "tuple")) aNil)))) (sDrop (eBL oAppend (eVar 1) (aCons (eTup (aCons (eVar 2) (aCons (eOp oIx (eVar 4) (eC (.int 1))) aNil))) aNil))) sNx)))))) (sRet (eCK oMinDf (eVar 1) (eC .non))))))
/- slots of way: 0=table 1=place 2=target 3=thing -/
noncomputable def F_way : Fn := mkFn 3 4
  (sSeq (sDrop (eCall F_need_table (aCons (eVar 0) aNil))) (sSeq (sFor (wSeq (eTup (aCons (eVar 1) (aCons (eVar 2) aNil)))) (gN 3) (sIf (tOo (tNo (tOf (eCall F_is_place (aCons (eVar 3) aNil)))) (tOf (eOp oNotIn (eVar 3) (eVar 0)))) (sRaise "NoPlace") sNx)) (sRet (eCall F_led (aCons (eVar 0) (aCons (eVar 1) (aCons (eVar 2) aNil)))))))
/- slots of _law_right: 0=_law_table_here 1=_law_is_tree 2=_law_due_here 3=_law_turn 4=_law_found 5=_law_target 6=_law_place -/
noncomputable def F_l_right : Fn := mkFn 2 7
  (sSeq (sSet 2 (eCall F_l_due (aCons (eVar 0) aNil))) (sSeq (sIf (tAn (tOf (eVar 1)) (tOf (eOp oIsNot (eVar 2) (eC .non)))) (sRet (eC (.bl false))) sNx) (sSeq (sFor (wAs rg1 (aCons (eC (.int 2)) aNil)) (gN 3) (sSeq (sSet 4 (eCall F_ring (aCons (eVar 0) aNil))) (sIf (tOf (eOp oIs (eVar 2) (eC .non))) (sIf (tOf (eOp oIsNot (eVar 4) (eC .non))) (sRet (eC (.bl false))) sNx) (sIf (tOo (tNo (tOf (eCB (c2 (oIsi os_ xs_ tb_)) (aCons (eVar 4) (aCons (eC (.ty "tuple")) aNil))))) (tOo (tNo (tOf (eCB (c2 (oIsi os_ xs_ tb_)) (aCons (eOp oIx (eVar 4) (eC (.int 1))) (aCons (eC (.ty "list")) aNil))))) (tOf (eOp oNe (eVar 4) (eVar 2))))) (sRet (eC (.bl false))) (sDrop (eBL oAppend (eOp oIx (eVar 4) (eC (.int 1))) (aCons (eOp oIx (eVar 4) (eC (.int 0))) aNil))))))) (sSeq (sIf (tOf (eOp oIsNot (eVar 2) (eC .non))) (sRet (eOp oEq (eCall F_way (aCons (eVar 0) (aCons (eOp oIx (eOp oIx (eVar 2) (eC (.int 1))) (eC (.int 0))) (aCons (eOp oIx (eVar 2) (eC (.int 0))) aNil)))) (eTup (aCons (eC (dS "ring")) (aCons (eOp oIx (eVar 2) (eC (.int 1))) aNil))))) sNx) (sSeq (sLkN (eVar 0) (sFor (wOf wkK (eVar 0)) (gN 5) (sIf (tOf (eOp oNe (eLkN (eVar 0) (eLc (wOf wkK (eVar 0)) (gN 6) (tOf (eCB (c2 (oIsi os_ xs_ tb_)) (aCons (eCall0 F_way (aCons (eVar 0) (aCons (eVar 6) (aCons (eVar 5) aNil)))) (aCons (eC (.ty "tuple")) aNil)))) (eVar 6) [6])) (eLst aNil))) (sRet (eC (.bl false))) sNx))) (sRet (eC (.bl true))))))))
/- slots of _law_state: 0=_law_cell 1=_law_k 2=_law_seed -/
noncomputable def F_l_state : Fn := mkFn 2 3
  (sSeq (sSet 2 (eOp oMod (eOp oMul (eOp oAdd (eOp oAdd (eVar 0) (eOp oMul (eC (.int 7919)) (eVar 1))) (eC (.int 11))) (eC (.int 48271))) (eC (.int 2147483647)))) (sSeq (sIf (tOf (eOp oGe (eVar 0) (eOp oPow (eC (.int 10)) (eC (.int 18))))) (sRet (eLst (aCons (eVar 0) (aCons (eC (.int 1)) (aCons (eVar 2) aNil))))) sNx) (sRet (eLst (aCons (eVar 2) (aCons (eC (.int 0)) (aCons (eVar 2) aNil)))))))
/- slots of _law_places: 0=_law_state_here 1=_law_many 2=_law_found 3=_law_off 4=_law_k 5=_law_place -/
noncomputable def F_l_places : Fn := mkFn 2 6
  (sSeq (sSet 2 (eLst aNil)) (sSeq (sSet 3 (eCall F_l_next (aCons (eVar 0) (aCons (eC (.int 256)) aNil)))) (sSeq (sFor (wAs rg1 (aCons (eVar 1) aNil)) (gN 4) (sSeq (sSet 5 (eOp oMod (eOp oIx (eLst (aCons (eCall F_l_next (aCons (eVar 0) (aCons (eC (.int 256)) aNil))) (aCons (eOp oAdd (eVar 3) (eVar 4)) (aCons (eOp oSub (eC (.int 255)) (eVar 4)) aNil)))) (eCall F_l_next (aCons (eVar 0) (aCons (eC (.int 3)) aNil)))) (eC (.int 256)))) (sSeq (sWh (tOf (eOp oIn (eVar 5) (eVar 2))) (sSet 5 (eOp oMod (eOp oAdd (eVar 5) (eC (.int 1))) (eC (.int 256))))) (sDrop (eBL oAppend (eVar 2) (aCons (eVar 5) aNil)))))) (sRet (eVar 2)))))
/- slots of _law_table: 0=_law_state_here 1=_law_most 2=_law_places_here 3=_law_lacks 4=_law_table_here 5=_law_place 6=_law_others 7=_law_one 8=_law_target 9=_law_neighbour -/
noncomputable def F_l_table : Fn := mkFn 2 10
  (sSeq (sSet 2 (eCall F_l_places (aCons (eVar 0) (aCons (eOp oAdd (eC (.int 1)) (eCall F_l_next (aCons (eVar 0) (aCons (eVar 1) aNil)))) aNil)))) (sSeq (sSet 3 (eCall F_l_next (aCons (eVar 0) (aCons (eC (.int 3)) aNil)))) (sSeq (sSet 4 (eDNew false)) (sSeq (sFor (wSeq (eVar 2)) (gN 5) (sSeq (sSet 6 (eLc (wSeq (eVar 2)) (gN 7) (tOf (eOp oNe (eVar 7) (eVar 5))) (eVar 7) [7])) (sSeq (sPut (eVar 4) (eVar 5) (eDNew false)) (sFor (wSeq (eVar 6)) (gN 8) (sSeq (sSet 9 (eOp oIx (eVar 6) (eCall F_l_next (aCons (eVar 0) (aCons (eCB (c1 oLenL) (aCons (eVar 6) aNil)) aNil))))) (sIf (tOo (tOf (eOp oEq (eVar 3) (eC (.int 0)))) (tOf (eOp oGt (eCall F_l_next (aCons (eVar 0) (aCons (eOp oAdd (eC (.int 1)) (eOp oMul (eC (.int 3)) (eVar 3))) aNil))) (eC (.int 0))))) (sPut (eOp oDGet (eVar 4) (eVar 5)) (eVar 8) (eVar 9)) sNx)))))) (sRet (eVar 4))))))
/- slots of _law_tree: 0=_law_state_here 1=_law_places_here 2=_law_table_here 3=_law_place 4=_law_target 5=_law_order -/
noncomputable def F_l_tree : Fn := mkFn 2 6
  (sSeq (sSet 2 (eCB (c1 oDict) (aCons (eLc (wSeq (eVar 1)) (gN 3) tYe (eTup (aCons (eVar 3) (aCons (eDNew false) aNil))) [3]) aNil))) (sSeq (sFor (wSeq (eVar 1)) (gN 4) (sSeq (sSet 5 (eLst (aCons (eVar 4) aNil))) (sFor (wSeq (eVar 1)) (gN 3) (sIf (tOf (eOp oNe (eVar 3) (eVar 4))) (sSeq (sIf (tOf (eOp oGt (eCall F_l_next (aCons (eVar 0) (aCons (eC (.int 8)) aNil))) (eC (.int 0)))) (sPut (eOp oDGet (eVar 2) (eVar 3)) (eVar 4) (eOp oIx (eVar 5) (eCall F_l_next (aCons (eVar 0) (aCons (eCB (c1 oLenL) (aCons (eVar 5) aNil)) aNil))))) sNx) (sDrop (eBL oAppend (eVar 5) (aCons (eVar 3) aNil)))) sNx)))) (sRet (eVar 2))))
/- slots of law: 0=_law_script 1=_law_k 2=_law_cell 3=_law_state_here 4=_law_many 5=_law_is_tree 6=_law_table_here 7=_law_handed -/
noncomputable def F_law : Fn := mkFn 1 8
  (sSeq (sFor (wOf wkEA (eOrL (eSl oSl (eVar 0) oNo (oSo (eC (.int 63)))) (eLst (aCons (eC (.int 0)) aNil)))) (gT [(gN 1), (gN 2)]) (sSeq (sSet 3 (eCall0 F_l_state (aCons (eVar 2) (aCons (eVar 1) aNil)))) (sSeq (sSet 4 (eOp oIx (eLst (aCons (eC (.int 7)) (aCons (eC (.int 12)) aNil))) (eCB (c1 oInt) (aCons (eOp oEq (eCall0 F_l_next (aCons (eVar 3) (aCons (eC (.int 12)) aNil))) (eC (.int 5))) aNil)))) (sSeq (sSet 5 (eOp oEq (eCall0 F_l_next (aCons (eVar 3) (aCons (eC (.int 3)) aNil))) (eC (.int 0)))) (sSeq (sSet 6 (eCall0 F_l_table (aCons (eVar 3) (aCons (eVar 4) aNil)))) (sSeq (sIf (tOf (eVar 5)) (sSet 6 (eCall0 F_l_tree (aCons (eVar 3) (aCons (eCB (c1 oListK) (aCons (eVar 6) aNil)) aNil)))) sNx) (sSeq (sSet 7 (eCall0 F_l_copy (aCons (eVar 6) aNil))) (sIf (tOo (tNo (tOf (eCall0 F_l_right (aCons (eVar 7) (aCons (eVar 5) aNil))))) (tOf (eOp oNeDD (eVar 7) (eVar 6)))) (sRet (eC (.bl false))) sNx)))))))) (sRet (eC (.bl true))))
end Kk
namespace Kk
open PySem L2 SM
local macro_rules
  | `(tactic| simp_arith [$xs,*] $[$loc]?) => `(tactic| simp (disch := (first | omega | assumption | (simp only [List.length_set, List.length_append, List.length_cons, List.length_nil, List.length_map, List.length_take, List.length_drop, List.length_reverse, List.length_replicate, List.length_range] <;> omega) | (intro; omega) | (simp only [List.all_cons, List.all_nil, z4q, z6n, Option.isSome_some, Bool.and_true, Bool.and_self]; done) | decide)) only [z6g, z4m, z7i, z4r, z3u, z35, z8y, z2p, z0n, z7l, z4f, z6q, z6z, eC_, zc8, zab, z86, z7k, zaf, z5c, z4a, c1_, c2_, c3_, z9l, z5q, z88, zbn, z8o, zbu, zc4, zc1, zc5, zbi, zc2, zaq, z9w, z9k, z0f, z59, zam, z79, zbd, zba, z8e, zb8, z5e, z3x, z60, z64, z0p, zb9, zay, zax, z3g, z5m, z4x, z7e, z3s, z5u, za5, z5z, zan, z90, z2s, z7x, gN_, z5d, z2m, z1b, z98, z74, za2, z99, z8h, z5v, z63, z52, z0u, z91, z8r, z9o, z70, z6j, z67, z7m, z5x, z75, z66, z5s, z6k, z5n, z97, za1, z9j, z7r, z7d, z3b, z4o, z45, z5r, z7j, z9p, z9i, z3h, z40, z8b, z85, z4c, z0g, z72, z0y, z16, z1h, z1v, z15, z0v, z1n, z32, z1m, z1o, z0m, z1j, z0o, z1p, z0b, z1d, z01, z0c, z0x, z0e, z14, z00, z17, z0h, z04, z0j, z1f, z05, z11, z0k, z06, z1i, z2y, z1y, z2j, z5h, z5w, z2h, z3p, z8i, z22, z7s, zc7, z21, z4v, z2v, z0z, z4e, z0t, z6d, z34, z6r, z58, z54, z2z, za4, z3i, z38, z5g, z71, z0s, z46, z56, zbc, z8d, z6c, z94, z4h, zbo, z9e, zb1, z3q, z3l, z3v, zbf, zak, zaa, z55, z53, z39, z3y, z29, z9x, zbs, zau, z6i, z33, z8t, zad, z3m, zaz, z26, zav, z23, zae, z2e, z1w, z1l, zby, zar, zbb, z61, z24, zbw, z8q, z4s, z44, za8, z9f, z4y, z43, z10, z6u, zbx, z30, z09, zb7, z1q, z0l, zao, z0d, zac, z2u, z4k, zbz, zb4, zaj, z6e, zai, zah, za9, z42, zb2, z3d, zbg, z9y, zag, z81, zbp, z5k, zas, z68, z3k, z07, z0a, zbq, z4d, z9t, zb3, z87, z27, z1e, z7p, za6, z8x, z2b, z12, z2n, z6p, z8c, z8n, z83, z92, z8v, z5t, z8p, z9c, z9z, z9n, z2f, z2k, z2w, z9m, z7u, z3w, z0q, z6v, z4p, zc9, z8w, z4j, z6n, z6h, z4q, zaw, zbr, z9q, z2r, z9h, z1z, z2c, z1k, z18, z08, z03, z31, z0r, z1x, z13, z1r, z1c, za7, z78, z65, z5o, z0i, z02, c4_, z3f, zbk, z69, z4t, z4i, z6m, z50, z2t, z2d, z8f, z4l, z7v, z95, z2x, z7g, z7h, z3r, z3n, z2q, z6w, z4g, z4b, z1u, z25, zal, z7b, z3t, z51, z2g, z84, z5b, z5j, z7n, z7a, z3z, z2o, z6s, z76, z4u, z3e, z5p, z62, zbv, z8z, z7w, zbt, z28, z80, z73, z47, z3a, zbe, zc6, z6a, z96, z5a, z89, z6x, z6t, z6o, z5f, z7f, z3j, z7c, z49, za3, z7q, z8u, z7t, zc3, z3c, zb0, z1g, zbh, z6y, z77, zat, z2l, z9d, zap, zbl, z20, z8s, z0w, z7o, z5y, z36, z2a, z9s, z9b, zb5, z19, z9g, za0, z1s, zb6, z1a, z9u, z9r, z41, zc0, z7z, z8l, z5i, z9a, z37, z8g, z7y, z8a, z4w, z3o, z1t, z6f, z4n, z48, z4z, z9v, zbm, z5l, z8m, z57, z93, z2i, z82, z6b, z8k, wZ_, z8j, zbj, z6l, List.all_cons, List.all_nil, Bool.and_true, if_pos, if_neg, if_true, if_false, ite_true, ite_false, Bool.false_eq_true, Bool.true_eq_false, Bool.not_true, Bool.not_false, Bool.not_eq_true', decide_eq_true_eq, decide_eq_false_iff_not, Bool.not_eq_true, decide_true, decide_false, List.length_cons, List.length_nil, List.map_cons, List.map_nil, List.cons_append, List.nil_append, List.length_map, rep_nS, rep_n0, List.append_nil, List.mem_cons, List.mem_singleton, List.not_mem_nil, or_false, false_or, true_or, or_true, and_true, true_and, and_false, false_and, Option.isSome_some, Option.isSome_none, Option.isNone_none, Option.isNone_some, String.reduceEq, String.reduceNe, Nat.reduceAdd, Nat.reduceSub, Nat.reduceLT, Nat.reduceLeDiff, Nat.reduceMul, Int.reduceAdd, Int.reduceSub, Int.reduceMul, Int.reduceLT, Int.reduceLE, Int.reduceGT, Int.reduceEq, Int.reduceToNat, Int.reducePow, Int.reduceNeg, Nat.reduceEqDiff, eq_self, eq_self_iff_true, not_true_eq_false, not_false_eq_true, List.getElem?_cons_zero, List.getElem?_cons_succ, Option.bind_some, ne_eq, reduceCtorEq, Int.reduceDiv, Int.reduceMod, Bool.and_self, reduceIte, $xs,*] $[$loc]?)
local macro_rules
  | `(tactic| walk_at "fr!") => `(tactic| (repeat (first | exact Fr.refl | assumption | refine Fr.then_push ?_ | refine Fr.then_set ?_ (by first | exact Or.inr (Nat.le_refl _) | exact Or.inr (by omega) | (refine Or.inl ?_; simp; done) | (refine Or.inr ?_; simp; done)))))
/-- a draw's list (seed, kind, seed) -/
def Drw (A : Hs) (i : Nat) : Prop := ∃ a b c : Int, A[i]? = some (.lst [.int a, .int b, .int c])
theorem Drw.frame {A A1 : Hs} {i : Nat} {s : List Nat} (h : Drw A i) (f : Fr s A A1) (hi : i ∉ s) : Drw A1 i := by
  obtain ⟨a, b, c, h⟩ := h
  exact ⟨a, b, c, f.get h hi⟩
theorem Drw.lt {A : Hs} {i : Nat} (h : Drw A i) : i < A.length := by
  obtain ⟨a, b, c, h⟩ := h
  exact lt_of_get h
theorem state_ok {p q : Int} {A : Hs} : Rk (F_l_state [.int p, .int q] A) fun v A1 => v = .ref A.length ∧ Drw A1 A.length ∧ Fr [] A A1 := by
  unfold F_l_state
  by_cases h : 1000000000000000000 ≤ p
  · simp_arith [h]
    exact ⟨⟨_, _, _, zb3⟩, .push⟩
  · simp_arith [h]
    exact ⟨⟨_, _, _, zb3⟩, .push⟩
theorem not01 {a : Int} {A : Hs} : inl_ A (.int a) [.int 0, .int (-1)] true = .ok (.bl (!decide (a = 0 ∨ a = -1))) A := by
  have : [D.int 0, .int (-1)] = [0, -1].map D.int := rfl
  rw [this, z2c]
  simp
theorem next_ok {A : Hs} {i : Nat} {n : Int} (h : Drw A i) (hn : 0 < n) (hn2 : n < 18446744073709551616) : ∃ v A1, 0 ≤ v ∧ v < n ∧ F_l_next [.ref i, .int n] A = .ok (.int v) A1 ∧ Drw A1 i ∧ Fr [i] A A1 := by
  obtain ⟨a, b, c, h⟩ := h
  have hi := lt_of_get h
  have tail : ∀ (a c : Int) (B : Hs), B[i]? = some (.lst [.int a, .int 0, .int c]) ∨ (∃ b, b ≠ 1 ∧ B[i]? = some (.lst [.int a, .int b, .int c])) → Fr [i] A B → True := fun _ _ _ _ _ => trivial
  unfold F_l_next
  by_cases q1 : b = 1
  · by_cases q2 : a = 0 ∨ a = -1
    · obtain ⟨x, hx⟩ : ∃ x : Int, x = (c * 48271 + 11) % 2147483647 := ⟨_, rfl⟩
      obtain ⟨y, hy⟩ : ∃ y : Int, y = (x * x + 16807 * x) % 2147483629 := ⟨_, rfl⟩
      have bx : -18446744073709551616 < x ∧ x < 18446744073709551616 := by omega
      have b_y : -18446744073709551616 < y ∧ y < 18446744073709551616 := by omega
      refine ⟨(y * y + 7 * y) % 2147483587 / 5 % n, A.set i (.lst [.int x, .int 0, .int c]), Int.emod_nonneg _ (by omega), Int.emod_lt_of_pos _ hn, ?_, ⟨_, _, _, zbq hi⟩, .set (by simp)⟩
      simp_arith [h, q1, not01, decide_eq_true q2, List.set_cons_zero, List.set_cons_succ, ← hx, ← hy]
    · refine ⟨a % n, A.set i (.lst [.int (a / n), .int b, .int c]), Int.emod_nonneg _ (by omega), Int.emod_lt_of_pos _ hn, ?_, ⟨_, _, _, zbq hi⟩, .set (by simp)⟩
      simp_arith [h, q1, not01, decide_eq_false q2, List.set_cons_zero]
  · obtain ⟨x, hx⟩ : ∃ x : Int, x = (a * 48271 + 11) % 2147483647 := ⟨_, rfl⟩
    obtain ⟨y, hy⟩ : ∃ y : Int, y = (x * x + 16807 * x) % 2147483629 := ⟨_, rfl⟩
    have bx : -18446744073709551616 < x ∧ x < 18446744073709551616 := by omega
    have b_y : -18446744073709551616 < y ∧ y < 18446744073709551616 := by omega
    refine ⟨(y * y + 7 * y) % 2147483587 / 5 % n, A.set i (.lst [.int x, .int b, .int c]), Int.emod_nonneg _ (by omega), Int.emod_lt_of_pos _ hn, ?_, ⟨_, _, _, zbq hi⟩, .set (by simp)⟩
    simp_arith [h, q1, List.set_cons_zero, List.set_cons_succ, ← hx, ← hy]
theorem Rk.true {r : RE D} (h : Rk r fun v _ => v = .bl true) : ∃ A, r = .ok (.bl true) A := by
  obtain ⟨v, A1, e, rfl⟩ := h.ex
  exact ⟨A1, e⟩

def kvI (L : List (Int × D)) : List (D × D) := L.map fun p => (D.int p.1, p.2)
theorem kget_kvI {L : List (Int × D)} {k : Int} : kget (kvI L) (.int k) = L.lookup k := by
  induction L with
  | nil => rfl
  | cons p L ih =>
    obtain ⟨a, d⟩ := p
    unfold kvI at ih ⊢
    rw [List.map_cons, z1e, z71, look_cons_i, ih]
    by_cases h : a = k
    · subst h; simp
    · simp [h, Ne.symm h]
theorem khas_kvI {L : List (Int × D)} {k : Int} (h : L.lookup k = none) : khas (kvI L) (.int k) = false := by
  induction L with
  | nil => rfl
  | cons p L ih =>
    obtain ⟨a, d⟩ := p
    rw [look_cons_i] at h
    by_cases q : k = a
    · rw [if_pos q] at h; cases h
    · rw [if_neg q] at h
      have := ih h
      unfold khas kvI at this ⊢
      rw [List.map_cons, List.any_cons, this, z71, decide_eq_false (fun e => q e.symm)]; rfl
theorem kput_kvI {L : List (Int × D)} {k : Int} {d : D} (h : L.lookup k = none) : kput (kvI L) (.int k) d = kvI (L ++ [(k, d)]) := by
  unfold kput; rw [khas_kvI h]; simp [kvI]
theorem len_kvI {L : List (Int × D)} : (kvI L).length = L.length := by simp [kvI]
/-! tables -/
abbrev Tb := List (Int × List (Int × Int))
/-- one place's ways -/
def wys (w : List (Int × Int)) : List (D × D) := kvI (w.map fun p => (p.1, .int p.2))
/-- the table T at d, the ways' dicts at rs -/
structure IsT (A : Hs) (d : Nat) (T : Tb) (rs : List Nat) (lk : Bool) : Prop where
  l : rs.length = T.length
  o : A[d]? = some (.dic false lk (kvI ((T.map Prod.fst).zip (rs.map D.ref))))
  w : ∀ (i : Nat) (p : Int × List (Int × Int)) (r : Nat), T[i]? = some p → rs[i]? = some r → A[r]? = some (.dic false false (wys p.2))
theorem IsT.frame {A B : Hs} {d : Nat} {T : Tb} {rs : List Nat} {lk : Bool} {s : List Nat} (h : IsT A d T rs lk) (f : Fr s A B) (hd : d ∉ s) (hr : ∀ r ∈ rs, r ∉ s) : IsT B d T rs lk :=
  ⟨h.l, f.get h.o hd, fun i p r h1 h2 => f.get (h.w i p r h1 h2) (hr r (List.mem_of_getElem? h2))⟩
def plc (n : Int) : Bool := decide (0 ≤ n) && decide (n ≤ 255)
theorem is_place_ok {n : Int} {A : Hs} : F_is_place [.int n] A = .ok (.bl (plc n)) A := by
  unfold F_is_place plc
  by_cases h : 0 ≤ n
  · simp_arith [h, Bool.true_and]
  · simp_arith [h, Bool.false_and]
/-- the outer dict's pairs -/
def outs (T : Tb) (rs : List Nat) : List (Int × D) := (T.map Prod.fst).zip (rs.map D.ref)
def isIn (T : Tb) (p : Int) : Bool := (T.lookup p).isSome
theorem outs_isSome {p : Int} : ∀ {T : Tb} {rs : List Nat}, rs.length = T.length → ((outs T rs).lookup p).isSome = isIn T p
  | [], rs, h => rfl
  | (a, w) :: T, [], h => by simp at h
  | (a, w) :: T, r :: rs, h => by
    have ih := outs_isSome (p := p) (T := T) (rs := rs) (by simpa using h)
    unfold outs isIn at ih ⊢
    simp only [List.map_cons, List.zip_cons_cons, List.lookup_cons]
    cases c : (p == a) with
    | true => rfl
    | false => exact ih
theorem is_other_ok {A : Hs} {d : Nat} {T : Tb} {rs : List Nat} {lk : Bool} {n p : Int} (o1 : A[d]? = some (.dic false lk (kvI (outs T rs)))) (hl : rs.length = T.length) : F_is_other [.int n, .int p, .ref d] A = .ok (.bl (plc n && (isIn T n && !decide (n = p)))) A := by
  have hk : (kget (kvI (outs T rs)) (.int n)).isSome = isIn T n := by
    rw [kget_kvI]
    exact outs_isSome hl
  have e := is_place_ok (n := n) (A := A)
  unfold F_is_other
  cases c : plc n with
  | false =>
    rw [c] at e
    simp_arith [e]
    rfl
  | true =>
    rw [c] at e
    cases c2 : isIn T n with
    | false =>
      rw [c2] at hk
      simp_arith [e, o1, hk]
      first | done | rfl | simp
    | true =>
      rw [c2] at hk
      simp_arith [e, o1, hk]
      first | done | rfl | simp
theorem set_same {A : Hs} {i : Nat} {o : O} (h : A[i]? = some o) : A.set i o = A := by
  obtain ⟨hl, rfl⟩ := List.getElem?_eq_some_iff.mp h
  exact List.set_getElem_self hl
structure TbGd (T : Tb) : Prop where
  nd : (T.map Prod.fst).Nodup
  l : 1 ≤ T.length ∧ T.length ≤ 12
  p : ∀ z ∈ T, plc z.1 = true
  w : ∀ z ∈ T, ∀ y ∈ z.2, (plc y.1 = true ∧ isIn T y.1 = true ∧ y.1 ≠ z.1) ∧ (plc y.2 = true ∧ isIn T y.2 = true ∧ y.2 ≠ z.1)
theorem are_ways_ok {A : Hs} {d r : Nat} {T : Tb} {rs : List Nat} {lk : Bool} {p : Int} {w : List (Int × Int)} (o1 : A[d]? = some (.dic false lk (kvI (outs T rs)))) (hl : rs.length = T.length) (g : A[r]? = some (.dic false false (wys w))) (hrd : r ≠ d)
    (hw : ∀ y ∈ w, (plc y.1 = true ∧ isIn T y.1 = true ∧ y.1 ≠ p) ∧ (plc y.2 = true ∧ isIn T y.2 = true ∧ y.2 ≠ p)) : F_are_ways [.ref r, .int p, .ref d] A = .ok (.bl true) A := by
  have hr := lt_of_get g
  obtain ⟨B, hB⟩ : ∃ B, B = A.set r (.dic false true (wys w)) := ⟨_, rfl⟩
  have gB : B[r]? = some (.dic false true (wys w)) := by rw [hB]; exact zbq hr
  have oB : B[d]? = some (.dic false lk (kvI (outs T rs))) := by rw [hB, z4d hrd]; exact o1
  have back : B.set r (.dic false false (wys w)) = A := by rw [hB, List.set_set, set_same g]
  have i1 : oIsi os_ xs_ tb_ (.ref r) (.ty "dict") A = .ok (.bl true) A := by
    unfold oIsi isiD kdOf
    simp only [g]
    rfl
  suffices H : Rk (F_are_ways [.ref r, .int p, .ref d] A) fun v A1 => v = .bl true ∧ A1 = A by
    obtain ⟨_, _, e, rfl, rfl⟩ := H.ex
    exact e
  unfold F_are_ways
  simp_arith [i1, g, ← hB, gB]
  refine for_go (R := fun rs => Rk (finR (seqR (ulR r rs) _)) _) (fun j e C => ∃ o3 o4, e = [some (.ref r), some (.int p), some (.ref d), o3, o4] ∧ C = B) ⟨none, none, rfl, rfl⟩ (fun j e C _ h => by obtain ⟨_, _, _, rfl⟩ := h; exact gB) ?_ ?_
  · rintro j _ _ x hx ⟨o3, o4, rfl, rfl⟩
    rw [List.getElem?_map] at hx
    obtain ⟨q, hq, rfl⟩ := Option.map_eq_some_iff.mp hx
    unfold wys kvI at hq
    rw [List.map_map, List.getElem?_map] at hq
    obtain ⟨y, hy, rfl⟩ := Option.map_eq_some_iff.mp hq
    obtain ⟨⟨h1, h2, h3⟩, h4, h5, h6⟩ := hw y (List.mem_of_getElem? hy)
    have e1 := is_other_ok (n := y.1) (p := p) oB hl
    have e2 := is_other_ok (n := y.2) (p := p) oB hl
    rw [h1, h2, decide_eq_false h3] at e1
    rw [h4, h5, decide_eq_false h6] at e2
    simp only [Bool.not_false, Bool.and_self] at e1 e2
    show Got _ _
    dsimp only [Function.comp]
    simp_arith [e1, e2]
    exact ⟨_, _, rfl⟩
  · rintro _ _ ⟨o3, o4, rfl, rfl⟩
    simp_arith [gB, back]
theorem all_trsT {α : Type} {L : List α} : boolsOf (L.map fun _ => D.bl true) = some (L.map fun _ => true) := by
  have := z07 (L.map fun _ => true)
  rwa [List.map_map] at this

/-! a dict that is walked, locked already or not -/
theorem set_same' {A : Hs} {i : Nat} {o : O} (h : A[i]? = some o) : A.set i o = A := by
  obtain ⟨hl, rfl⟩ := List.getElem?_eq_some_iff.mp h
  exact List.set_getElem_self hl
def ulX (lk : Bool) (d : Nat) (r : RS) : RS := if lk = true then r else ulR d r
def ulY (lk : Bool) (d : Nat) (r : RE D) : RE D := if lk = true then r else ulE d r
theorem sLkN_at {x : E} {f : S} {env : Sl} {A : Hs} {d : Nat} {lk : Bool} {l : List (D × D)} (hx : x env A = .ok (.ref d) A) (h : A[d]? = some (.dic false lk l)) : sLkN x f env A = ulX lk d (f env (A.set d (.dic false true l))) := by
  rw [z7z, hx, z6a, z5i, h, z9a]
  cases lk with
  | true => rw [if_pos rfl, set_same' h]; rfl
  | false => rw [if_neg (by simp), zbe, hx, z6a, z96, h, z89]; rfl
theorem eLkN_at {x g : E} {env : Sl} {A : Hs} {d : Nat} {lk : Bool} {l : List (D × D)} (hx : x env A = .ok (.ref d) A) (h : A[d]? = some (.dic false lk l)) : eLkN x g env A = ulY lk d (g env (A.set d (.dic false true l))) := by
  rw [z8l, hx, z6a, z5i, h, z9a]
  cases lk with
  | true => rw [if_pos rfl, set_same' h]; rfl
  | false => rw [if_neg (by simp), zc6, hx, z6a, z5a, h, z6x]; rfl
theorem ulX_nx {lk : Bool} {d : Nat} {e : Sl} {C : Hs} {l : List (D × D)} (h : C[d]? = some (.dic false true l)) : ulX lk d (.nx e C) = .nx e (C.set d (.dic false lk l)) := by
  cases lk with
  | true => show RS.nx e C = _; rw [set_same' h]
  | false => show ulR d (.nx e C) = _; rw [z6t, h, za3]
theorem ulY_ok {lk : Bool} {d : Nat} {v : D} {C : Hs} {l : List (D × D)} (h : C[d]? = some (.dic false true l)) : ulY lk d (.ok v C) = .ok v (C.set d (.dic false lk l)) := by
  cases lk with
  | true => show RE.ok v C = _; rw [set_same' h]
  | false => show ulE d (.ok v C) = _; rw [z7c, h, za3]
/-- the heap with the dict locked, and back -/
theorem lk_back {A C : Hs} {d : Nat} {o u : O} (h : A[d]? = some o) (f : Fr [] (A.set d u) C) : Fr [] A (C.set d o) := by
  have lA := lt_of_get h
  have f1 : Fr [d] A (A.set d u) := Fr.set (by simp)
  have lC : d < C.length := by have := f.le; rw [List.length_set] at this; omega
  have f2 : Fr [d] A (C.set d o) := (f1.trans (f.mono (by simp))).trans (Fr.set (by simp))
  refine ⟨f2.le, fun j hj _ => ?_⟩
  by_cases c : j = d
  · subst c
    rw [zbq lC, h]
  · exact f2.2 j hj (by simpa using c)
/-! a table that is one -/
theorem flags_ok {B : Hs} {T : Tb} {rs : List Nat} {gd : Hs → Prop} {env : Sl} (hp : ∀ z ∈ T, plc z.1 = true) (hl : rs.length = T.length) (hT : T.length ≤ 12) (hg : gd B) (he : ∃ o0 o1 o2, env = [o0, o1, o2]) :
    lcL (SM.gN 1) tYe (eCall0 F_is_place (aCons (eVar 1) aNil)) gd env ((kvI (outs T rs)).map Prod.fst) [] B = .ok (T.map fun _ => D.bl true) B := by
  obtain ⟨o0, o1, o2, rfl⟩ := he
  have ek : (kvI (outs T rs)).map Prod.fst = T.map fun z => D.int z.1 := by
    unfold kvI outs
    rw [List.map_map]
    have : ∀ (T : Tb) (rs : List Nat), rs.length = T.length → ((T.map Prod.fst).zip (rs.map D.ref)).map (Prod.fst ∘ fun p => (D.int p.1, p.2)) = T.map fun z => D.int z.1 := by
      intro T
      induction T with
      | nil => intro rs _; rfl
      | cons z T ih =>
        intro rs h
        cases rs with
        | nil => simp at h
        | cons r rs =>
          rw [List.map_cons, List.map_cons, List.zip_cons_cons, List.map_cons, List.map_cons, ih rs (by simpa using h)]
          rfl
    exact this T rs hl
  rw [ek, lc_go (fun _ => true) (fun _ => .bl true) hg (by rw [List.length_map]; omega)]
  · rw [List.filter_eq_self.mpr (by simp), List.map_map]
    rfl
  · intro x hx
    obtain ⟨z, hz, rfl⟩ := List.mem_map.mp hx
    have e := is_place_ok (n := z.1) (A := B)
    rw [hp z hz] at e
    show Got _ _
    simp_arith [e]
    first | exact fun _ => rfl | trivial | exact ⟨rfl, rfl⟩
theorem need_ok {A : Hs} {d : Nat} {T : Tb} {rs : List Nat} {lk : Bool} (h : IsT A d T rs lk) (ok : TbGd T) (hd : d ∉ rs) : Rk (F_need_table [.ref d] A) fun v A1 => v = .non ∧ Fr [] A A1 := by
  have hl := h.l
  have hT := ok.l
  have ol : (kvI (outs T rs)).length = T.length := by rw [len_kvI]; unfold outs; rw [List.length_zip, List.length_map, List.length_map]; omega
  have o1 : A[d]? = some (.dic false lk (kvI (outs T rs))) := h.o
  have i1 : oIsi os_ xs_ tb_ (.ref d) (.ty "dict") A = .ok (.bl true) A := by
    unfold oIsi isiD kdOf
    simp only [o1]
    rfl
  have l1 : (1 : Int) ≤ (T.length : Int) := by omega
  have l2 : (T.length : Int) ≤ 12 := by omega
  have e0 : ∀ r B, eVar 0 (some (.ref d) :: r) B = .ok (.ref d) B := fun _ _ => rfl
  -- the flags of the places
  obtain ⟨B, hB⟩ : ∃ B, B = A.set d (.dic false true (kvI (outs T rs))) := ⟨_, rfl⟩
  have oB : B[d]? = some (.dic false true (kvI (outs T rs))) := by rw [hB]; exact zbq (lt_of_get o1)
  have fl := flags_ok (B := B) (gd := fun A' => A'[d]? = some (.dic false true (kvI (outs T rs)))) (env := [some (.ref d), none, none]) ok.p hl hT.2 oB ⟨_, _, _, rfl⟩
  have w1 := eLkN_at (g := eLc (wOf wkK (eVar 0)) (gN 1) tYe (eCall0 F_is_place (aCons (eVar 1) aNil)) [1]) (env := [some (.ref d), none, none]) (e0 _ _) o1
  rw [← hB] at w1
  obtain ⟨B1, hB1⟩ : ∃ B1, B1 = B ++ [O.lst (T.map fun _ => D.bl true)] := ⟨_, rfl⟩
  have f1 : Fr [] B B1 := by rw [hB1]; exact .push
  have o1' : B1[d]? = some (.dic false true (kvI (outs T rs))) := f1.get oB (by simp)
  have w2 : eLc (wOf wkK (eVar 0)) (gN 1) tYe (eCall0 F_is_place (aCons (eVar 1) aNil)) [1] [some (.ref d), none, none] B = .ok (.ref B.length) B1 := by
    simp_arith [oB, fl, ← hB1]
  rw [w2, ulY_ok o1'] at w1
  obtain ⟨C, hC⟩ : ∃ C, C = B1.set d (.dic false lk (kvI (outs T rs))) := ⟨_, rfl⟩
  have fC : Fr [] A C := by
    rw [hB] at f1
    rw [hC]; exact lk_back o1 f1
  rw [← hC] at w1
  have oC : C[d]? = some (.dic false lk (kvI (outs T rs))) := by rw [hC]; exact zbq (lt_of_get o1')
  have lB : B.length = A.length := by rw [hB]; simp
  have gC : C[B.length]? = some (.lst (T.map fun _ => D.bl true)) := by
    have := lt_of_get o1
    rw [hC, z4d (by omega), hB1]; simp
  have bT : boolsOf (T.map fun _ => D.bl true) = some (T.map fun _ => true) := all_trsT
  have aT : (T.map fun _ => true).all id = true := by simp
  -- the ways
  obtain ⟨E, hE⟩ : ∃ E, E = C.set d (.dic false true (kvI (outs T rs))) := ⟨_, rfl⟩
  have oE : E[d]? = some (.dic false true (kvI (outs T rs))) := by rw [hE]; exact zbq (lt_of_get oC)
  have w3 := fun f => sLkN_at (f := f) (env := [some (.ref d), none, none]) (e0 _ _) oC
  rw [← hE] at w3
  have back : E.set d (.dic false lk (kvI (outs T rs))) = C := by rw [hE, List.set_set, set_same' oC]
  have hw : ∀ (i : Nat) (p : Int × List (Int × Int)) (r : Nat), T[i]? = some p → rs[i]? = some r → E[r]? = some (.dic false false (wys p.2)) := fun i p r h1 h2 => by
    have := fC.get (h.w i p r h1 h2) (by simp)
    rw [hE, z4d (fun (e : d = r) => hd (by rw [e]; exact List.mem_of_getElem? h2))]
    exact this
  have ln : lnL_ A d (some (O.dic false lk (kvI (outs T rs)))) = .ok (.int ((kvI (outs T rs)).length : Nat)) A := by
    cases lk with
    | true => first | exact z8a | exact z8g | exact z7y | rfl
    | false => rw [z7y]; simp_arith [o1]
  unfold F_need_table
  simp_arith [i1, o1, ln, ol, l1, l2, w1, gC, bT, aT, w3, -z8l, -z7z, oE]
  refine for_go (R := fun rs => Rk (finR (ulX lk d rs)) _) (fun j e B' => ∃ o1 o2, e = [some (.ref d), o1, o2] ∧ B' = E) ⟨none, none, rfl, rfl⟩ (fun j e B' _ h => by obtain ⟨_, _, _, rfl⟩ := h; exact oE) ?_ ?_
  · rintro j _ _ x hx ⟨o1, o2, rfl, rfl⟩
    rw [List.getElem?_map] at hx
    obtain ⟨q, hq, rfl⟩ := Option.map_eq_some_iff.mp hx
    unfold kvI outs at hq
    rw [List.getElem?_map] at hq
    obtain ⟨⟨a, r⟩, hz, rfl⟩ := Option.map_eq_some_iff.mp hq
    obtain ⟨z1, z2⟩ := List.getElem?_zip_eq_some.mp hz
    rw [List.getElem?_map] at z1 z2
    obtain ⟨p, hp, rfl⟩ := Option.map_eq_some_iff.mp z1
    obtain ⟨r', hr, rfl⟩ := Option.map_eq_some_iff.mp z2
    have e1 := are_ways_ok (p := p.1) oE hl (hw j p r' hp hr) (fun (e : r' = d) => hd (by rw [← e]; exact List.mem_of_getElem? hr)) (ok.w p (List.mem_of_getElem? hp))
    show Got _ _
    simp_arith [e1]
    exact ⟨_, _, rfl⟩
  · rintro _ _ ⟨o1, o2, rfl, rfl⟩
    rw [ulX_nx oE, back]
    simp_arith []
    exact fC

/-! walks by a table -/
def nxt (T : Tb) (t p : Int) : Option Int := (T.lookup p).bind fun w => w.lookup t
/-- what is found, and where it comes round -/
def walkF (T : Tb) (t : Int) : Nat → List Int → List Int × Option Int
  | 0, f => (f, none)
  | n + 1, f => if f.getLast? = some t then (f, none) else match f.getLast?.bind (nxt T t) with
    | none => (f, none)
    | some q => if q ∈ f then (f, some q) else walkF T t n (f ++ [q])
def W (T : Tb) (p t : Int) : List Int × Option Int := walkF T t 12 [p]
def mI : Option Int → D
  | some o => .int o
  | none => .non
theorem isIn_mem {T : Tb} {p : Int} : isIn T p = true ↔ p ∈ T.map Prod.fst := by
  unfold isIn
  induction T with
  | nil => simp
  | cons z T ih =>
    obtain ⟨a, w⟩ := z
    rw [List.lookup_cons, List.map_cons, List.mem_cons]
    cases c : (p == a) with
    | true => simp at c; simp [c]
    | false =>
      have : p ≠ a := by simpa using c
      simp only
      rw [ih]
      simp [this]
theorem lookup_mem {α : Type} {T : List (Int × α)} {p : Int} {w : α} (h : T.lookup p = some w) : (p, w) ∈ T := by
  induction T with
  | nil => cases h
  | cons z T ih =>
    obtain ⟨a, v⟩ := z
    rw [List.lookup_cons] at h
    cases c : (p == a) with
    | true =>
      rw [c] at h
      simp only [Option.some.injEq] at h
      have : p = a := by simpa using c
      rw [this, h]; exact List.mem_cons_self
    | false => rw [c] at h; exact List.mem_cons_of_mem _ (ih h)
theorem nxt_ok {T : Tb} (ok : TbGd T) {t p q : Int} (h : nxt T t p = some q) : isIn T q = true ∧ q ≠ p := by
  unfold nxt at h
  obtain ⟨w, h1, h2⟩ := Option.bind_eq_some_iff.mp h
  have := ok.w _ (lookup_mem h1) _ (lookup_mem h2)
  exact ⟨this.2.2.1, this.2.2.2⟩
theorem row_at {A : Hs} : ∀ {T : Tb} {rs : List Nat}, rs.length = T.length → (∀ (i : Nat) (p : Int × List (Int × Int)) (r : Nat), T[i]? = some p → rs[i]? = some r → A[r]? = some (.dic false false (wys p.2))) → ∀ {p : Int} {w : List (Int × Int)}, T.lookup p = some w → ∃ r ∈ rs, (outs T rs).lookup p = some (.ref r) ∧ A[r]? = some (.dic false false (wys w))
  | [], _, _, _, p, w, h => by cases h
  | (a, v) :: T, [], hl, _, p, w, h => by simp at hl
  | (a, v) :: T, r :: rs, hl, hw, p, w, h => by
    rw [List.lookup_cons] at h
    unfold outs
    rw [List.map_cons, List.map_cons, List.zip_cons_cons, List.lookup_cons]
    cases c : (p == a) with
    | true =>
      rw [c] at h
      simp only [Option.some.injEq] at h
      subst h
      exact ⟨r, List.mem_cons_self, rfl, hw 0 (a, v) r rfl rfl⟩
    | false =>
      rw [c] at h
      obtain ⟨r', h1, h2, h3⟩ := row_at (T := T) (rs := rs) (by simpa using hl) (fun i p r z1 z2 => hw (i + 1) p r (by simpa using z1) (by simpa using z2)) h
      exact ⟨r', List.mem_cons_of_mem _ h1, h2, h3⟩
theorem look_wys {w : List (Int × Int)} {t : Int} : kget (wys w) (.int t) = (w.lookup t).map D.int := by
  unfold wys
  rw [kget_kvI]
  induction w with
  | nil => rfl
  | cons z w ih =>
    obtain ⟨a, b⟩ := z
    rw [List.map_cons, List.lookup_cons, List.lookup_cons, ih]
    cases (t == a) <;> rfl
theorem last_at {A : Hs} {i : Nat} {f : List Int} {x : Int} (h : A[i]? = some (.lst (f.map D.int))) (hx : f.getLast? = some x) : oIx (.ref i) (.int (-1)) A = .ok (.int x) A := by
  obtain ⟨g, rfl⟩ : ∃ g, f = g ++ [x] := by
    obtain ⟨ys, e⟩ := List.getLast?_eq_some_iff.mp hx
    exact ⟨ys, e⟩
  simp_arith [h]
  have e : ixN (List.map D.int (g ++ [x])).length (-1) = some g.length := by
    unfold ixN
    rw [if_neg (by omega), List.length_map, List.length_append, List.length_singleton, if_pos (by omega)]
    congr 1
    omega
  have : atI (List.map D.int (g ++ [x])) (-1) = some (.int x) := by
    unfold atI
    rw [e]
    show (List.map D.int (g ++ [x]))[g.length]? = _
    rw [List.getElem?_map, List.getElem?_append_right (by simp)]
    simp
  rw [this]; rfl
theorem nodup_le {f P : List Int} (h : f.Nodup) (s : ∀ x ∈ f, x ∈ P) : f.length ≤ P.length := by
  induction f generalizing P with
  | nil => simp
  | cons x f ih =>
    rw [List.nodup_cons] at h
    have hx := s x List.mem_cons_self
    have := ih (P := P.erase x) h.2 fun y hy => by
      have hne : y ≠ x := fun e => h.1 (e ▸ hy)
      exact (List.mem_erase_of_ne hne).mpr (s y (List.mem_cons_of_mem _ hy))
    rw [List.length_erase_of_mem hx] at this
    have := List.length_pos_of_mem hx
    rw [List.length_cons]; omega
/-- a walk under way -/
structure Wk' (T : Tb) (f : List Int) : Prop where
  nd : f.Nodup
  s : ∀ x ∈ f, isIn T x = true
  ne : f ≠ []
theorem Wk'.le {T : Tb} {f : List Int} (h : Wk' T f) (hT : T.length ≤ 12) : f.length ≤ 12 := by
  have := nodup_le (P := T.map Prod.fst) h.nd fun x hx => isIn_mem.mp (h.s x hx)
  rw [List.length_map] at this; omega
theorem Wk'.snoc {T : Tb} {f : List Int} {q : Int} (h : Wk' T f) (hq : isIn T q = true) (hn : q ∉ f) : Wk' T (f ++ [q]) := by
  refine ⟨?_, fun x hx => ?_, by simp⟩
  · rw [List.nodup_append]
    refine ⟨h.nd, by simp, fun a ha b hb e => ?_⟩
    rw [List.mem_singleton] at hb
    exact hn (hb ▸ e ▸ ha)
  · rcases List.mem_append.mp hx with z | z
    · exact h.s x z
    · rw [List.mem_singleton] at z; rw [z]; exact hq
theorem Wk'.last {T : Tb} {f : List Int} (h : Wk' T f) : ∃ x, f.getLast? = some x ∧ isIn T x = true := by
  cases e : f.getLast? with
  | none => rw [List.getLast?_eq_none_iff] at e; exact absurd e h.ne
  | some x => exact ⟨x, rfl, h.s x (List.mem_of_getLast? e)⟩

/-- pairs of neighbours in a walk -/
def Chn (T : Tb) (t : Int) (f : List Int) : Prop := ∀ (i : Nat) (x y : Int), f[i]? = some x → f[i + 1]? = some y → nxt T t x = some y ∧ x ≠ t
def WEnd (T : Tb) (t : Int) (f : List Int) (a : Option Int) : Prop := match a with
  | some q => q ∈ f ∧ ∃ x, f.getLast? = some x ∧ x ≠ t ∧ nxt T t x = some q
  | none => f.getLast? = some t ∨ ∃ x, f.getLast? = some x ∧ x ≠ t ∧ nxt T t x = none
structure WOk (T : Tb) (t : Int) (p : Int) (f : List Int) (a : Option Int) : Prop where
  k : Wk' T f
  c : Chn T t f
  h : f.head? = some p
  e : WEnd T t f a
theorem Chn.snoc {T : Tb} {t x q : Int} {f : List Int} (h : Chn T t f) (hx : f.getLast? = some x) (hn : x ≠ t) (hq : nxt T t x = some q) : Chn T t (f ++ [q]) := by
  intro i a b ha hb
  by_cases c : i + 1 < f.length
  · rw [List.getElem?_append_left (by omega)] at ha
    rw [List.getElem?_append_left c] at hb
    exact h i a b ha hb
  · have l2 := (List.getElem?_eq_some_iff.mp hb).1
    rw [List.length_append, List.length_singleton] at l2
    have i1 : i + 1 = f.length := by omega
    rw [List.getElem?_append_left (by omega)] at ha
    rw [List.getElem?_append_right (by omega), show i + 1 - f.length = 0 by omega] at hb
    simp at hb
    subst hb
    have e : f[i]? = f.getLast? := by rw [List.getLast?_eq_getElem?, show f.length - 1 = i by omega]
    rw [e, hx] at ha
    cases ha
    exact ⟨hq, hn⟩
theorem walkF_ok {T : Tb} {t p : Int} (ok : TbGd T) : ∀ {n : Nat} {f : List Int}, Wk' T f → f.length + n = 13 → Chn T t f → f.head? = some p → WOk T t p (walkF T t n f).1 (walkF T t n f).2
  | 0, f, k, hl, _, _ => by have := k.le ok.l.2; omega
  | n + 1, f, k, hl, c, hh => by
    obtain ⟨x, hx, _⟩ := k.last
    unfold walkF
    rw [hx]
    by_cases e : x = t
    · rw [if_pos (by rw [e])]
      exact ⟨k, c, hh, .inl (by rw [hx, e])⟩
    · rw [if_neg (by simpa using e)]
      simp only [Option.bind_some]
      cases q : nxt T t x with
      | none => exact ⟨k, c, hh, .inr ⟨x, hx, e, q⟩⟩
      | some y =>
        simp only
        by_cases m : y ∈ f
        · rw [if_pos m]; exact ⟨k, c, hh, m, x, hx, e, q⟩
        · rw [if_neg m]
          refine walkF_ok ok (k.snoc (nxt_ok ok q).1 m) (by simp; omega) (c.snoc hx e q) ?_
          rw [List.head?_append, hh]; rfl
theorem one_wk {T : Tb} {p : Int} (hp : isIn T p = true) : Wk' T [p] := ⟨by simp, fun x hx => by rw [List.mem_singleton] at hx; rw [hx]; exact hp, by simp⟩
theorem W_ok {T : Tb} {p t : Int} (ok : TbGd T) (hp : isIn T p = true) : WOk T t p (W T p t).1 (W T p t).2 := walkF_ok ok (one_wk hp) rfl (fun i x y h1 h2 => by simp at h2) rfl
theorem walked_ok {A : Hs} {d : Nat} {T : Tb} {rs : List Nat} {lk : Bool} {p t : Int} (h : IsT A d T rs lk) (ok : TbGd T) (hp : isIn T p = true) : Rk (F_l_walked [.ref d, .int p, .int t] A) fun v A1 => v = .tup [.ref A.length, mI (W T p t).2] ∧ A1[A.length]? = some (.lst ((W T p t).1.map D.int)) ∧ Fr [] A A1 := by
  have ld := lt_of_get h.o
  obtain ⟨A1, hA1⟩ : ∃ A1, A1 = A ++ [O.lst [.int p]] := ⟨_, rfl⟩
  have f1 : Fr [] A A1 := by rw [hA1]; exact .push
  have g1 : A1[A.length]? = some (.lst [.int p]) := by rw [hA1]; simp
  unfold F_l_walked
  simp_arith [← hA1]
  refine wh_go (fun n e C => ∃ (f : List Int) (o4 : Option D), e = [some (.ref d), some (.int p), some (.int t), some (.ref A.length), o4] ∧ C[A.length]? = some (.lst (f.map D.int)) ∧ Wk' T f ∧ f.length + n = 13 ∧ walkF T t n f = W T p t ∧ Fr [] A C) (fun rs => Rk (finR (seqR rs _)) _) (n := 12) ⟨[p], none, rfl, g1, one_wk hp, rfl, rfl, f1⟩ ?_
  rintro n _ C ⟨f, o4, rfl, gf, k, hl, hw, fC⟩
  obtain ⟨m, rfl⟩ : ∃ m, n = m + 1 := ⟨n - 1, by have := k.le ok.l.2; omega⟩
  obtain ⟨x, hx, xi⟩ := k.last
  have la := last_at gf hx
  have hC := h.frame fC (by simp) (by simp)
  have oC : C[d]? = some (.dic false lk (kvI (outs T rs))) := hC.o
  have lf : f.length ≤ 12 := k.le ok.l.2
  unfold walkF at hw
  rw [hx] at hw
  by_cases e : x = t
  · rw [if_pos (by rw [e])] at hw
    simp_arith [la, e, -z8q]
    rw [← hw]
    exact ⟨rfl, gf, fC⟩
  · rw [if_neg (by simpa using e)] at hw
    simp only [Option.bind_some] at hw
    obtain ⟨w, hlw⟩ := Option.isSome_iff_exists.mp xi
    obtain ⟨r, hr, hor, hrw⟩ := row_at hC.l hC.w hlw
    have hk : kget (kvI (outs T rs)) (.int x) = some (.ref r) := by rw [kget_kvI]; exact hor
    have nx : nxt T t x = w.lookup t := by unfold nxt; rw [hlw]; rfl
    rw [nx] at hw
    have lw := look_wys (w := w) (t := t)
    cases q : w.lookup t with
    | none =>
      rw [q] at hw lw
      simp only at hw
      have lw' : kget (wys w) (.int t) = none := lw
      simp_arith [la, e, oC, hk, hrw, lw', -z8q]
      rw [← hw]
      exact ⟨rfl, gf, fC⟩
    | some y =>
      rw [q] at hw lw
      simp only at hw
      have lw' : kget (wys w) (.int t) = some (.int y) := lw
      by_cases my : y ∈ f
      · rw [if_pos my] at hw
        simp_arith [la, e, oC, hk, hrw, lw', gf, z2c, my, -z8q]
        rw [← hw]
        exact ⟨rfl, rfl, fC⟩
      · rw [if_neg my] at hw
        have lf' : (f.map D.int).length < 16000000 := by rw [List.length_map]; omega
        obtain ⟨C1, hC1⟩ : ∃ C1, C1 = C.set A.length (.lst (f.map D.int ++ [.int y])) := ⟨_, rfl⟩
        have gC1 : C1[A.length]? = some (.lst ((f ++ [y]).map D.int)) := by
          rw [hC1, zbq (lt_of_get gf), List.map_append]; rfl
        have fC1 : Fr [] A C1 := by rw [hC1]; exact fC.then_set (.inr (Nat.le_refl _))
        simp_arith [la, e, oC, hk, hrw, lw', gf, z2c, my, ← hC1, -z8q]
        exact ⟨m, by omega, f ++ [y], _, rfl, gC1, k.snoc (nxt_ok ok (nx.trans q)).1 my, by simp; omega, hw, fC1⟩

/-! the least; where something stands -/
theorem argBest_leT (bt : Nat → Nat → Bool) : ∀ n, argBest bt n ≤ n
  | 0 => Nat.le_refl _
  | n + 1 => by
    unfold argBest
    have := argBest_leT bt n
    split <;> omega
theorem bix_ltT {ds : List PyData} (h : 0 < ds.length) : L2.bix false ds < ds.length := by
  have := argBest_leT (fun i j => if false = true then PySem.W.dataLt (ds.getD j .none) (ds.getD i .none) else PySem.W.dataLt (ds.getD i .none) (ds.getD j .none)) (ds.length - 1)
  unfold L2.bix
  omega
def LE (a b : PyData) : Bool := PySem.W.dataLe false (fun x : PyData => x) a b
theorem LE_eq {a b : PyData} : LE a b = !PySem.W.dataLt b a := by
  unfold LE; rw [PySem.W.dataLe_eq]; rfl
theorem LE_tot : PySem.W.TotalLe LE := by
  have h : PySem.W.TotalLe (PySem.W.dataLe false (fun x : PyData => x)) := by
    unfold PySem.W.dataLe
    exact PySem.W.sortLe_total _ _ _
  exact h
theorem LE_refl {a : PyData} : LE a a = true := by rcases LE_tot.total a a with h | h <;> exact h
theorem argBest_min {α : Type} (f : Nat → PyData) : ∀ (n i : Nat), i ≤ n → LE (f (argBest (fun i j => PySem.W.dataLt (f i) (f j)) n)) (f i) = true
  | 0, i, h => by
    have : i = 0 := by omega
    subst this
    exact LE_refl
  | n + 1, i, h => by
    have ih := fun i hi => argBest_min (α := α) f n i hi
    unfold argBest
    by_cases c : PySem.W.dataLt (f (n + 1)) (f (argBest (fun i j => PySem.W.dataLt (f i) (f j)) n)) = true
    · rw [if_pos c]
      have c1 : LE (f (argBest (fun i j => PySem.W.dataLt (f i) (f j)) n)) (f (n + 1)) = false := by rw [LE_eq, c]; rfl
      have c2 : LE (f (n + 1)) (f (argBest (fun i j => PySem.W.dataLt (f i) (f j)) n)) = true := by
        rcases LE_tot.total (f (n + 1)) (f (argBest (fun i j => PySem.W.dataLt (f i) (f j)) n)) with z | z
        · exact z
        · rw [c1] at z; cases z
      by_cases e : i = n + 1
      · subst e; exact LE_refl
      · exact LE_tot.trans _ _ _ c2 (ih i (by omega))
    · rw [if_neg c]
      by_cases e : i = n + 1
      · subst e; rw [LE_eq]; simpa using c
      · exact ih i (by omega)
theorem bix_min {ds : List PyData} {i : Nat} (h : i < ds.length) : LE (ds.getD (L2.bix false ds) .none) (ds.getD i .none) = true := by
  have := argBest_min (α := Unit) (fun i => ds.getD i .none) (ds.length - 1) i (by omega)
  unfold L2.bix
  exact this
theorem LE_int {a b : Int} : LE (.int a) (.int b) = decide (a ≤ b) := by
  unfold LE
  have := congrFun (congrFun (PySem.W.dataLe_int (fun x : Int => x)) a) b
  exact this
def minI (f : List Int) : Int := (f[L2.bix false (f.map .int)]?).getD 0
theorem minI_at {f : List Int} (h : f ≠ []) : f[L2.bix false (f.map .int)]? = some (minI f) := by
  have := bix_ltT (ds := f.map .int) (by rw [List.length_map]; exact List.length_pos_iff.mpr h)
  rw [List.length_map] at this
  unfold minI
  rw [List.getElem?_eq_getElem this]; rfl
theorem minI_mem {f : List Int} (h : f ≠ []) : minI f ∈ f := List.mem_of_getElem? (minI_at h)
theorem minI_le {f : List Int} {x : Int} (hx : x ∈ f) : minI f ≤ x := by
  have ne : f ≠ [] := fun e => by rw [e] at hx; simp at hx
  obtain ⟨i, hi⟩ := List.getElem?_of_mem hx
  have li := (List.getElem?_eq_some_iff.mp hi).1
  have := bix_min (ds := f.map .int) (i := i) (by rw [List.length_map]; exact li)
  rw [List.getD_eq_getElem?_getD, List.getD_eq_getElem?_getD, List.getElem?_map, List.getElem?_map, hi, minI_at ne] at this
  have this : LE (.int (minI f)) (.int x) = true := this
  rw [LE_int] at this
  exact of_decide_eq_true this
theorem minI_eq {f g : List Int} (hf : f ≠ []) (h : ∀ x, x ∈ f ↔ x ∈ g) : minI f = minI g := by
  have hg : g ≠ [] := fun e => by
    have := (h _).mp (minI_mem hf)
    rw [e] at this; simp at this
  have a := minI_le ((h _).mpr (minI_mem hg))
  have b := minI_le ((h _).mp (minI_mem hf))
  omega
theorem pyAll_ints {A : Hs} {f : List Int} : pyAll A (f.map D.int) = some (f.map .int) := by
  unfold pyAll
  induction f with
  | nil => rfl
  | cons x f ih =>
    rw [List.map_cons, List.map_cons]
    have : pyA A 40 (.int x) = some (.int x) := by rw [pyA]
    rw [this, allSome, ih]; rfl
theorem best_at {A : Hs} {i : Nat} {f : List Int} (h : A[i]? = some (.lst (f.map D.int))) (hf : f ≠ []) : oBest false (.ref i) A = .ok (.int (minI f)) A := by
  unfold oBest
  have s : seqL A (.ref i) = some (f.map D.int) := by unfold seqL; simp only [h]
  have e1 : alikeB (f.map PyData.int) = true := by
    unfold alikeB
    rw [List.all_map, List.all_eq_true]
    intro x _
    rw [Function.comp_apply, List.all_map, List.all_eq_true]
    intro y _
    rfl
  have e2 : (f.map PyData.int).all nonone = true := by
    rw [List.all_map, List.all_eq_true]
    intro x _
    rfl
  have e3 : (f.map D.int)[L2.bix false (f.map .int)]? = some (.int (minI f)) := by
    rw [List.getElem?_map, minI_at hf]; rfl
  simp only [s, pyAll_ints]
  rw [if_pos ⟨e1, e2, by rw [List.length_map]; exact List.length_pos_iff.mpr hf⟩]
  simp only [e3]
theorem fVs_ints : ∀ {f : List Int}, fVs (f.map D.int) = some (f.map V.int)
  | [] => rfl
  | x :: f => by
    rw [List.map_cons, fVs, fVs_ints (f := f)]
    rfl
theorem idxV_ints {q : Int} : ∀ {f : List Int}, q ∈ f → idxV (.int q) (f.map V.int) = some (f.idxOf q)
  | [], h => by simp at h
  | x :: f, h => by
    rw [List.map_cons]
    unfold idxV
    have e : eqV (.int x) (.int q) = decide (x = q) := by
      first | rfl | simp [eqV]
    rw [e]
    by_cases c : x = q
    · subst c
      rw [if_pos (by simp), List.idxOf_cons_self]
    · rw [if_neg (by simpa using c)]
      have hq : q ∈ f := by
        rcases List.mem_cons.mp h with z | z
        · exact absurd z.symm c
        · exact z
      rw [idxV_ints hq, List.idxOf_cons]
      have : (x == q) = false := by simpa using c
      rw [this]; rfl
theorem index_at {A : Hs} {i : Nat} {f : List Int} {q : Int} (h : A[i]? = some (.lst (f.map D.int))) (hq : q ∈ f) : oIndex (.ref i) [.int q] A = .ok (.int (f.idxOf q : Nat)) A := by
  rw [z2d, h, zau, Option.bind_some, fVs_ints, z8f, idxV_ints hq]; rfl
/-- a ring, from its least place on -/
def turnL (f : List Int) (q : Int) : List Int := (f.drop (f.idxOf q)).drop ((f.drop (f.idxOf q)).idxOf (minI (f.drop (f.idxOf q)))) ++ (f.drop (f.idxOf q)).take ((f.drop (f.idxOf q)).idxOf (minI (f.drop (f.idxOf q))))

noncomputable def lwR : S := (sSeq (sSet 5 (eSl oSl (eVar 3) (oSo (eBL oIndex (eVar 3) (aCons (eVar 4) aNil))) oNo)) (sSeq (sSet 6 (eBL oIndex (eVar 5) (aCons (eCB (c1 (oBest false)) (aCons (eVar 5) aNil)) aNil))) (sRet (eTup (aCons (eC (dS "ring")) (aCons (eOp oAdd (eSl oSl (eVar 5) (oSo (eVar 6)) oNo) (eSl oSl (eVar 5) oNo (oSo (eVar 6)))) aNil))))))
theorem lw_eq : F_l_way = mkFn 3 7 (sSeq (sAsg (eCall F_l_walked (aCons (eVar 0) (aCons (eVar 1) (aCons (eVar 2) aNil)))) (gT [(gN 3), (gN 4)])) (sSeq (sIf (tOf (eOp oIsNot (eVar 4) (eC .non))) lwR sNx) (sRet (eIf (tOf (eOp oEq (eOp oIx (eVar 3) (eUn oNeg (eC (.int 1)))) (eVar 2))) (eVar 3) (eC .non))))) := rfl
noncomputable def ldR : S := (sSeq (sSet 5 (eSl oSl (eVar 3) (oSo (eBL oIndex (eVar 3) (aCons (eVar 4) aNil))) oNo)) (sSeq (sSet 6 (eBL oIndex (eVar 5) (aCons (eCB (c1 (oBest false)) (aCons (eVar 5) aNil)) aNil))) (sRet (eTup (aCons (eC (dS "ring")) (aCons (eOp oAdd (eSl oSl (eVar 5) (oSo (eVar 6)) oNo) (eSl oSl (eVar 5) oNo (oSo (eVar 6)))) aNil))))))
theorem ld_eq : F_led = mkFn 3 7 (sSeq (sSet 3 (eLst (aCons (eVar 1) aNil))) (sSeq (sWh (tOf (eOp oNe (eOp oIx (eVar 3) (eUn oNeg (eC (.int 1)))) (eVar 2))) (sSeq (sSet 4 (eGet2 (eOp oDGet (eVar 0) (eOp oIx (eVar 3) (eUn oNeg (eC (.int 1))))) (eVar 2) (eC .non))) (sSeq (sIf (tOf (eOp oIs (eVar 4) (eC .non))) (sRet (eC .non)) sNx) (sSeq (sIf (tOf (eOp oIn (eVar 4) (eVar 3))) ldR sNx) (sDrop (eBL oAppend (eVar 3) (aCons (eVar 4) aNil))))))) (sRet (eVar 3)))) := rfl
inductive Told where
  | no | path (l : List Int) | ring (l : List Int)
def told (T : Tb) (p t : Int) : Told := match (W T p t).2 with
  | some q => .ring (turnL (W T p t).1 q)
  | none => if (W T p t).1.getLast? = some t then .path (W T p t).1 else .no
def IsTold (A1 : Hs) (M : Nat) (v : D) : Told → Prop
  | .no => v = .non
  | .path l => ∃ i, v = .ref i ∧ M ≤ i ∧ A1[i]? = some (.lst (l.map D.int))
  | .ring l => ∃ i, v = .tup [dS "ring", .ref i] ∧ M ≤ i ∧ A1[i]? = some (.lst (l.map D.int))
theorem lwR_eq : lwR = ldR := rfl
theorem ringS_ok {C : Hs} {i : Nat} {f : List Int} {q : Int} (gf : C[i]? = some (.lst (f.map D.int))) (hq : q ∈ f) (hl : f.length ≤ 12) {o0 o1 o2 o5 o6 : Option D} :
    ∃ C1, ldR [o0, o1, o2, some (.ref i), some (.int q), o5, o6] C = .rt (.tup [dS "ring", .ref (C.length + 3)]) C1 ∧ C1[C.length + 3]? = some (.lst ((turnL f q).map D.int)) ∧ Fr [] C C1 := by
  have i1 := index_at gf hq
  have li := List.idxOf_lt_length_of_mem hq
  obtain ⟨pl, hpl⟩ : ∃ pl, pl = f.drop (f.idxOf q) := ⟨_, rfl⟩
  have lpl : pl.length ≤ 12 := by rw [hpl, List.length_drop]; omega
  have pne : pl ≠ [] := fun e => by
    have := congrArg List.length e
    rw [hpl, List.length_drop, List.length_nil] at this; omega
  obtain ⟨C1, hC1⟩ : ∃ C1, C1 = C ++ [O.lst (pl.map D.int)] := ⟨_, rfl⟩
  have g1 : C1[C.length]? = some (.lst (pl.map D.int)) := by rw [hC1]; simp
  have m1 : C1.length = C.length + 1 := by rw [hC1]; simp
  have cut1 : List.drop (Int.toNat (f.idxOf q : Nat)) (f.map D.int) = pl.map D.int := by
    rw [show ((f.idxOf q : Nat) : Int).toNat = f.idxOf q by omega, hpl, List.map_drop]
  have b1 := best_at g1 pne
  have i2 := index_at g1 (minI_mem pne)
  obtain ⟨k, hk⟩ : ∃ k, k = pl.idxOf (minI pl) := ⟨_, rfl⟩
  rw [← hk] at i2
  obtain ⟨C2, hC2⟩ : ∃ C2, C2 = C1 ++ [O.lst ((pl.drop k).map D.int)] := ⟨_, rfl⟩
  have m2 : C2.length = C.length + 2 := by rw [hC2]; simp [m1]
  have f2 : Fr [] C1 C2 := by rw [hC2]; exact .push
  have g2 : C2[C.length + 1]? = some (.lst ((pl.drop k).map D.int)) := by rw [hC2, ← m1]; simp
  have g12 := f2.get g1 (by simp)
  have cut2 : List.drop (Int.toNat (k : Nat)) (pl.map D.int) = (pl.drop k).map D.int := by
    rw [show ((k : Nat) : Int).toNat = k by omega, List.map_drop]
  have cut3 : List.take (Int.toNat (k : Nat)) (pl.map D.int) = (pl.take k).map D.int := by
    rw [show ((k : Nat) : Int).toNat = k by omega, List.map_take]
  obtain ⟨C3, hC3⟩ : ∃ C3, C3 = C2 ++ [O.lst ((pl.take k).map D.int)] := ⟨_, rfl⟩
  have m3 : C3.length = C.length + 3 := by rw [hC3]; simp [m2]
  have f3 : Fr [] C2 C3 := by rw [hC3]; exact .push
  have g3 : C3[C.length + 2]? = some (.lst ((pl.take k).map D.int)) := by rw [hC3, ← m2]; simp
  have g23 := f3.get g2 (by simp)
  obtain ⟨C4, hC4⟩ : ∃ C4, C4 = C3 ++ [O.lst ((pl.drop k ++ pl.take k).map D.int)] := ⟨_, rfl⟩
  have f4 : Fr [] C3 C4 := by rw [hC4]; exact .push
  have g4 : C4[C.length + 3]? = some (.lst ((pl.drop k ++ pl.take k).map D.int)) := by rw [hC4, ← m3]; simp
  have ad : oAdd (.ref (C.length + 1)) (.ref (C.length + 2)) C3 = .ok (.ref (C.length + 3)) C4 := by
    rw [oAdd_l g23 g3 (by simp only [List.length_map, List.length_drop, List.length_take]; omega), ← m3, hC4, List.map_append]
  refine ⟨C4, ?_, ?_, ?_⟩
  · unfold ldR
    simp_arith [i1, gf, cut1, ← hC1, b1, i2, g1, cut2, ← hC2, g12, cut3, ← hC3, m1, m2, ad, -z2d]
  · have : turnL f q = pl.drop k ++ pl.take k := by unfold turnL; rw [← hpl, ← hk]
    rw [this]; exact g4
  · have f1 : Fr [] C C1 := by rw [hC1]; exact .push
    exact ((f1.trans f2).trans f3).trans f4
theorem lway_ok {A : Hs} {d : Nat} {T : Tb} {rs : List Nat} {lk : Bool} {p t : Int} (h : IsT A d T rs lk) (ok : TbGd T) (hp : isIn T p = true) : Rk (F_l_way [.ref d, .int p, .int t] A) fun v A1 => IsTold A1 A.length v (told T p t) ∧ Fr [] A A1 := by
  obtain ⟨_, A1, e1, rfl, g1, f1⟩ := (walked_ok (t := t) h ok hp).ex
  have w := W_ok (t := t) ok hp
  have lf := w.k.le ok.l.2
  have n1 := f1.le
  rw [lw_eq]
  unfold told
  cases q : (W T p t).2 with
  | some y =>
    rw [q] at e1
    have e1' : F_l_walked [.ref d, .int p, .int t] A = .ok (.tup [.ref A.length, .int y]) A1 := e1
    have wq := w.e
    rw [q] at wq
    obtain ⟨C, e2, g2, f2⟩ := ringS_ok (o0 := some (.ref d)) (o1 := some (.int p)) (o2 := some (.int t)) (o5 := none) (o6 := none) g1 wq.1 lf
    have nn : ∀ B, oIsNot (.int y) .non B = .ok (.bl true) B := fun _ => rfl
    rw [← lwR_eq] at e2
    simp_arith [e1', nn, e2]
    exact ⟨⟨_, rfl, by omega, g2⟩, f1.trans f2⟩
  | none =>
    rw [q] at e1
    have e1' : F_l_walked [.ref d, .int p, .int t] A = .ok (.tup [.ref A.length, .non]) A1 := e1
    have nn : ∀ B, oIsNot .non .non B = .ok (.bl false) B := fun _ => rfl
    obtain ⟨x, hx, _⟩ := w.k.last
    have la := last_at g1 hx
    by_cases c : x = t
    · simp_arith [e1', nn, la, c, -z8q]
      rw [if_pos (by rw [hx, c])]
      exact ⟨⟨_, rfl, Nat.le_refl _, g1⟩, f1⟩
    · simp_arith [e1', nn, la, c, -z8q]
      rw [if_neg (by rw [hx]; simpa using c)]
      exact ⟨rfl, f1⟩
theorem ledT_ok {A : Hs} {d : Nat} {T : Tb} {rs : List Nat} {lk : Bool} {p t : Int} (h : IsT A d T rs lk) (ok : TbGd T) (hp : isIn T p = true) : Rk (F_led [.ref d, .int p, .int t] A) fun v A1 => IsTold A1 A.length v (told T p t) ∧ Fr [] A A1 := by
  have ld := lt_of_get h.o
  obtain ⟨A1, hA1⟩ : ∃ A1, A1 = A ++ [O.lst [.int p]] := ⟨_, rfl⟩
  have f1 : Fr [] A A1 := by rw [hA1]; exact .push
  have g1 : A1[A.length]? = some (.lst [.int p]) := by rw [hA1]; simp
  rw [ld_eq]
  unfold told
  simp_arith [← hA1]
  refine wh_go (fun n e C => ∃ (f : List Int) (o4 : Option D), e = [some (.ref d), some (.int p), some (.int t), some (.ref A.length), o4, none, none] ∧ C[A.length]? = some (.lst (f.map D.int)) ∧ Wk' T f ∧ f.length + n = 13 ∧ walkF T t n f = W T p t ∧ Fr [] A C) (fun rs => Rk (finR (seqR rs _)) _) (n := 12) ⟨[p], none, rfl, g1, one_wk hp, rfl, rfl, f1⟩ ?_
  rintro n _ C ⟨f, o4, rfl, gf, k, hl, hw, fC⟩
  obtain ⟨m, rfl⟩ : ∃ m, n = m + 1 := ⟨n - 1, by have := k.le ok.l.2; omega⟩
  obtain ⟨x, hx, xi⟩ := k.last
  have la := last_at gf hx
  have hC := h.frame fC (by simp) (by simp)
  have oC : C[d]? = some (.dic false lk (kvI (outs T rs))) := hC.o
  have lf : f.length ≤ 12 := k.le ok.l.2
  have nC := fC.le
  unfold walkF at hw
  rw [hx] at hw
  by_cases e : x = t
  · rw [if_pos (by rw [e])] at hw
    simp_arith [la, e, -z8q]
    rw [← hw]
    simp only
    rw [if_pos (by rw [hx, e])]
    exact ⟨⟨_, rfl, Nat.le_refl _, gf⟩, fC⟩
  · rw [if_neg (by simpa using e)] at hw
    simp only [Option.bind_some] at hw
    obtain ⟨w, hlw⟩ := Option.isSome_iff_exists.mp xi
    obtain ⟨r, hr, hor, hrw⟩ := row_at hC.l hC.w hlw
    have hk : kget (kvI (outs T rs)) (.int x) = some (.ref r) := by rw [kget_kvI]; exact hor
    have nx : nxt T t x = w.lookup t := by unfold nxt; rw [hlw]; rfl
    rw [nx] at hw
    have lw := look_wys (w := w) (t := t)
    cases q : w.lookup t with
    | none =>
      rw [q] at hw lw
      simp only at hw
      have lw' : (kget (wys w) (.int t)).getD .non = .non := by rw [lw]; rfl
      have is : ∀ B, oIs .non .non B = .ok (.bl true) B := fun _ => rfl
      simp_arith [la, e, oC, hk, hrw, lw', is, -z8q]
      rw [← hw]
      simp only
      rw [if_neg (by rw [hx]; simpa using e)]
      exact ⟨rfl, fC⟩
    | some y =>
      rw [q] at hw lw
      simp only at hw
      have lw' : (kget (wys w) (.int t)).getD .non = .int y := by rw [lw]; rfl
      have is : ∀ B, oIs (.int y) .non B = .ok (.bl false) B := fun _ => rfl
      by_cases my : y ∈ f
      · rw [if_pos my] at hw
        obtain ⟨C1, e2, g2, f2⟩ := ringS_ok (o0 := some (.ref d)) (o1 := some (.int p)) (o2 := some (.int t)) (o5 := none) (o6 := none) gf my lf
        simp_arith [la, e, oC, hk, hrw, lw', is, gf, z2c, my, e2, -z8q]
        rw [← hw]
        exact ⟨⟨_, rfl, by omega, g2⟩, fC.trans f2⟩
      · rw [if_neg my] at hw
        have lf' : (f.map D.int).length < 16000000 := by rw [List.length_map]; omega
        obtain ⟨C1, hC1⟩ : ∃ C1, C1 = C.set A.length (.lst (f.map D.int ++ [.int y])) := ⟨_, rfl⟩
        have gC1 : C1[A.length]? = some (.lst ((f ++ [y]).map D.int)) := by
          rw [hC1, zbq (lt_of_get gf), List.map_append]; rfl
        have fC1 : Fr [] A C1 := by rw [hC1]; exact fC.then_set (.inr (Nat.le_refl _))
        simp_arith [la, e, oC, hk, hrw, lw', is, gf, z2c, my, ← hC1, -z8q]
        exact ⟨m, by omega, f ++ [y], _, rfl, gC1, k.snoc (nxt_ok ok (nx.trans q)).1 my, by simp; omega, hw, fC1⟩

noncomputable def duL : S := (sLkN (eVar 0) (sFor (wOf wkK (eVar 0)) (gN 2) (sLkN (eVar 0) (sFor (wOf wkK (eVar 0)) (gN 3) (sSeq (sSet 4 (eCall F_l_way (aCons (eVar 0) (aCons (eVar 3) (aCons (eVar 2) aNil))))) (sIf (tOf (eCB (c2 (oIsi os_ xs_ tb_)) (aCons (eVar 4) (aCons (eC (.ty "tuple")) aNil)))) (sDrop (eBL oAppend (eVar 1) (aCons (eTup (aCons (eVar 2) (aCons (eOp oIx (eVar 4) (eC (.int 1))) aNil))) aNil))) sNx))))))
theorem du_eq : F_l_due = mkFn 1 5 (sSeq (sSet 1 (eLst aNil)) (sSeq duL (sRet (eIf (tOf (eOp oNe (eVar 1) (eLst aNil))) (eOp oIx (eCB (c1 oSortD) (aCons (eVar 1) aNil)) (eC (.int 0))) (eC .non))))) := rfl
noncomputable def rgL2 : S := (sLkN (eVar 0) (sFor (wOf wkK (eVar 0)) (gN 2) (sLkN (eVar 0) (sFor (wOf wkK (eVar 0)) (gN 3) (sSeq (sSet 4 (eCall F_led (aCons (eVar 0) (aCons (eVar 3) (aCons (eVar 2) aNil))))) (sIf (tOf (eCB (c2 (oIsi os_ xs_ tb_)) (aCons (eVar 4) (aCons (eC (.ty "tuple")) aNil)))) (sDrop (eBL oAppend (eVar 1) (aCons (eTup (aCons (eVar 2) (aCons (eOp oIx (eVar 4) (eC (.int 1))) aNil))) aNil))) sNx))))))
theorem rg_eq : F_ring = mkFn 1 5 (sSeq (sDrop (eCall F_need_table (aCons (eVar 0) aNil))) (sSeq (sSet 1 (eLst aNil)) (sSeq rgL2 (sRet (eCK oMinDf (eVar 1) (eC .non)))))) := rfl
/-! all rings -/
def rgF (T : Tb) (t p : Int) : Option (Int × List Int) := match told T p t with
  | .ring l => some (t, l)
  | _ => none
def ringsT (T : Tb) : List (Int × List Int) := (T.map Prod.fst).flatMap fun t => (T.map Prod.fst).filterMap (rgF T t)
structure IsRg (A : Hs) (q : Nat) (rs : List Nat) (R : List (Int × List Int)) : Prop where
  o : A[q]? = some (.lst ((R.zip rs).map fun z => D.tup [.int z.1.1, .ref z.2]))
  l : rs.length = R.length
  r : ∀ (i : Nat) (r : Nat) (w : Int × List Int), rs[i]? = some r → R[i]? = some w → A[r]? = some (.lst (w.2.map D.int))
theorem IsRg.frm {A B : Hs} {q : Nat} {rs : List Nat} {R : List (Int × List Int)} {s : List Nat} (h : IsRg A q rs R) (f : Fr s A B) (hq : q ∉ s) (hr : ∀ r ∈ rs, r ∉ s) : IsRg B q rs R :=
  ⟨f.get h.o hq, h.l, fun i r w h1 h2 => f.get (h.r i r w h1 h2) (hr r (List.mem_of_getElem? h1))⟩
theorem IsRg.mem {A : Hs} {q : Nat} {rs : List Nat} {R : List (Int × List Int)} (h : IsRg A q rs R) {r : Nat} (hr : r ∈ rs) : ∃ l : List Int, A[r]? = some (.lst (l.map D.int)) := by
  obtain ⟨i, hi⟩ := List.getElem?_of_mem hr
  have li : i < R.length := by rw [← h.l]; exact (List.getElem?_eq_some_iff.mp hi).1
  exact ⟨_, h.r i r _ hi (List.getElem?_eq_getElem li)⟩
theorem keys_eq : ∀ {T : Tb} {rs : List Nat}, rs.length = T.length → (kvI (outs T rs)).map Prod.fst = (T.map Prod.fst).map D.int
  | [], rs, h => by
    unfold kvI outs; rfl
  | z :: T, [], h => by simp at h
  | z :: T, r :: rs, h => by
    have ih := keys_eq (T := T) (rs := rs) (by simpa using h)
    unfold kvI outs at ih ⊢
    rw [List.map_cons, List.map_cons, List.zip_cons_cons, List.map_cons, List.map_cons, ih]
    rfl
theorem lk_backS {A C : Hs} {d : Nat} {o u : O} {s : List Nat} (hs : d ∉ s) (h : A[d]? = some o) (f : Fr s (A.set d u) C) : Fr s A (C.set d o) := by
  have lA := lt_of_get h
  have lC : d < C.length := by have := f.le; rw [List.length_set] at this; omega
  have f2 : Fr (d :: s) A (C.set d o) := ((Fr.set (s := d :: s) (by simp)).trans (f.mono (fun x hx => List.mem_cons_of_mem _ hx))).trans (Fr.set (by simp))
  refine ⟨f2.le, fun j hj hn => ?_⟩
  by_cases c : j = d
  · subst c
    rw [zbq lC, h]
  · exact f2.2 j hj (by simp [c, hn])
theorem IsT.lock {A : Hs} {d : Nat} {T : Tb} {rs : List Nat} {lk lk2 : Bool} (h : IsT A d T rs lk) (hd : d ∉ rs) : IsT (A.set d (.dic false lk2 (kvI (outs T rs)))) d T rs lk2 :=
  ⟨h.l, zbq (lt_of_get h.o), fun i p r h1 h2 => by
    rw [z4d (fun (e : d = r) => hd (by rw [e]; exact List.mem_of_getElem? h2))]
    exact h.w i p r h1 h2⟩
noncomputable def loopS (F : Fn) : S := sLkN (eVar 0) (sFor (wOf wkK (eVar 0)) (gN 2) (sLkN (eVar 0) (sFor (wOf wkK (eVar 0)) (gN 3) (sSeq (sSet 4 (eCall F (aCons (eVar 0) (aCons (eVar 3) (aCons (eVar 2) aNil))))) (sIf (tOf (eCB (c2 (oIsi os_ xs_ tb_)) (aCons (eVar 4) (aCons (eC (.ty "tuple")) aNil)))) (sDrop (eBL oAppend (eVar 1) (aCons (eTup (aCons (eVar 2) (aCons (eOp oIx (eVar 4) (eC (.int 1))) aNil))) aNil))) sNx)))))
theorem duL_eq : duL = loopS F_l_way := rfl
theorem rgL_eq : rgL2 = loopS F_led := rfl
theorem fm_len {α β : Type} (f : α → Option β) (l : List α) : (l.filterMap f).length ≤ l.length := List.length_filterMap_le f l
theorem flat_le {α β : Type} {n : Nat} {f : α → List β} : ∀ {l : List α}, (∀ x ∈ l, (f x).length ≤ n) → (l.flatMap f).length ≤ n * l.length
  | [], _ => by simp
  | x :: l, h => by
    have := flat_le (l := l) fun y hy => h y (List.mem_cons_of_mem _ hy)
    have := h x List.mem_cons_self
    rw [List.flatMap_cons, List.length_append, List.length_cons, Nat.mul_succ]
    omega
theorem take_fm {α β : Type} {f : α → Option β} {l : List α} {j : Nat} {x : α} (h : l[j]? = some x) : (l.take (j + 1)).filterMap f = (l.take j).filterMap f ++ (f x).toList := by
  rw [List.take_succ, h, List.filterMap_append]
  cases q : f x <;> simp [q]
theorem loop_ok {F : Fn} {d : Nat} {T : Tb} {rs : List Nat} (ok : TbGd T) (hd : d ∉ rs) (hF : ∀ {A : Hs} {lk : Bool} {p t : Int}, IsT A d T rs lk → isIn T p = true → Rk (F [.ref d, .int p, .int t] A) fun v A1 => IsTold A1 A.length v (told T p t) ∧ Fr [] A A1)
    {A : Hs} {lk : Bool} (h : IsT A d T rs lk) {q : Nat} (hq : A[q]? = some (.lst [])) (hqd : q ≠ d) (hqr : q ∉ rs) :
    Nx (loopS F [some (.ref d), some (.ref q), none, none, none] A) fun e A1 => ∃ (o2 o3 o4 : Option D) (ws : List Nat), e = [some (.ref d), some (.ref q), o2, o3, o4] ∧ IsRg A1 q ws (ringsT T) ∧ (∀ r ∈ ws, A.length ≤ r) ∧ Fr [q] A A1 := by
  have o1 : A[d]? = some (.dic false lk (kvI (outs T rs))) := h.o
  have hl := h.l
  have lq := lt_of_get hq
  have e0 : ∀ r B, eVar 0 (some (.ref d) :: r) B = .ok (.ref d) B := fun _ _ => rfl
  obtain ⟨P, hP⟩ : ∃ P, P = T.map Prod.fst := ⟨_, rfl⟩
  have lP : P.length ≤ 12 := by rw [hP, List.length_map]; exact ok.l.2
  have kE : (kvI (outs T rs)).map Prod.fst = P.map D.int := by rw [hP]; exact keys_eq hl
  obtain ⟨B, hB⟩ : ∃ B, B = A.set d (.dic false true (kvI (outs T rs))) := ⟨_, rfl⟩
  have hT : IsT B d T rs true := hB ▸ h.lock hd
  have oB : B[d]? = some (.dic false true (kvI (outs T rs))) := hT.o
  have lB : B.length = A.length := by rw [hB]; simp
  have qB : B[q]? = some (.lst []) := by rw [hB, z4d (Ne.symm hqd)]; exact hq
  have w1 := fun f => sLkN_at (f := f) (env := [some (.ref d), some (.ref q), none, none, none]) (e0 _ _) o1
  rw [← hB] at w1
  have w2 : ∀ (f : S) (r : Sl) (C : Hs), C[d]? = some (.dic false true (kvI (outs T rs))) → sLkN (eVar 0) f (some (.ref d) :: r) C = f (some (.ref d) :: r) C := fun f r C hC => by
    rw [sLkN_at (e0 _ _) hC, set_same' hC]; rfl
  unfold loopS
  simp_arith [w1, oB, kE, -z7z]
  refine for_go (R := fun r => Nx (ulX lk d r) _) (fun i e C => ∃ (o2 o3 o4 : Option D) (ws : List Nat), e = [some (.ref d), some (.ref q), o2, o3, o4] ∧ IsRg C q ws ((P.take i).flatMap fun t => P.filterMap (rgF T t)) ∧ (∀ r ∈ ws, B.length ≤ r) ∧ Fr [q] B C) ⟨_, _, _, [], rfl, ⟨qB, rfl, fun i r w h1 h2 => (by simp at h1)⟩, by simp, Fr.refl⟩ (fun i e C _ h => by
    obtain ⟨_, _, _, _, _, _, _, fC⟩ := h
    exact fC.get oB (by simpa using Ne.symm hqd)) ?_ ?_
  · rintro i _ C dd hdd ⟨o2, o3, o4, ws, rfl, hR, hws, fC⟩
    rw [List.getElem?_map] at hdd
    obtain ⟨t, ht, rfl⟩ := Option.map_eq_some_iff.mp hdd
    have li := (List.getElem?_eq_some_iff.mp ht).1
    have tkf : (P.take (i + 1)).flatMap (fun t => P.filterMap (rgF T t)) = (P.take i).flatMap (fun t => P.filterMap (rgF T t)) ++ P.filterMap (rgF T t) := by
      rw [List.take_succ, ht, List.flatMap_append]; simp
    have oC := fC.get oB (by simpa using Ne.symm hqd)
    obtain ⟨R0, hR0⟩ : ∃ R0, R0 = (P.take i).flatMap fun t => P.filterMap (rgF T t) := ⟨_, rfl⟩
    have lR0 : R0.length ≤ 144 := by
      have := flat_le (n := 12) (l := P.take i) (f := fun t => P.filterMap (rgF T t)) fun x _ => Nat.le_trans (fm_len _ _) lP
      rw [hR0]
      rw [List.length_take] at this
      omega
    rw [← hR0] at hR tkf
    show Got _ _
    simp_arith [w2 _ _ C oC, oC, kE, -z7z]
    refine for_go (R := Trn _ _) (fun j e C2 => ∃ (o3 o4 : Option D) (ws : List Nat), e = [some (.ref d), some (.ref q), some (.int t), o3, o4] ∧ IsRg C2 q ws (R0 ++ (P.take j).filterMap (rgF T t)) ∧ (∀ r ∈ ws, B.length ≤ r) ∧ Fr [q] B C2) ⟨_, _, ws, rfl, by simpa using hR, hws, fC⟩ (fun j e C _ h => by
      obtain ⟨_, _, _, _, _, _, fC⟩ := h
      exact fC.get oB (by simpa using Ne.symm hqd)) ?_ ?_
    · rintro j _ C2 dd hdd ⟨o3, o4, ws, rfl, hR, hws, fC2⟩
      rw [List.getElem?_map] at hdd
      obtain ⟨p, hp, rfl⟩ := Option.map_eq_some_iff.mp hdd
      have pin : isIn T p = true := isIn_mem.mpr (by rw [← hP]; exact List.mem_of_getElem? hp)
      have hTC : IsT C2 d T rs true := hT.frame fC2 (by simpa using Ne.symm hqd) (fun r hr e => by rw [List.mem_singleton] at e; exact hqr (e ▸ hr))
      obtain ⟨v, C3, e3, hv, f3⟩ := (hF (t := t) hTC pin).ex
      have n2 := fC2.le
      have hR3 := hR.frm f3 (by simp) (by simp)
      have tf := take_fm (f := rgF T t) hp
      have fC3 := fC2.trans (f3.mono (by simp) : Fr [q] C2 C3)
      show Got _ _
      cases c : told T p t with
      | no =>
        have rf : rgF T t p = none := by unfold rgF; rw [c]
        rw [c] at hv
        rw [rf] at tf
        have hv : v = .non := hv
        subst hv
        simp_arith [e3]
        refine ⟨_, _, ws, rfl, ?_, hws, fC3⟩
        have : (P.take (j + 1)).filterMap (rgF T t) = (P.take j).filterMap (rgF T t) := by simpa using tf
        rw [this]; exact hR3
      | path l =>
        have rf : rgF T t p = none := by unfold rgF; rw [c]
        rw [c] at hv
        rw [rf] at tf
        obtain ⟨k, rfl, _, gk⟩ := hv
        have is : oIsi os_ xs_ tb_ (.ref k) (.ty "tuple") C3 = .ok (.bl false) C3 := by
          unfold oIsi isiD kdOf
          simp only [gk]
          rfl
        simp_arith [e3, is]
        refine ⟨_, _, ws, rfl, ?_, hws, fC3⟩
        have : (P.take (j + 1)).filterMap (rgF T t) = (P.take j).filterMap (rgF T t) := by simpa using tf
        rw [this]; exact hR3
      | ring l =>
        have rf : rgF T t p = some (t, l) := by unfold rgF; rw [c]
        rw [c] at hv
        rw [rf] at tf
        obtain ⟨k, rfl, hk, gk⟩ := hv
        have tf' : (P.take (j + 1)).filterMap (rgF T t) = (P.take j).filterMap (rgF T t) ++ [(t, l)] := by simpa using tf
        obtain ⟨R1, hR1⟩ : ∃ R1, R1 = R0 ++ (P.take j).filterMap (rgF T t) := ⟨_, rfl⟩
        rw [← hR1] at hR3
        have lR1 : R1.length ≤ 200 := by
          have := fm_len (rgF T t) (P.take j)
          rw [List.length_take] at this
          rw [hR1, List.length_append]
          omega
        have o3' := hR3.o
        obtain ⟨Z, hZ⟩ : ∃ Z, Z = (R1.zip ws).map fun z => D.tup [.int z.1.1, .ref z.2] := ⟨_, rfl⟩
        rw [← hZ] at o3'
        have lz : Z.length < 16000000 := by
          rw [hZ, List.length_map, List.length_zip]; omega
        obtain ⟨C4, hC4⟩ : ∃ C4, C4 = C3.set q (.lst (Z ++ [.tup [.int t, .ref k]])) := ⟨_, rfl⟩
        have f4 : Fr [q] C3 C4 := by rw [hC4]; exact Fr.set (by simp)
        have kq : k ≠ q := by omega
        have i1 : ∀ B : Hs, oIx (.tup [dS "ring", .ref k]) (.int 1) B = .ok (.ref k) B := fun _ => rfl
        simp_arith [e3, i1, o3', ← hC4]
        refine ⟨_, _, ws ++ [k], rfl, ?_, fun r hr => ?_, fC3.trans f4⟩
        · rw [tf', ← List.append_assoc, ← hR1]
          refine ⟨?_, by rw [List.length_append, List.length_append, hR3.l]; rfl, fun i' r w z1 z2 => ?_⟩
          · rw [hC4, zbq (lt_of_get o3'), hZ, List.zip_append hR3.l.symm, List.map_append]
            rfl
          · by_cases ci : i' < ws.length
            · rw [List.getElem?_append_left ci] at z1
              rw [List.getElem?_append_left (by rw [← hR3.l]; exact ci)] at z2
              have := hws r (List.mem_of_getElem? z1)
              exact f4.get (hR3.r i' r w z1 z2) (by simp; omega)
            · have c2 : i' = ws.length := by
                have := (List.getElem?_eq_some_iff.mp z1).1
                simp at this; omega
              subst c2
              rw [List.getElem?_append_right (Nat.le_refl _)] at z1
              rw [hR3.l, List.getElem?_append_right (Nat.le_refl _)] at z2
              simp at z1 z2
              subst z1 z2
              exact f4.get gk (by simpa using kq)
        · rcases List.mem_append.mp hr with z | z
          · exact hws r z
          · rw [List.mem_singleton] at z; omega
    · rintro _ C2 ⟨o3, o4, ws, rfl, hR, hws, fC2⟩
      rw [List.length_map, List.take_length] at hR
      exact ⟨_, _, _, ws, rfl, by rw [tkf]; exact hR, hws, fC2⟩
  · rintro _ C ⟨o2, o3, o4, ws, rfl, hR, hws, fC⟩
    rw [List.length_map, List.take_length] at hR
    have oC := fC.get oB (by simpa using Ne.symm hqd)
    rw [ulX_nx oC]
    have hRT : ringsT T = P.flatMap fun t => P.filterMap (rgF T t) := by unfold ringsT; rw [← hP]
    have fb : Fr [q] A (C.set d (.dic false lk (kvI (outs T rs)))) := lk_backS (by simpa using Ne.symm hqd) o1 (hB ▸ fC)
    have fs : Fr [d] C (C.set d (.dic false lk (kvI (outs T rs)))) := Fr.set (by simp)
    have ldA := lt_of_get o1
    refine ⟨_, _, _, ws, rfl, ?_, fun r hr => by have := hws r hr; omega, fb⟩
    rw [hRT]
    exact hR.frm fs (by simpa using hqd) (fun r hr => by have := hws r hr; simp; omega)

def pyR1 (w : Int × List Int) : PyData := .tuple [.int w.1, .list (w.2.map .int)]
theorem py_intsN {A : Hs} {n : Nat} {f : List Int} : allSome ((f.map D.int).map (pyA A (n + 1))) = some (f.map .int) := by
  induction f with
  | nil => rfl
  | cons x f ih =>
    rw [List.map_cons, List.map_cons]
    have : pyA A (n + 1) (.int x) = some (.int x) := by rw [pyA]
    rw [this, allSome, ih]; rfl
theorem py_item {A : Hs} {n r : Nat} {w : Int × List Int} (h : A[r]? = some (.lst (w.2.map D.int))) : pyA A (n + 3) (.tup [.int w.1, .ref r]) = some (pyR1 w) := by
  show (allSome ([D.int w.1, .ref r].map (pyA A (n + 2)))).map PyData.tuple = _
  rw [List.map_cons, List.map_cons, List.map_nil]
  have e1 : pyA A (n + 2) (.int w.1) = some (.int w.1) := by rw [pyA]
  have e2 : pyA A (n + 2) (.ref r) = some (.list (w.2.map .int)) := by
    rw [py_lst h, py_intsN]; rfl
  rw [e1, e2]; rfl
theorem py_items {A : Hs} {n : Nat} : ∀ {R : List (Int × List Int)} {rs : List Nat}, rs.length = R.length → (∀ (i : Nat) (r : Nat) (w : Int × List Int), rs[i]? = some r → R[i]? = some w → A[r]? = some (.lst (w.2.map D.int))) → allSome (((R.zip rs).map fun z => D.tup [.int z.1.1, .ref z.2]).map (pyA A (n + 3))) = some (R.map pyR1)
  | [], rs, _, _ => by simp [allSome]
  | w :: R, [], h, _ => by simp at h
  | w :: R, r :: rs, h, k => by
    rw [List.zip_cons_cons, List.map_cons, List.map_cons, py_item (k 0 r w rfl rfl), allSome, py_items (R := R) (rs := rs) (by simpa using h) fun i r w h1 h2 => k (i + 1) r w (by simpa using h1) (by simpa using h2)]
    rfl
theorem alike_R1 {a b : Int × List Int} : PySem.W.alike (pyR1 a) (pyR1 b) = true := by
  unfold pyR1
  simp only [PySem.W.alike, PySem.W.alikeAll, PySem.W.alike_ints, Bool.and_self]
theorem alikeB_R {R : List (Int × List Int)} : alikeB (R.map pyR1) = true := by
  unfold alikeB
  rw [List.all_map, List.all_eq_true]
  intro x _
  rw [Function.comp_apply, List.all_map, List.all_eq_true]
  intro y _
  exact alike_R1
theorem nonone_R {R : List (Int × List Int)} : (R.map pyR1).all nonone = true := by
  rw [List.all_map, List.all_eq_true]
  intro x _
  rfl
theorem sortable_R {R : List (Int × List Int)} : sortableB (R.map pyR1) = true := by
  unfold sortableB
  have : (R.map pyR1).all isTup1 = true := by
    rw [List.all_map, List.all_eq_true]
    intro x _
    rfl
  rw [this]; rfl
theorem LE_list {xs ys : List Int} : LE (.list (xs.map .int)) (.list (ys.map .int)) = decide (xs ≤ ys) := by
  unfold LE
  have := congrFun (congrFun (PySem.W.dataLe_rows (fun x : List Int => x)) xs) ys
  exact this
theorem LE_anti {a b : Int × List Int} (h : LE (pyR1 a) (pyR1 b) = true) (k : LE (pyR1 b) (pyR1 a) = true) : a = b := by
  obtain ⟨a1, a2⟩ := a
  obtain ⟨b1, b2⟩ := b
  rw [LE_eq] at h k
  unfold pyR1 at h k
  have ai : ∀ x y : Int, PySem.W.alike (.int x) (.int y) = true := fun _ _ => rfl
  have al : ∀ x y : List Int, PySem.W.alike (.list (x.map .int)) (.list (y.map .int)) = true := fun x y => by
    simp only [PySem.W.alike, PySem.W.alike_ints]
  rw [PySem.W.dataLt_pair (ai _ _) (al _ _)] at h k
  have li : ∀ x y : Int, PySem.W.dataLt (.int x) (.int y) = decide (x < y) := fun x y => by
    have := LE_int (a := y) (b := x)
    rw [LE_eq] at this
    cases q : PySem.W.dataLt (.int x) (.int y) with
    | true => rw [q] at this; symm; simpa using this
    | false => rw [q] at this; symm; simpa using this
  have ei : ∀ x y : Int, PyData.eqv (.int x) (.int y) = decide (x = y) := fun x y => by simp [PyData.eqv]; rfl
  simp only [ei, li] at h k
  by_cases c : a1 = b1
  · subst c
    simp only [decide_true, if_true] at h k
    have e1 : PyData.eqv (.list (b2.map .int)) (.list (a2.map .int)) = decide (b2 = a2) := by
      have : ∀ x y : List Int, PyData.eqvAll (x.map .int) (y.map .int) = decide (x = y) := by
        intro x
        induction x with
        | nil => intro y; cases y <;> simp [PyData.eqvAll]
        | cons u x ih =>
          intro y
          cases y with
          | nil => simp [PyData.eqvAll]
          | cons v y =>
            rw [List.map_cons, List.map_cons, PyData.eqvAll, ih, ei, Bool.eq_iff_iff]
            simp
      show PyData.eqvAll _ _ = _
      exact this _ _
    by_cases e : b2 = a2
    · rw [e]
    · have e' : ¬ a2 = b2 := fun z => e z.symm
      have e2 : PyData.eqv (.list (a2.map .int)) (.list (b2.map .int)) = false := by
        cases q : PyData.eqv (.list (a2.map .int)) (.list (b2.map .int)) with
        | false => rfl
        | true =>
          have t := PySem.W.toks_eqv (.list (b2.map .int)) (.list (a2.map .int)) (al _ _)
          have t2 := PySem.W.toks_eqv (.list (a2.map .int)) (.list (b2.map .int)) (al _ _)
          exfalso
          have := t2.1 q
          have z : LE (.list (a2.map .int)) (.list (b2.map .int)) = LE (.list (b2.map .int)) (.list (a2.map .int)) := by
            rw [LE_eq, LE_eq]
            unfold PySem.W.dataLt
            rw [this]
          rw [LE_list, LE_list] at z
          rcases List.le_total a2 b2 with m | m
          · rw [decide_eq_true m] at z
            exact e' (List.le_antisymm m (of_decide_eq_true z.symm))
          · rw [decide_eq_true m] at z
            exact e' (List.le_antisymm (of_decide_eq_true z) m)
      rw [e1, decide_eq_false e] at h
      rw [e2] at k
      simp only [Bool.false_eq_true, if_false] at h k
      have h' : LE (.list (a2.map .int)) (.list (b2.map .int)) = true := by rw [LE_eq]; exact h
      have k' : LE (.list (b2.map .int)) (.list (a2.map .int)) = true := by rw [LE_eq]; exact k
      rw [LE_list] at h' k'
      rw [List.le_antisymm (of_decide_eq_true h') (of_decide_eq_true k')]
  · have c' : ¬ b1 = a1 := fun z => c z.symm
    simp only [decide_eq_false c, decide_eq_false c', Bool.false_eq_true, if_false] at h k
    simp at h k
    omega
/-- the least of the rings -/
def Lst (R : List (Int × List Int)) (w : Int × List Int) : Prop := w ∈ R ∧ ∀ w' ∈ R, LE (pyR1 w) (pyR1 w') = true
theorem Lst.uniq {R : List (Int × List Int)} {w v : Int × List Int} (h : Lst R w) (k : Lst R v) : w = v := LE_anti (h.2 v k.1) (k.2 w h.1)

theorem rg_items {A : Hs} {q : Nat} {rs : List Nat} {R : List (Int × List Int)} (h : IsRg A q rs R) : pyAll A ((R.zip rs).map fun z => D.tup [.int z.1.1, .ref z.2]) = some (R.map pyR1) := py_items h.l h.r
theorem rg_item {A : Hs} {q : Nat} {rs : List Nat} {R : List (Int × List Int)} (h : IsRg A q rs R) {i : Nat} {w : Int × List Int} (hw : R[i]? = some w) : ∃ r, rs[i]? = some r ∧ ((R.zip rs).map fun z => D.tup [.int z.1.1, .ref z.2])[i]? = some (.tup [.int w.1, .ref r]) ∧ A[r]? = some (.lst (w.2.map D.int)) := by
  have li := (List.getElem?_eq_some_iff.mp hw).1
  have hr : rs[i]? = some (rs[i]'(by rw [h.l]; exact li)) := List.getElem?_eq_getElem _
  refine ⟨_, hr, ?_, h.r i _ w hr hw⟩
  have : (R.zip rs)[i]? = some (w, rs[i]'(by rw [h.l]; exact li)) := List.getElem?_zip_eq_some.mpr ⟨hw, hr⟩
  rw [List.getElem?_map, this]; rfl
theorem sortD_ok {A : Hs} {q : Nat} {rs : List Nat} {R : List (Int × List Int)} (h : IsRg A q rs R) (hne : R ≠ []) : ∃ w r l, Lst R w ∧ r ∈ rs ∧ A[r]? = some (.lst (w.2.map D.int)) ∧ oSortD (.ref q) A = .ok (.ref A.length) (A ++ [.lst (.tup [.int w.1, .ref r] :: l)]) := by
  obtain ⟨Z, hZ⟩ : ∃ Z, Z = (R.zip rs).map fun z => D.tup [.int z.1.1, .ref z.2] := ⟨_, rfl⟩
  have s : seqL A (.ref q) = some Z := by unfold seqL; simp only [h.o, hZ]
  have pz : pyAll A Z = some (R.map pyR1) := by rw [hZ]; exact rg_items h
  have lZ : Z.length = R.length := by rw [hZ, List.length_map, List.length_zip, h.l, Nat.min_self]
  obtain ⟨S, hS⟩ : ∃ S, S = (Z.zip (R.map pyR1)).mergeSort (PySem.W.dataLe false Prod.snd) := ⟨_, rfl⟩
  have perm : S.Perm (Z.zip (R.map pyR1)) := by rw [hS]; exact List.mergeSort_perm _ _
  have le : ∀ a b : D × PyData, PySem.W.dataLe false Prod.snd a b = LE a.2 b.2 := fun _ _ => rfl
  have pw : S.Pairwise (fun a b => LE a.2 b.2 = true) := by
    rw [hS]
    exact List.pairwise_mergeSort (le := PySem.W.dataLe false Prod.snd) (fun a b c h1 h2 => LE_tot.trans _ _ _ h1 h2) (fun a b => by
      rcases LE_tot.total a.2 b.2 with z | z
      · rw [le, z]; rfl
      · rw [le b a, z, Bool.or_true]) _
  have lS : S.length = R.length := by rw [perm.length_eq, List.length_zip, List.length_map, lZ, Nat.min_self]
  cases hSc : S with
  | nil => rw [hSc] at lS; exact absurd (List.length_eq_zero_iff.mp lS.symm) hne
  | cons z S' =>
    have zm : z ∈ Z.zip (R.map pyR1) := perm.mem_iff.mp (by rw [hSc]; exact List.mem_cons_self)
    obtain ⟨i, hi⟩ := List.getElem?_of_mem zm
    obtain ⟨z1, z2⟩ := List.getElem?_zip_eq_some.mp hi
    rw [List.getElem?_map] at z2
    obtain ⟨w, hw, ew⟩ := Option.map_eq_some_iff.mp z2
    obtain ⟨r, hr, hit, hA⟩ := rg_item h hw
    rw [← hZ] at hit
    rw [hit] at z1
    have e1 : z.1 = .tup [.int w.1, .ref r] := (Option.some.inj z1).symm
    refine ⟨w, r, S'.map Prod.fst, ⟨List.mem_of_getElem? hw, fun w' hw' => ?_⟩, List.mem_of_getElem? hr, hA, ?_⟩
    · obtain ⟨j, hj⟩ := List.getElem?_of_mem hw'
      have lj := (List.getElem?_eq_some_iff.mp hj).1
      obtain ⟨zj, hzj⟩ : ∃ zj, Z[j]? = some zj := ⟨_, List.getElem?_eq_getElem (by omega)⟩
      have m2 : (zj, pyR1 w') ∈ S := perm.mem_iff.mpr (by
        refine List.mem_of_getElem? (i := j) (List.getElem?_zip_eq_some.mpr ⟨hzj, ?_⟩)
        rw [List.getElem?_map, hj]; rfl)
      rw [hSc] at m2 pw
      rw [List.pairwise_cons] at pw
      rcases List.mem_cons.mp m2 with e | e
      · have : pyR1 w' = z.2 := congrArg Prod.snd e
        rw [this, ← ew]
        rw [ew]; exact LE_refl
      · have := pw.1 _ e
        rw [← ew] at this; exact this
    · unfold oSortD
      simp only [s, pz]
      rw [if_pos ⟨alikeB_R, sortable_R⟩, ← hS, hSc, List.map_cons, e1]
      rfl
theorem minDf_ok {A : Hs} {q : Nat} {rs : List Nat} {R : List (Int × List Int)} (h : IsRg A q rs R) {z : D} : (R = [] ∧ oMinDf (.ref q) z A = .ok z A) ∨ ∃ w r, Lst R w ∧ r ∈ rs ∧ A[r]? = some (.lst (w.2.map D.int)) ∧ oMinDf (.ref q) z A = .ok (.tup [.int w.1, .ref r]) A := by
  obtain ⟨Z, hZ⟩ : ∃ Z, Z = (R.zip rs).map fun z => D.tup [.int z.1.1, .ref z.2] := ⟨_, rfl⟩
  have s : seqL A (.ref q) = some Z := by unfold seqL; simp only [h.o, hZ]
  have pz : pyAll A Z = some (R.map pyR1) := by rw [hZ]; exact rg_items h
  have body : oMinDf (.ref q) z A = (match R.map pyR1 with
    | [] => .ok z A
    | _ => match Z[L2.bix false (R.map pyR1)]? with
      | some d => .ok d A
      | none => .stuck) := by
    unfold oMinDf
    simp only [s, pz]
    rw [if_pos ⟨alikeB_R, nonone_R⟩] <;> (cases R.map pyR1 <;> rfl)
  cases hR : R with
  | nil => rw [hR] at body; exact .inl ⟨rfl, body⟩
  | cons v R' =>
    have lb := bix_ltT (ds := R.map pyR1) (by rw [hR]; simp)
    rw [List.length_map] at lb
    have hw : R[L2.bix false (R.map pyR1)]? = some (R[L2.bix false (R.map pyR1)]'lb) := List.getElem?_eq_getElem lb
    obtain ⟨w, hwe⟩ : ∃ w, w = R[L2.bix false (R.map pyR1)]'lb := ⟨_, rfl⟩
    rw [← hwe] at hw
    obtain ⟨r, hr, hit, hA⟩ := rg_item h hw
    rw [← hZ] at hit
    rw [hit] at body
    refine .inr ⟨w, r, ?_, List.mem_of_getElem? hr, hA, ?_⟩
    · rw [← hR]
      refine ⟨List.mem_of_getElem? hw, fun w' hw' => ?_⟩
      obtain ⟨j, hj⟩ := List.getElem?_of_mem hw'
      have := bix_min (ds := R.map pyR1) (i := j) (by rw [List.length_map]; exact (List.getElem?_eq_some_iff.mp hj).1)
      rw [List.getD_eq_getElem?_getD, List.getD_eq_getElem?_getD, List.getElem?_map, List.getElem?_map, hj, hw] at this
      exact this
    · rw [body, hR]; rfl
def DueV (A1 : Hs) (M : Nat) (R : List (Int × List Int)) (v : D) : Prop := (R = [] ∧ v = .non) ∨ ∃ w r, Lst R w ∧ v = .tup [.int w.1, .ref r] ∧ M ≤ r ∧ A1[r]? = some (.lst (w.2.map D.int))
theorem due_ok {A : Hs} {d : Nat} {T : Tb} {rs : List Nat} {lk : Bool} (h : IsT A d T rs lk) (ok : TbGd T) (hd : d ∉ rs) (hr : ∀ r ∈ rs, r < A.length) : Rk (F_l_due [.ref d] A) fun v A1 => DueV A1 A.length (ringsT T) v ∧ Fr [] A A1 := by
  have ld := lt_of_get h.o
  obtain ⟨A1, hA1⟩ : ∃ A1, A1 = A ++ [O.lst []] := ⟨_, rfl⟩
  have f1 : Fr [] A A1 := by rw [hA1]; exact .push
  have g1 : A1[A.length]? = some (.lst []) := by rw [hA1]; simp
  have h1 := h.frame f1 (by simp) (by simp)
  have L := loop_ok (F := F_l_way) ok hd (fun h p => lway_ok h ok p) h1 g1 (by omega) (fun m => by have := hr _ m; omega)
  rw [← duL_eq] at L
  rw [du_eq]
  simp_arith [← hA1]
  refine L.call (fun r => Rk (finR (seqR r _)) _) ?_
  rintro _ C ⟨o2, o3, o4, ws, rfl, hR, hws, fC⟩
  have n1 := f1.le
  have nC := fC.le
  have l1 : A1.length = A.length + 1 := by rw [hA1]; simp
  have fAC : Fr [] A C := f1.trans' fC (fun j hj => by rw [List.mem_singleton] at hj; right; omega)
  obtain ⟨C1, hC1⟩ : ∃ C1, C1 = C ++ [O.lst []] := ⟨_, rfl⟩
  have f2 : Fr [] C C1 := by rw [hC1]; exact .push
  have g2 : C1[C.length]? = some (.lst []) := by rw [hC1]; simp
  have hR1 := hR.frm f2 (by simp) (by simp)
  have ne : oNe (.ref A.length) (.ref C.length) C1 = .ok (.bl (!decide (ringsT T = []))) C1 := by
    refine neA_of ?_
    unfold eqA
    rw [py_lst (n := 39) hR1.o, py_lst (n := 39) g2]
    have e : allSome (List.map (pyA C1 39) (List.map (fun z => D.tup [D.int z.1.1, D.ref z.2]) ((ringsT T).zip ws))) = some ((ringsT T).map pyR1) := py_items (n := 36) hR1.l hR1.r
    rw [e]
    show some (PyData.eqvAll ((ringsT T).map pyR1) []) = _
    cases ringsT T <;> simp [PyData.eqvAll]
  by_cases c : ringsT T = []
  · rw [decide_eq_true c] at ne
    simp_arith [← hC1, ne]
    exact ⟨.inl ⟨c, rfl⟩, fAC.trans f2⟩
  · rw [decide_eq_false c] at ne
    obtain ⟨w, r, l, hw, hr', hA, e⟩ := sortD_ok hR1 c
    obtain ⟨C2, hC2⟩ : ∃ C2, C2 = C1 ++ [O.lst (.tup [.int w.1, .ref r] :: l)] := ⟨_, rfl⟩
    have f3 : Fr [] C1 C2 := by rw [hC2]; exact .push
    have g3 : C2[C1.length]? = some (.lst (.tup [.int w.1, .ref r] :: l)) := by rw [hC2]; simp
    rw [← hC2] at e
    simp_arith [← hC1, ne, e, g3]
    exact ⟨.inr ⟨w, r, hw, rfl, by have := hws r hr'; omega, f3.get hA (by simp)⟩, (fAC.trans f2).trans f3⟩
theorem ringP_ok {A : Hs} {d : Nat} {T : Tb} {rs : List Nat} {lk : Bool} (h : IsT A d T rs lk) (ok : TbGd T) (hd : d ∉ rs) (hr : ∀ r ∈ rs, r < A.length) : Rk (F_ring [.ref d] A) fun v A1 => DueV A1 A.length (ringsT T) v ∧ Fr [] A A1 := by
  have ld := lt_of_get h.o
  obtain ⟨_, A0, e0, rfl, f0⟩ := (need_ok h ok hd).ex
  have h0 := h.frame f0 (by simp) (by simp)
  have n0 := f0.le
  obtain ⟨A1, hA1⟩ : ∃ A1, A1 = A0 ++ [O.lst []] := ⟨_, rfl⟩
  have f1 : Fr [] A0 A1 := by rw [hA1]; exact .push
  have g1 : A1[A0.length]? = some (.lst []) := by rw [hA1]; simp
  have h1 := h0.frame f1 (by simp) (by simp)
  have L := loop_ok (F := F_led) ok hd (fun h p => ledT_ok h ok p) h1 g1 (by omega) (fun m => by have := hr _ m; omega)
  rw [← rgL_eq] at L
  rw [rg_eq]
  simp_arith [e0, ← hA1]
  refine L.call (fun r => Rk (finR (seqR r _)) _) ?_
  rintro _ C ⟨o2, o3, o4, ws, rfl, hR, hws, fC⟩
  have nC := fC.le
  have l1 : A1.length = A0.length + 1 := by rw [hA1]; simp
  have fAC : Fr [] A C := (f0.trans f1).trans' fC (fun j hj => by rw [List.mem_singleton] at hj; right; omega)
  rcases minDf_ok (z := .non) hR with ⟨c, e⟩ | ⟨w, r, hw, hr', hA, e⟩
  · simp_arith [e]
    exact ⟨.inl ⟨c, rfl⟩, fAC⟩
  · simp_arith [e]
    exact ⟨.inr ⟨w, r, hw, rfl, by have := hws r hr'; omega, hA⟩, fAC⟩

/-! a ring, walked from its least place -/
structure RingL (T : Tb) (t : Int) (l : List Int) : Prop where
  nd : l.Nodup
  c : Chn T t l
  s : ∀ x ∈ l, isIn T x = true
  e : ∃ x y, l.getLast? = some x ∧ l.head? = some y ∧ x ≠ t ∧ nxt T t x = some y
theorem Chn.drop {T : Tb} {t : Int} {f : List Int} (h : Chn T t f) (k : Nat) : Chn T t (f.drop k) := by
  intro i x y h1 h2
  rw [List.getElem?_drop] at h1 h2
  exact h (k + i) x y h1 (by rw [Nat.add_assoc]; exact h2)
theorem Chn.take {T : Tb} {t : Int} {f : List Int} (h : Chn T t f) (k : Nat) : Chn T t (f.take k) := by
  intro i x y h1 h2
  rw [List.getElem?_take] at h1 h2
  split at h1
  · split at h2
    · exact h i x y h1 h2
    · cases h2
  · cases h1
theorem Chn.app {T : Tb} {t : Int} {a b : List Int} (ha : Chn T t a) (hb : Chn T t b) (h : ∀ x y, a.getLast? = some x → b.head? = some y → nxt T t x = some y ∧ x ≠ t) : Chn T t (a ++ b) := by
  intro i x y h1 h2
  by_cases c : i + 1 < a.length
  · rw [List.getElem?_append_left (by omega)] at h1
    rw [List.getElem?_append_left c] at h2
    exact ha i x y h1 h2
  · by_cases c2 : i < a.length
    · rw [List.getElem?_append_left c2] at h1
      rw [List.getElem?_append_right (by omega), show i + 1 - a.length = 0 by omega] at h2
      refine h x y ?_ ?_
      · rw [List.getLast?_eq_getElem?, show a.length - 1 = i by omega]; exact h1
      · rw [List.head?_eq_getElem?]; exact h2
    · rw [List.getElem?_append_right (by omega)] at h1
      rw [List.getElem?_append_right (by omega), show i + 1 - a.length = i - a.length + 1 by omega] at h2
      exact hb _ x y h1 h2
theorem RingL.drop {T : Tb} {t p q : Int} {f : List Int} (h : WOk T t p f (some q)) : RingL T t (f.drop (f.idxOf q)) := by
  obtain ⟨hq, x, hx, hn, hxq⟩ := (show q ∈ f ∧ ∃ x, f.getLast? = some x ∧ x ≠ t ∧ nxt T t x = some q from h.e)
  have li := List.idxOf_lt_length_of_mem hq
  refine ⟨h.k.nd.sublist (List.drop_sublist _ _), h.c.drop _, fun x hx => h.k.s x (List.mem_of_mem_drop hx), x, q, ?_, ?_, hn, hxq⟩
  · rw [List.getLast?_drop, if_neg (by omega)]; exact hx
  · rw [List.head?_drop, List.getElem?_eq_getElem li]
    simp
theorem RingL.ne {T : Tb} {t : Int} {l : List Int} (h : RingL T t l) : l ≠ [] := fun e => by
  obtain ⟨x, y, h1, _⟩ := h.e
  rw [e] at h1; simp at h1
theorem RingL.turn {T : Tb} {t : Int} {l : List Int} (h : RingL T t l) {k : Nat} (hk : k < l.length) : RingL T t (l.drop k ++ l.take k) := by
  obtain ⟨x, y, h1, h2, h3, h4⟩ := h.e
  have lastD : (l.drop k).getLast? = some x := by rw [List.getLast?_drop, if_neg (by omega)]; exact h1
  have headD : (l.drop k).head? = some (l[k]) := by rw [List.head?_drop, List.getElem?_eq_getElem hk]
  refine ⟨?_, ?_, fun z hz => ?_, ?_⟩
  · have p : (l.drop k ++ l.take k).Perm l := by
      have := List.perm_append_comm (l₁ := l.drop k) (l₂ := l.take k)
      rwa [List.take_append_drop] at this
    exact p.nodup_iff.mpr h.nd
  · refine (h.c.drop k).app (h.c.take k) fun a b ha hb => ?_
    rw [lastD] at ha
    cases ha
    cases k with
    | zero => simp at hb
    | succ k =>
      rw [List.head?_take, if_neg (by omega), h2] at hb
      cases hb
      exact ⟨h4, h3⟩
  · rcases List.mem_append.mp hz with q | q
    · exact h.s z (List.mem_of_mem_drop q)
    · exact h.s z (List.mem_of_mem_take q)
  · cases k with
    | zero =>
      rw [List.drop_zero, List.take_zero, List.append_nil]
      exact ⟨x, y, h1, h2, h3, h4⟩
    | succ k =>
      have hk1 : l[k]? = some (l[k]'(by omega)) := List.getElem?_eq_getElem _
      have hk2 : l[k + 1]? = some (l[k + 1]) := List.getElem?_eq_getElem _
      have c := h.c k _ _ hk1 hk2
      refine ⟨l[k]'(by omega), l[k + 1], ?_, ?_, c.2, c.1⟩
      · rw [List.getLast?_append]
        have : (l.take (k + 1)).getLast? = some (l[k]'(by omega)) := by
          rw [List.getLast?_eq_getElem?, List.length_take, show min (k + 1) l.length - 1 = k by omega, List.getElem?_take, if_pos (by omega)]
          exact hk1
        rw [this]; rfl
      · rw [List.head?_append, headD]; rfl
theorem walk_ring {T : Tb} {t y : Int} {l : List Int} (h : RingL T t l) (hy : l.head? = some y) (hT : l.length ≤ 12) : ∀ (n j : Nat), j + 1 ≤ l.length → j + 1 + n = 13 → walkF T t n (l.take (j + 1)) = (l, some y)
  | 0, j, h1, h2 => by omega
  | n + 1, j, h1, h2 => by
    have hj : l[j]? = some (l[j]'(by omega)) := List.getElem?_eq_getElem _
    have last : (l.take (j + 1)).getLast? = some (l[j]'(by omega)) := by
      rw [List.getLast?_eq_getElem?, List.length_take, show min (j + 1) l.length - 1 = j by omega, List.getElem?_take, if_pos (by omega)]
      exact hj
    unfold walkF
    rw [last]
    by_cases c : j + 1 = l.length
    · obtain ⟨a, b, e1, e2, e3, e4⟩ := h.e
      have ea : l[j]'(by omega) = a := by
        rw [List.getLast?_eq_getElem?, show l.length - 1 = j by omega, hj] at e1
        exact Option.some.inj e1
      rw [ea]
      have tl : l.take (j + 1) = l := List.take_of_length_le (by omega)
      rw [hy] at e2
      cases e2
      rw [if_neg (by simpa using e3), tl]
      simp only [Option.bind_some]
      rw [e4]
      simp only
      rw [if_pos (List.mem_of_head? hy)]
    · have hj1 : l[j + 1]? = some (l[j + 1]'(by omega)) := List.getElem?_eq_getElem _
      have cc := h.c j _ _ hj hj1
      rw [if_neg (by simpa using cc.2)]
      simp only [Option.bind_some]
      rw [cc.1]
      simp only
      have nm : l[j + 1]'(by omega) ∉ l.take (j + 1) := fun m => by
        obtain ⟨i, hi⟩ := List.getElem?_of_mem m
        rw [List.getElem?_take] at hi
        split at hi
        · rename_i ci
          have := (List.getElem?_inj (i := i) (j := j + 1) (by omega) h.nd).mp (hi.trans hj1.symm)
          omega
        · cases hi
      rw [if_neg nm]
      have : l.take (j + 1) ++ [l[j + 1]'(by omega)] = l.take (j + 1 + 1) := by
        rw [List.take_succ (i := j + 1), hj1]; rfl
      rw [this]
      exact walk_ring h hy hT n (j + 1) (by omega) (by omega)
theorem told_ring {T : Tb} {t p : Int} {l : List Int} (ok : TbGd T) (hp : isIn T p = true) (h : told T p t = .ring l) : RingL T t l ∧ ∃ y, l.head? = some y ∧ told T y t = .ring l := by
  have w := W_ok (t := t) ok hp
  unfold told at h
  cases q : (W T p t).2 with
  | none => rw [q] at h; simp only at h; split at h <;> cases h
  | some a =>
    rw [q] at h w
    simp only [Told.ring.injEq] at h
    have rd := RingL.drop w
    obtain ⟨pl, hpl⟩ : ∃ pl, pl = (W T p t).1.drop ((W T p t).1.idxOf a) := ⟨_, rfl⟩
    have mm := minI_mem (f := pl) (by rw [hpl]; exact rd.ne)
    obtain ⟨k, hk⟩ : ∃ k, k = pl.idxOf (minI pl) := ⟨_, rfl⟩
    have lk : k < pl.length := by rw [hk]; exact List.idxOf_lt_length_of_mem mm
    have e : l = pl.drop k ++ pl.take k := by rw [← h]; unfold turnL; rw [← hpl, ← hk]
    rw [← hpl] at rd
    have rl : RingL T t l := by rw [e]; exact rd.turn lk
    have hy : l.head? = some (minI pl) := by
      rw [e, List.head?_append, List.head?_drop, List.getElem?_eq_getElem lk]
      subst hk
      simp
    refine ⟨rl, minI pl, hy, ?_⟩
    have le : l.length ≤ 12 := by
      have := nodup_le (P := T.map Prod.fst) rl.nd fun x hx => isIn_mem.mp (rl.s x hx)
      rw [List.length_map] at this
      have := ok.l.2
      omega
    obtain ⟨y, l', hl⟩ : ∃ y l', l = y :: l' := by
      cases hl : l with
      | nil => exact absurd hl rl.ne
      | cons y l' => exact ⟨y, l', rfl⟩
    have ey : y = minI pl := by rw [hl] at hy; simpa using hy
    have wr := walk_ring rl hy le 12 0 (by rw [hl]; simp) rfl
    have t1 : l.take (0 + 1) = [minI pl] := by rw [hl, ey]; rfl
    rw [t1] at wr
    have wW : W T (minI pl) t = (l, some (minI pl)) := wr
    unfold told
    rw [wW]
    simp only
    congr 1
    have i0 : l.idxOf (minI pl) = 0 := by rw [hl, ey, List.idxOf_cons]; simp
    have same : minI l = minI pl := minI_eq rl.ne fun x => by
      rw [e, List.mem_append]
      conv => rhs; rw [← List.take_append_drop k pl, List.mem_append]
      exact Or.comm
    unfold turnL
    rw [i0, List.drop_zero, same, i0]
    simp
theorem rings_mem {T : Tb} {w : Int × List Int} (h : w ∈ ringsT T) : ∃ p, isIn T p = true ∧ isIn T w.1 = true ∧ told T p w.1 = .ring w.2 := by
  unfold ringsT at h
  obtain ⟨t, ht, h2⟩ := List.mem_flatMap.mp h
  obtain ⟨p, hp, h3⟩ := List.mem_filterMap.mp h2
  unfold rgF at h3
  cases c : told T p t with
  | ring l =>
    rw [c] at h3
    simp only [Option.some.injEq] at h3
    subst h3
    exact ⟨p, isIn_mem.mpr hp, isIn_mem.mpr ht, c⟩
  | _ => rw [c] at h3; cases h3
theorem rings_none {T : Tb} (h : ringsT T = []) {p t : Int} (hp : p ∈ T.map Prod.fst) (ht : t ∈ T.map Prod.fst) : ∀ l, told T p t ≠ .ring l := fun l c => by
  have : (t, l) ∈ ringsT T := by
    unfold ringsT
    refine List.mem_flatMap.mpr ⟨t, ht, List.mem_filterMap.mpr ⟨p, hp, ?_⟩⟩
    unfold rgF; rw [c]
  rw [h] at this; simp at this

noncomputable def rtL : S := (sSeq (sLkN (eVar 0) (sFor (wOf wkK (eVar 0)) (gN 5) (sIf (tOf (eOp oNe (eLkN (eVar 0) (eLc (wOf wkK (eVar 0)) (gN 6) (tOf (eCB (c2 (oIsi os_ xs_ tb_)) (aCons (eCall0 F_way (aCons (eVar 0) (aCons (eVar 6) (aCons (eVar 5) aNil)))) (aCons (eC (.ty "tuple")) aNil)))) (eVar 6) [6])) (eLst aNil))) (sRet (eC (.bl false))) sNx))) (sRet (eC (.bl true))))
noncomputable def rtF : S := (sFor (wAs rg1 (aCons (eC (.int 2)) aNil)) (gN 3) (sSeq (sSet 4 (eCall F_ring (aCons (eVar 0) aNil))) (sIf (tOf (eOp oIs (eVar 2) (eC .non))) (sIf (tOf (eOp oIsNot (eVar 4) (eC .non))) (sRet (eC (.bl false))) sNx) (sIf (tOo (tNo (tOf (eCB (c2 (oIsi os_ xs_ tb_)) (aCons (eVar 4) (aCons (eC (.ty "tuple")) aNil))))) (tOo (tNo (tOf (eCB (c2 (oIsi os_ xs_ tb_)) (aCons (eOp oIx (eVar 4) (eC (.int 1))) (aCons (eC (.ty "list")) aNil))))) (tOf (eOp oNe (eVar 4) (eVar 2))))) (sRet (eC (.bl false))) (sDrop (eBL oAppend (eOp oIx (eVar 4) (eC (.int 1))) (aCons (eOp oIx (eVar 4) (eC (.int 0))) aNil)))))))
theorem rt_eq : F_l_right = mkFn 2 7 (sSeq (sSet 2 (eCall F_l_due (aCons (eVar 0) aNil))) (sSeq (sIf (tAn (tOf (eVar 1)) (tOf (eOp oIsNot (eVar 2) (eC .non)))) (sRet (eC (.bl false))) sNx) (sSeq rtF (sSeq (sIf (tOf (eOp oIsNot (eVar 2) (eC .non))) (sRet (eOp oEq (eCall F_way (aCons (eVar 0) (aCons (eOp oIx (eOp oIx (eVar 2) (eC (.int 1))) (eC (.int 0))) (aCons (eOp oIx (eVar 2) (eC (.int 0))) aNil)))) (eTup (aCons (eC (dS "ring")) (aCons (eOp oIx (eVar 2) (eC (.int 1))) aNil))))) sNx) rtL)))) := rfl
theorem wayT_ok {A : Hs} {d : Nat} {T : Tb} {rs : List Nat} {lk : Bool} {p t : Int} (h : IsT A d T rs lk) (ok : TbGd T) (hd : d ∉ rs) (hp : isIn T p = true) (ht : isIn T t = true) : Rk (F_way [.ref d, .int p, .int t] A) fun v A1 => IsTold A1 A.length v (told T p t) ∧ Fr [] A A1 := by
  obtain ⟨_, A1, e1, rfl, f1⟩ := (need_ok h ok hd).ex
  have h1 := h.frame f1 (by simp) (by simp)
  have n1 := f1.le
  have o1 : A1[d]? = some (.dic false lk (kvI (outs T rs))) := h1.o
  obtain ⟨v, A2, e2, hv, f2⟩ := (ledT_ok (t := t) h1 ok hp).ex
  have pk : ∀ x : Int, isIn T x = true → plc x = true := fun x hx => by
    have hm := isIn_mem.mp hx
    obtain ⟨z, hz, rfl⟩ := List.mem_map.mp hm
    exact ok.p z hz
  have ip : ∀ (x : Int), isIn T x = true → F_is_place [.int x] A1 = .ok (.bl true) A1 := fun x hx => by rw [is_place_ok, pk x hx]
  have ik : ∀ (x : Int), isIn T x = true → (kget (kvI (outs T rs)) (.int x)).isSome = true := fun x hx => by
    rw [kget_kvI, outs_isSome h1.l, hx]
  have ep := ip p hp
  have et := ip t ht
  have kp := ik p hp
  have kt := ik t ht
  have hv' : IsTold A2 A.length v (told T p t) := by
    cases c : told T p t with
    | no => rw [c] at hv; exact hv
    | path l => rw [c] at hv; obtain ⟨i, a, b, c⟩ := hv; exact ⟨i, a, by omega, c⟩
    | ring l => rw [c] at hv; obtain ⟨i, a, b, c⟩ := hv; exact ⟨i, a, by omega, c⟩
  unfold F_way
  simp_arith [e1]
  refine for_go (R := fun rs => Rk (finR (seqR rs _)) _) (fun i e C => ∃ o3, e = [some (.ref d), some (.int p), some (.int t), o3] ∧ C = A1) ⟨_, rfl, rfl⟩ (fun _ _ _ _ _ => trivial) ?_ ?_
  · rintro i _ _ x hx ⟨o3, rfl, rfl⟩
    have : x = .int p ∨ x = .int t := by
      have := List.mem_of_getElem? hx
      simpa using this
    show Got _ _
    rcases this with rfl | rfl
    · simp_arith [ep, o1, kp]
      exact ⟨_, rfl⟩
    · simp_arith [et, o1, kt]
      exact ⟨_, rfl⟩
  · rintro _ _ ⟨o3, rfl, rfl⟩
    simp_arith [e2]
    exact ⟨hv', f1.trans f2⟩
theorem isl_tup {B : Hs} {l : List D} : oIsi os_ xs_ tb_ (.tup l) (.ty "tuple") B = .ok (.bl true) B := rfl
theorem told_isi {B : Hs} {M : Nat} {v : D} {T : Tb} {p t : Int} (h : IsTold B M v (told T p t)) (hn : ∀ l, told T p t ≠ .ring l) : oIsi os_ xs_ tb_ v (.ty "tuple") B = .ok (.bl false) B := by
  cases c : told T p t with
  | no => rw [c] at h; obtain rfl : v = .non := h; rfl
  | path l =>
    rw [c] at h
    obtain ⟨k, rfl, _, gk⟩ := h
    unfold oIsi isiD kdOf
    simp only [gk]
    rfl
  | ring l => exact absurd c (hn l)
theorem rtF_none {A1 : Hs} {d : Nat} {T : Tb} {rs : List Nat} {x1 : Option D} (h1 : IsT A1 d T rs false) (ok : TbGd T) (hd : d ∉ rs) (hr : ∀ r ∈ rs, r < A1.length) (hR : ringsT T = []) :
    Nx (rtF [some (.ref d), x1, some .non, none, none, none, none] A1) fun e C => ∃ o3 o4, e = [some (.ref d), x1, some .non, o3, o4, none, none] ∧ Fr [] A1 C := by
  have nn : ∀ B, oIsNot .non .non B = .ok (.bl false) B := fun _ => rfl
  have is : ∀ B, oIs .non .non B = .ok (.bl true) B := fun _ => rfl
  unfold rtF
  simp_arith []
  refine for_go (R := fun rs => Nx rs _) (fun i e C => ∃ o3 o4, e = [some (.ref d), x1, some .non, o3, o4, none, none] ∧ Fr [] A1 C) ⟨_, _, rfl, Fr.refl⟩ (fun _ _ _ _ _ => trivial) ?_ ?_
  · rintro i _ C x hx ⟨o3, o4, rfl, fC⟩
    have hC := h1.frame fC (by simp) (by simp)
    obtain ⟨v, C1, e2, hv, f2⟩ := (ringP_ok hC ok hd (fun r hr' => by have := hr r hr'; have := fC.le; omega)).ex
    rcases hv with ⟨_, rfl⟩ | ⟨w, r, hw, _⟩
    · show Got _ _
      simp_arith [e2, is, nn]
      exact ⟨_, _, rfl, fC.trans f2⟩
    · have := hw.1; rw [hR] at this; simp at this
  · rintro _ C ⟨o3, o4, rfl, fC⟩
    exact ⟨_, _, rfl, fC⟩
theorem rtL_none {A1 : Hs} {d : Nat} {T : Tb} {rs : List Nat} {x1 x2 x3 x4 : Option D} (h1 : IsT A1 d T rs false) (ok : TbGd T) (hd : d ∉ rs) (hR : ringsT T = []) :
    Rk (finR (rtL [some (.ref d), x1, x2, x3, x4, none, none] A1)) fun v C => v = .bl true ∧ Fr [] A1 C := by
  have o1 : A1[d]? = some (.dic false false (kvI (outs T rs))) := h1.o
  have e0 : ∀ r B, eVar 0 (some (.ref d) :: r) B = .ok (.ref d) B := fun _ _ => rfl
  obtain ⟨P, hP⟩ : ∃ P, P = T.map Prod.fst := ⟨_, rfl⟩
  have kE : (kvI (outs T rs)).map Prod.fst = P.map D.int := by rw [hP]; exact keys_eq h1.l
  have lP : P.length ≤ 12 := by rw [hP, List.length_map]; exact ok.l.2
  obtain ⟨B, hB⟩ : ∃ B, B = A1.set d (.dic false true (kvI (outs T rs))) := ⟨_, rfl⟩
  have hT : IsT B d T rs true := hB ▸ h1.lock hd
  have oB : B[d]? = some (.dic false true (kvI (outs T rs))) := hT.o
  have w1 := fun f => sLkN_at (f := f) (env := [some (.ref d), x1, x2, x3, x4, none, none]) (e0 _ _) o1
  rw [← hB] at w1
  have w3 : ∀ (g : E) (r : Sl) (C : Hs), C[d]? = some (.dic false true (kvI (outs T rs))) → eLkN (eVar 0) g (some (.ref d) :: r) C = g (some (.ref d) :: r) C := fun g r C hC => by
    rw [eLkN_at (e0 _ _) hC, set_same' hC]; rfl
  unfold rtL
  simp_arith [w1, oB, kE, -z7z]
  refine for_go (R := fun r => Rk (finR (seqR (ulX false d r) _)) _) (fun i e C => ∃ o5, e = [some (.ref d), x1, x2, x3, x4, o5, none] ∧ Fr [] B C) ⟨_, rfl, Fr.refl⟩ (fun i e C _ h => by
    obtain ⟨_, _, fC⟩ := h
    exact fC.get oB (by simp)) ?_ ?_
  · rintro i _ C dd hdd ⟨o5, rfl, fC⟩
    rw [List.getElem?_map] at hdd
    obtain ⟨t, ht, rfl⟩ := Option.map_eq_some_iff.mp hdd
    have tm : t ∈ T.map Prod.fst := by rw [← hP]; exact List.mem_of_getElem? ht
    have oC := fC.get oB (by simp)
    have hTC := hT.frame fC (by simp) (by simp)
    have lc := lc_run (A := C) (g := gN 6) (t := tOf (eCB (c2 (oIsi os_ xs_ tb_)) (aCons (eCall0 F_way (aCons (eVar 0) (aCons (eVar 6) (aCons (eVar 5) aNil)))) (aCons (eC (.ty "tuple")) aNil)))) (a := eVar 6) (gd := fun A' => A'[d]? = some (.dic false true (kvI (outs T rs)))) (env := [some (.ref d), x1, x2, x3, x4, some (.int t), none]) (ds := P.map D.int) (fun i l B' => l = [] ∧ Fr [] C B') ⟨rfl, Fr.refl⟩ (by rw [List.length_map]; omega) (fun i l B' h => h.2.get oC (by simp)) (by
      rintro j x hx l B' ⟨rfl, fB⟩
      rw [List.getElem?_map] at hx
      obtain ⟨p, hp, rfl⟩ := Option.map_eq_some_iff.mp hx
      have pm : p ∈ T.map Prod.fst := by rw [← hP]; exact List.mem_of_getElem? hp
      have hTB := hTC.frame fB (by simp) (by simp)
      obtain ⟨v, B2, e2, hv, f2⟩ := (wayT_ok (t := t) hTB ok hd (isIn_mem.mpr pm) (isIn_mem.mpr tm)).ex
      have is := told_isi hv (rings_none hR pm tm)
      show Got _ _
      simp_arith [e2, is]
      exact fB.trans f2)
    obtain ⟨l, C1, e2, hl, f1⟩ := lc.ex
    obtain rfl := hl
    obtain ⟨C2, hC2⟩ : ∃ C2, C2 = C1 ++ [O.lst []] := ⟨_, rfl⟩
    have f2 : Fr [] C1 C2 := by rw [hC2]; exact .push
    have g2 : C2[C1.length]? = some (.lst []) := by rw [hC2]; simp
    have m2 : C2.length = C1.length + 1 := by rw [hC2]; simp
    obtain ⟨C3, hC3⟩ : ∃ C3, C3 = C2 ++ [O.lst []] := ⟨_, rfl⟩
    have f3 : Fr [] C2 C3 := by rw [hC3]; exact .push
    have g3 : C3[C1.length + 1]? = some (.lst []) := by rw [hC3, ← m2]; simp
    have ne : oNe (.ref C1.length) (.ref (C1.length + 1)) C3 = .ok (.bl false) C3 := oNe_lst (f3.get g2 (by simp)) g3 rfl
    show Got _ _
    simp_arith [w3 _ _ C oC, oC, kE, e2, ← hC2, ← hC3, m2, ne, -z8l]
    exact ⟨_, rfl, ((fC.trans f1).trans f2).trans f3⟩
  · rintro _ C ⟨o5, rfl, fC⟩
    have oC := fC.get oB (by simp)
    rw [ulX_nx oC]
    simp_arith []
    exact lk_back o1 (hB ▸ fC)

theorem plain_ints {l : List Int} : PyData.plainAll (l.map .int) = true := by
  induction l with
  | nil => rfl
  | cons x l ih => rw [List.map_cons, PyData.plainAll, ih]; rfl
theorem plain_R1 {w : Int × List Int} : (pyR1 w).plain = true := by
  unfold pyR1
  rw [PyData.plain, PyData.plainAll, PyData.plainAll, PyData.plainAll, PyData.plain, PyData.plain, plain_ints]; rfl
theorem ne_found {C : Hs} {r r0 : Nat} {w : Int × List Int} (h : C[r]? = some (.lst (w.2.map D.int))) (k : C[r0]? = some (.lst (w.2.map D.int))) : oNe (.tup [.int w.1, .ref r]) (.tup [.int w.1, .ref r0]) C = .ok (.bl false) C :=
  neA_of (b := true) (eqA_same (P := pyR1 w) plain_R1 (py_item (n := 37) h) (py_item (n := 37) k))
theorem py_ring {A : Hs} {n r : Nat} {l : List Int} (h : A[r]? = some (.lst (l.map D.int))) : pyA A (n + 3) (.tup [dS "ring", .ref r]) = some (.tuple [.str (fS "ring"), .list (l.map .int)]) := by
  show (allSome ([dS "ring", D.ref r].map (pyA A (n + 2)))).map PyData.tuple = _
  rw [List.map_cons, List.map_cons, List.map_nil]
  have e1 : pyA A (n + 2) (dS "ring") = some (.str (fS "ring")) := rfl
  have e2 : pyA A (n + 2) (.ref r) = some (.list (l.map .int)) := by
    rw [py_lst h, py_intsN]; rfl
  rw [e1, e2]; rfl
theorem eq_ring {C : Hs} {r r0 : Nat} {l : List Int} (h : C[r]? = some (.lst (l.map D.int))) (k : C[r0]? = some (.lst (l.map D.int))) : oEq (.tup [dS "ring", .ref r]) (.tup [dS "ring", .ref r0]) C = .ok (.bl true) C := by
  refine eqA_of (eqA_same (P := .tuple [.str (fS "ring"), .list (l.map .int)]) ?_ (py_ring (n := 37) h) (py_ring (n := 37) k))
  rw [PyData.plain, PyData.plainAll, PyData.plainAll, PyData.plainAll, PyData.plain, PyData.plain, plain_ints]; rfl
theorem isi_lst {B : Hs} {k : Nat} {l : List D} (gk : B[k]? = some (.lst l)) : oIsi os_ xs_ tb_ (.ref k) (.ty "list") B = .ok (.bl true) B := by
  unfold oIsi isiD kdOf
  simp only [gk]
  rfl
theorem rtF_ring {A1 : Hs} {d : Nat} {T : Tb} {rs : List Nat} {x1 : Option D} {w : Int × List Int} {r0 : Nat} (h1 : IsT A1 d T rs false) (ok : TbGd T) (hd : d ∉ rs) (hr : ∀ r ∈ rs, r < A1.length) (hw : Lst (ringsT T) w) (h0 : A1[r0]? = some (.lst (w.2.map D.int))) (hl : w.2.length ≤ 12) :
    Nx (rtF [some (.ref d), x1, some (.tup [.int w.1, .ref r0]), none, none, none, none] A1) fun e C => ∃ o3 o4, e = [some (.ref d), x1, some (.tup [.int w.1, .ref r0]), o3, o4, none, none] ∧ Fr [] A1 C := by
  unfold rtF
  simp_arith []
  refine for_go (R := fun rs => Nx rs _) (fun i e C => ∃ o3 o4, e = [some (.ref d), x1, some (.tup [.int w.1, .ref r0]), o3, o4, none, none] ∧ Fr [] A1 C) ⟨_, _, rfl, Fr.refl⟩ (fun _ _ _ _ _ => trivial) ?_ ?_
  · rintro i _ C x hx ⟨o3, o4, rfl, fC⟩
    have hC := h1.frame fC (by simp) (by simp)
    obtain ⟨v, C1, e2, hv, f2⟩ := (ringP_ok hC ok hd (fun r hr' => by have := hr r hr'; have := fC.le; omega)).ex
    rcases hv with ⟨e, _⟩ | ⟨w', r, hw', rfl, hM, hA⟩
    · have := hw.1; rw [e] at this; simp at this
    · have ew := hw'.uniq hw
      subst ew
      have n1 := fC.le
      have h01 : C1[r0]? = some (.lst (w'.2.map D.int)) := f2.get (fC.get h0 (by simp)) (by simp)
      have ne := ne_found hA h01
      have il := isi_lst hA
      have ll : (w'.2.map D.int).length < 16000000 := by rw [List.length_map]; omega
      have is : ∀ B, oIs (.tup [.int w'.1, .ref r0]) .non B = .ok (.bl false) B := fun _ => rfl
      have i1 : ∀ B : Hs, oIx (.tup [.int w'.1, .ref r]) (.int 1) B = .ok (.ref r) B := fun _ => rfl
      have i0 : ∀ B : Hs, oIx (.tup [.int w'.1, .ref r]) (.int 0) B = .ok (.int w'.1) B := fun _ => rfl
      obtain ⟨Z, hZ⟩ : ∃ Z, Z = w'.2.map D.int := ⟨_, rfl⟩
      rw [← hZ] at hA ll
      obtain ⟨C2, hC2⟩ : ∃ C2, C2 = C1.set r (.lst (Z ++ [.int w'.1])) := ⟨_, rfl⟩
      have f3 : Fr [r] C1 C2 := by rw [hC2]; exact Fr.set (by simp)
      show Got _ _
      simp_arith [e2, is, isl_tup, i1, il, ne, i0, hA, ← hC2]
      exact ⟨_, _, rfl, (fC.trans f2).trans' f3 (fun j hj => by rw [List.mem_singleton] at hj; right; omega)⟩
  · rintro _ C ⟨o3, o4, rfl, fC⟩
    exact ⟨_, _, rfl, fC⟩
theorem right_ok {A : Hs} {d : Nat} {T : Tb} {rs : List Nat} {tr : Bool} (h : IsT A d T rs false) (ok : TbGd T) (hd : d ∉ rs) (hr : ∀ r ∈ rs, r < A.length) (htr : tr = true → ringsT T = []) : Rk (F_l_right [.ref d, .bl tr] A) fun v A1 => v = .bl true ∧ Fr [] A A1 := by
  have ld := lt_of_get h.o
  obtain ⟨dv, A1, e1, hdv, f1⟩ := (due_ok h ok hd hr).ex
  have h1 := h.frame f1 (by simp) (by simp)
  have n1 := f1.le
  have hr1 : ∀ r ∈ rs, r < A1.length := fun r hm => by have := hr r hm; omega
  rw [rt_eq]
  rcases hdv with ⟨hR, rfl⟩ | ⟨w, r0, hw, rfl, hM, hA⟩
  · have nn : ∀ B, oIsNot .non .non B = .ok (.bl false) B := fun _ => rfl
    have key := rtF_none (x1 := some (.bl tr)) h1 ok hd hr1 hR
    cases tr with
    | true =>
      simp_arith [e1, nn]
      refine key.call (fun r => Rk (finR (seqR r _)) _) ?_
      rintro _ C ⟨o3, o4, rfl, fC⟩
      have R := rtL_none (x1 := some (.bl true)) (x2 := some .non) (x3 := o3) (x4 := o4) (h1.frame fC (by simp) (by simp)) ok hd hR
      simp_arith [nn]
      refine R.call (fun r => Rk r _) ?_
      rintro _ C1 ⟨rfl, f2⟩
      exact ⟨rfl, (f1.trans fC).trans f2⟩
    | false =>
      simp_arith [e1, nn]
      refine key.call (fun r => Rk (finR (seqR r _)) _) ?_
      rintro _ C ⟨o3, o4, rfl, fC⟩
      have R := rtL_none (x1 := some (.bl false)) (x2 := some .non) (x3 := o3) (x4 := o4) (h1.frame fC (by simp) (by simp)) ok hd hR
      simp_arith [nn]
      refine R.call (fun r => Rk r _) ?_
      rintro _ C1 ⟨rfl, f2⟩
      exact ⟨rfl, (f1.trans fC).trans f2⟩
  · have hne : ringsT T ≠ [] := fun e => by have := hw.1; rw [e] at this; simp at this
    obtain rfl : tr = false := by
      cases tr with
      | true => exact absurd (htr rfl) hne
      | false => rfl
    obtain ⟨p, hp, ht, hring⟩ := rings_mem hw.1
    obtain ⟨rl, y, hy, hty⟩ := told_ring ok hp hring
    have yin := rl.s y (List.mem_of_head? hy)
    have hl : w.2.length ≤ 12 := by
      have := nodup_le (P := T.map Prod.fst) rl.nd fun x hx => isIn_mem.mp (rl.s x hx)
      rw [List.length_map] at this
      have := ok.l.2
      omega
    have key := rtF_ring (x1 := some (.bl false)) h1 ok hd hr1 hw hA hl
    have nn : ∀ B, oIsNot (.tup [.int w.1, .ref r0]) .non B = .ok (.bl true) B := fun _ => rfl
    simp_arith [e1]
    refine key.call (fun r => Rk (finR (seqR r _)) _) ?_
    rintro _ C ⟨o3, o4, rfl, fC⟩
    have hC := h1.frame fC (by simp) (by simp)
    obtain ⟨v, C1, e2, hv, f2⟩ := (wayT_ok (t := w.1) hC ok hd yin ht).ex
    rw [hty] at hv
    obtain ⟨k, rfl, _, gk⟩ := hv
    have g0 := f2.get (fC.get hA (by simp)) (by simp)
    have eq := eq_ring gk g0
    have i1 : ∀ B : Hs, oIx (.tup [.int w.1, .ref r0]) (.int 1) B = .ok (.ref r0) B := fun _ => rfl
    have i0 : ∀ B : Hs, oIx (.tup [.int w.1, .ref r0]) (.int 0) B = .ok (.int w.1) B := fun _ => rfl
    have iy : oIx (.ref r0) (.int 0) C = .ok (.int y) C := by
      have := fC.get hA (by simp)
      obtain ⟨l', hl'⟩ : ∃ l', w.2 = y :: l' := by
        cases e : w.2 with
        | nil => rw [e] at hy; simp at hy
        | cons z l' => rw [e] at hy; simp at hy; exact ⟨l', by rw [hy]⟩
      rw [hl', List.map_cons] at this
      simp_arith [this]
    simp_arith [nn, i1, iy, i0, e2, eq, -z8q]
    exact (f1.trans fC).trans f2

/-! the tables that are drawn -/
theorem mod_inj {x : Int} {i j : Nat} (hi : i < 256) (hj : j < 256) (h : (x + i) % 256 = (x + j) % 256) : i = j := by omega
theorem places_ok {A : Hs} {i : Nat} {m : Int} (hd : Drw A i) (h1 : 1 ≤ m) (h2 : m ≤ 12) : ∃ (P : List Int) (r : Nat) (A1 : Hs), F_l_places [.ref i, .int m] A = .ok (.ref r) A1 ∧ A1[r]? = some (.lst (P.map D.int)) ∧ P.Nodup ∧ P.length = m.toNat ∧ (∀ x ∈ P, plc x = true) ∧ A.length ≤ r ∧ Drw A1 i ∧ Fr [i] A A1 := by
  suffices H : Rk (F_l_places [.ref i, .int m] A) fun v A1 => ∃ (P : List Int) (r : Nat), v = .ref r ∧ A1[r]? = some (.lst (P.map D.int)) ∧ P.Nodup ∧ P.length = m.toNat ∧ (∀ x ∈ P, plc x = true) ∧ A.length ≤ r ∧ Drw A1 i ∧ Fr [i] A A1 by
    obtain ⟨_, A1, e, P, r, rfl, h⟩ := H.ex
    exact ⟨P, r, A1, e, h⟩
  have li := hd.lt
  obtain ⟨A1, hA1⟩ : ∃ A1, A1 = A ++ [O.lst []] := ⟨_, rfl⟩
  have f1 : Fr [] A A1 := by rw [hA1]; exact .push
  have g1 : A1[A.length]? = some (.lst []) := by rw [hA1]; simp
  have l1 : A1.length = A.length + 1 := by rw [hA1]; simp
  obtain ⟨off, A2, o1, o2, e2, d2, f2⟩ := next_ok (n := 256) (hd.frame f1 (by simp)) (by decide) (by decide)
  have g2 := f2.get g1 (by simp; omega)
  unfold F_l_places
  simp_arith [← hA1, e2]
  refine for_go (R := fun rs => Rk (finR (seqR rs _)) _) (fun k e C => ∃ (P : List Int) (o4 o5 : Option D), e = [some (.ref i), some (.int m), some (.ref A.length), some (.int off), o4, o5] ∧ C[A.length]? = some (.lst (P.map D.int)) ∧ P.Nodup ∧ P.length = k ∧ (∀ x ∈ P, plc x = true) ∧ Drw C i ∧ Fr [i, A.length] A2 C) ⟨[], _, _, rfl, g2, List.nodup_nil, rfl, by simp, d2, Fr.refl⟩ (fun _ _ _ _ _ => trivial) ?_ ?_
  · rintro k _ C dd hdd ⟨P, o4, o5, rfl, gC, nd, lP, pP, dC, fC⟩
    obtain ⟨rfl, lk⟩ := rgL_get hdd
    have lk12 : k < 12 := by omega
    obtain ⟨a, C1, a1, a2, ea, dC1, fC1⟩ := next_ok (n := 256) dC (by decide) (by decide)
    obtain ⟨C2, hC2⟩ : ∃ C2, C2 = C1 ++ [O.lst [.int a, .int (off + (0 + (k : Nat) * 1)), .int (255 - (0 + (k : Nat) * 1))]] := ⟨_, rfl⟩
    have fC2 : Fr [] C1 C2 := by rw [hC2]; exact .push
    have hC2g : C2[C1.length]? = some (.lst [.int a, .int (off + (0 + (k : Nat) * 1)), .int (255 - (0 + (k : Nat) * 1))]) := by rw [hC2]; simp
    have liC := dC1.lt
    obtain ⟨z, C3, z1, z2, ez, dC3, fC3⟩ := next_ok (n := 3) (dC1.frame fC2 (by simp)) (by decide) (by decide)
    have hC3g := fC3.get hC2g (by simp; omega)
    obtain ⟨x, hx⟩ : ∃ x : Int, oIx (.ref C1.length) (.int z) C3 = .ok (.int x) C3 := by
      have : z = 0 ∨ z = 1 ∨ z = 2 := by omega
      rcases this with rfl | rfl | rfl
      · exact ⟨a, by simp_arith [hC3g]⟩
      · exact ⟨off + (0 + (k : Nat) * 1), by simp_arith [hC3g]⟩
      · exact ⟨255 - (0 + (k : Nat) * 1), by simp_arith [hC3g]⟩
    have nA := fC.le
    have nA2 := f2.le
    have n1 := fC1.le
    have gC3 : C3[A.length]? = some (.lst (P.map D.int)) := fC3.get (fC2.get (fC1.get gC (by simp; omega)) (by simp)) (by simp; omega)
    have fAC3 : Fr [i, A.length] A2 C3 := ((fC.trans (fC1.mono (by simp))).trans (fC2.mono (by simp))).trans (fC3.mono (by simp))
    show Got _ _
    simp_arith [ea, ← hC2, ez, hx, -z8q]
    refine wh_go (fun n e B => ∃ s : Nat, n + s = P.length + 1 ∧ e = [some (.ref i), some (.int m), some (.ref A.length), some (.int off), some (.int (0 + (k : Nat) * 1)), some (.int ((x + s) % 256))] ∧ C3 = B ∧ ∀ j < s, (x + j) % 256 ∈ P) (fun rs => Trn _ _ (seqR rs _)) (n := P.length + 1) ⟨0, by omega, by simp, rfl, fun j hj => by omega⟩ ?_
    rintro n _ _ ⟨s, hn, rfl, rfl, hs⟩
    by_cases c : (x + s) % 256 ∈ P
    · have big : s + 1 ≤ P.length := by
        have nd2 : ((List.range (s + 1)).map fun j : Nat => (x + j) % 256).Nodup := by
          have ls : s < 256 := by
            have h0 : ((List.range s).map fun j : Nat => (x + j) % 256).length ≤ 256 + 0 := by
              rw [List.length_map, List.length_range]
              have := hn
              omega
            have : s ≤ P.length + 1 := by omega
            omega
          rw [List.nodup_iff_pairwise_ne, List.pairwise_map]
          refine (List.pairwise_lt_range (n := s + 1)).imp_of_mem ?_
          intro u v hu hv huv e
          have := List.mem_range.mp hu
          have := List.mem_range.mp hv
          have := mod_inj (x := x) (i := u) (j := v) (by omega) (by omega) e
          omega
        have := nodup_le nd2 (P := P) fun y hy => by
          obtain ⟨j, hj, rfl⟩ := List.mem_map.mp hy
          have hj := List.mem_range.mp hj
          by_cases e : j = s
          · subst e; exact c
          · exact hs j (by omega)
        rw [List.length_map, List.length_range] at this
        exact this
      have nx : ((x + s) % 256 + 1) % 256 = (x + ((s + 1 : Nat) : Int)) % 256 := by omega
      simp_arith [gC3, z2c, c, nx]
      have hh : ∀ j < s + 1, (x + j) % 256 ∈ P := fun j hj => by
        by_cases e : j = s
        · subst e; exact c
        · exact hs j (by omega)
      first | exact ⟨n - 1, by omega, s + 1, by omega, rfl, hh⟩ | exact ⟨n - 1, by omega, s + 1, by omega, rfl, rfl, hh⟩
    · have lPs : (P.map D.int).length < 16000000 := by rw [List.length_map]; omega
      obtain ⟨C4, hC4⟩ : ∃ C4, C4 = C3.set A.length (.lst (P.map D.int ++ [.int ((x + s) % 256)])) := ⟨_, rfl⟩
      have f4 : Fr [A.length] C3 C4 := by rw [hC4]; exact Fr.set (by simp)
      simp_arith [gC3, z2c, c, ← hC4]
      refine ⟨P ++ [(x + s) % 256], _, _, rfl, by rw [hC4, zbq (lt_of_get gC3), List.map_append]; rfl, ?_, by simp [lP], fun y hy => ?_, dC3.frame f4 (by simp; omega), fAC3.trans (f4.mono (by simp))⟩
      · rw [List.nodup_append]
        refine ⟨nd, by simp, fun u hu v hv e => ?_⟩
        rw [List.mem_singleton] at hv
        exact c (hv ▸ e ▸ hu)
      · rcases List.mem_append.mp hy with q | q
        · exact pP y q
        · rw [List.mem_singleton] at q
          unfold plc
          rw [q, decide_eq_true (by omega), decide_eq_true (by omega)]; rfl
  · rintro _ C ⟨P, o4, o5, rfl, gC, nd, lP, pP, dC, fC⟩
    rw [rgL_len] at lP
    simp_arith []
    refine ⟨P, _, rfl, gC, nd, lP, pP, Nat.le_refl _, dC, ?_⟩
    exact ((f1.mono (by simp) : Fr [i] A A1).trans f2).trans' fC (fun j hj => by
      simp only [List.mem_cons, List.not_mem_nil, or_false] at hj
      rcases hj with q | q
      · left; simp [q]
      · right; omega)

def TB (P : List Int) (f : Int → List (Int × Int)) : Tb := P.map fun p => (p, f p)
theorem TB_fst {P : List Int} {f : Int → List (Int × Int)} : (TB P f).map Prod.fst = P := by
  unfold TB; rw [List.map_map]; simp [Function.comp_def]
theorem TB_isIn {P : List Int} {f : Int → List (Int × Int)} {p : Int} : isIn (TB P f) p = true ↔ p ∈ P := by rw [isIn_mem, TB_fst]
theorem TB_len {P : List Int} {f : Int → List (Int × Int)} : (TB P f).length = P.length := by unfold TB; rw [List.length_map]
def FOk (P Q : List Int) (f : Int → List (Int × Int)) : Prop := ∀ p ∈ Q, ∀ y ∈ f p, (y.1 ∈ P ∧ y.1 ≠ p) ∧ (y.2 ∈ P ∧ y.2 ≠ p)
theorem TB_ok {P : List Int} {f : Int → List (Int × Int)} (nd : P.Nodup) (hl : 1 ≤ P.length ∧ P.length ≤ 12) (hp : ∀ x ∈ P, plc x = true) (hf : FOk P P f) : TbGd (TB P f) := by
  refine ⟨by rw [TB_fst]; exact nd, by rw [TB_len]; exact hl, fun z hz => ?_, fun z hz y hy => ?_⟩
  · unfold TB at hz
    obtain ⟨p, h, rfl⟩ := List.mem_map.mp hz
    exact hp p h
  · unfold TB at hz
    obtain ⟨p, h, rfl⟩ := List.mem_map.mp hz
    obtain ⟨⟨a, b⟩, c, e⟩ := hf p h y hy
    exact ⟨⟨hp _ a, TB_isIn.mpr a, b⟩, hp _ c, TB_isIn.mpr c, e⟩
theorem TB_get {P : List Int} {f : Int → List (Int × Int)} {i : Nat} {z : Int × List (Int × Int)} (h : (TB P f)[i]? = some z) : ∃ p, P[i]? = some p ∧ z = (p, f p) := by
  unfold TB at h
  rw [List.getElem?_map] at h
  obtain ⟨p, h1, h2⟩ := Option.map_eq_some_iff.mp h
  exact ⟨p, h1, h2.symm⟩
theorem IsT.row {A : Hs} {d : Nat} {P : List Int} {f : Int → List (Int × Int)} {rs : List Nat} {lk : Bool} (h : IsT A d (TB P f) rs lk) {j : Nat} {p : Int} (hp : P[j]? = some p) : ∃ r, rs[j]? = some r ∧ A[r]? = some (.dic false false (wys (f p))) := by
  have lj := (List.getElem?_eq_some_iff.mp hp).1
  have hr : rs[j]? = some (rs[j]'(by rw [h.l, TB_len]; exact lj)) := List.getElem?_eq_getElem _
  refine ⟨_, hr, h.w j (p, f p) _ ?_ hr⟩
  unfold TB; rw [List.getElem?_map, hp]; rfl
theorem IsT.lt {A : Hs} {d : Nat} {P : List Int} {f : Int → List (Int × Int)} {rs : List Nat} {lk : Bool} (h : IsT A d (TB P f) rs lk) : ∀ r ∈ rs, r < A.length := fun r hr => by
  obtain ⟨j, hj⟩ := List.getElem?_of_mem hr
  have lj := (List.getElem?_eq_some_iff.mp hj).1
  rw [h.l, TB_len] at lj
  obtain ⟨r', h1, h2⟩ := h.row (List.getElem?_eq_getElem lj)
  rw [hj] at h1
  cases h1
  exact lt_of_get h2
theorem IsT.put {A : Hs} {d : Nat} {P : List Int} {f g : Int → List (Int × Int)} {rs : List Nat} (h : IsT A d (TB P f) rs false) (nd : P.Nodup) (rn : rs.Nodup) (hd : d ∉ rs) {j : Nat} {p : Int} {r : Nat} (hp : P[j]? = some p) (hr : rs[j]? = some r) (hg : ∀ q ∈ P, q ≠ p → g q = f q) :
    IsT (A.set r (.dic false false (wys (g p)))) d (TB P g) rs false := by
  have rd : r ≠ d := fun e => hd (by rw [← e]; exact List.mem_of_getElem? hr)
  refine ⟨by rw [h.l, TB_len, TB_len], ?_, fun i z r' h1 h2 => ?_⟩
  · rw [z4d rd]
    have := h.o
    rw [TB_fst] at this ⊢
    exact this
  · obtain ⟨q, hq, rfl⟩ := TB_get h1
    by_cases c : i = j
    · subst c
      rw [hp] at hq; cases hq
      rw [hr] at h2; cases h2
      have := h.row hp
      obtain ⟨r2, k1, k2⟩ := this
      rw [hr] at k1; cases k1
      exact zbq (lt_of_get k2)
    · have rr : r ≠ r' := fun e => by
        subst e
        exact c ((List.getElem?_inj (List.getElem?_eq_some_iff.mp h2).1 rn).mp (h2.trans hr.symm))
      have qp : q ≠ p := fun e => by
        subst e
        exact c ((List.getElem?_inj (List.getElem?_eq_some_iff.mp hq).1 nd).mp (hq.trans hp.symm))
      rw [z4d rr]
      obtain ⟨r2, k1, k2⟩ := h.row hq
      rw [h2] at k1; cases k1
      rw [hg q (List.mem_of_getElem? hq) qp]
      exact k2
theorem IsT.snoc {A : Hs} {d : Nat} {P : List Int} {f g : Int → List (Int × Int)} {rs : List Nat} (h : IsT A d (TB P f) rs false) (hd : d ∉ rs) {p : Int} {r : Nat} (hp : p ∉ P) (hr : A[r]? = some (.dic false false [])) (hrd : r ≠ d) (hg : ∀ q ∈ P, g q = f q) (hgp : g p = []) :
    IsT (A.set d (.dic false false (kput (kvI (outs (TB P f) rs)) (.int p) (.ref r)))) d (TB (P ++ [p]) g) (rs ++ [r]) false := by
  have ll := h.l
  rw [TB_len] at ll
  have lk : (outs (TB P f) rs).lookup p = none := by
    have := outs_isSome (p := p) h.l
    have n : isIn (TB P f) p = false := by
      cases e : isIn (TB P f) p with
      | false => rfl
      | true => exact absurd (TB_isIn.mp e) hp
    rw [n] at this
    cases q : (outs (TB P f) rs).lookup p with
    | none => rfl
    | some x => rw [q] at this; cases this
  rw [kput_kvI lk]
  refine ⟨by rw [List.length_append, TB_len, List.length_append, ll]; rfl, ?_, fun i z r' h1 h2 => ?_⟩
  · rw [zbq (lt_of_get h.o)]
    unfold outs
    rw [TB_fst, TB_fst, List.map_append, List.zip_append (by rw [List.length_map, ll])]
    rfl
  · obtain ⟨q, hq, rfl⟩ := TB_get h1
    by_cases c : i < P.length
    · rw [List.getElem?_append_left c] at hq
      rw [List.getElem?_append_left (by omega)] at h2
      rw [z4d (fun e : d = r' => hd (by rw [e]; exact List.mem_of_getElem? h2))]
      obtain ⟨r2, k1, k2⟩ := h.row hq
      rw [h2] at k1; cases k1
      rw [hg q (List.mem_of_getElem? hq)]; exact k2
    · have c2 : i = P.length := by
        have := (List.getElem?_eq_some_iff.mp hq).1
        simp at this; omega
      subst c2
      rw [List.getElem?_append_right (Nat.le_refl _), Nat.sub_self] at hq
      rw [← ll, List.getElem?_append_right (Nat.le_refl _), Nat.sub_self] at h2
      simp at hq h2
      subst hq; subst h2
      rw [z4d (Ne.symm hrd), hgp]; exact hr
theorem wys_put {w : List (Int × Int)} {t nb : Int} (h : ∀ y ∈ w, y.1 ≠ t) : kput (wys w) (.int t) (.int nb) = wys (w ++ [(t, nb)]) := by
  unfold wys
  rw [kput_kvI, List.map_append]
  · rfl
  · induction w with
    | nil => rfl
    | cons z w ih =>
      rw [List.map_cons, List.lookup_cons]
      have : (t == z.1) = false := by simpa using (h z List.mem_cons_self).symm
      rw [this]
      exact ih fun y hy => h y (List.mem_cons_of_mem _ hy)
theorem wys_len {w : List (Int × Int)} : (wys w).length = w.length := by unfold wys; rw [len_kvI, List.length_map]
theorem outs_look {A : Hs} {d : Nat} {P : List Int} {f : Int → List (Int × Int)} {rs : List Nat} {lk : Bool} (h : IsT A d (TB P f) rs lk) (nd : P.Nodup) {j : Nat} {p : Int} {r : Nat} (hp : P[j]? = some p) (hr : rs[j]? = some r) : kget (kvI (outs (TB P f) rs)) (.int p) = some (.ref r) := by
  rw [kget_kvI]
  unfold outs
  rw [TB_fst]
  clear h
  induction P generalizing j rs with
  | nil => simp at hp
  | cons a P ih =>
    cases rs with
    | nil => simp at hr
    | cons b rs =>
      rw [List.map_cons, List.zip_cons_cons, List.lookup_cons]
      cases j with
      | zero =>
        simp at hp hr
        subst hp; subst hr
        simp
      | succ j =>
        rw [List.nodup_cons] at nd
        simp at hp hr
        have : (p == a) = false := by
          have : p ≠ a := fun e => nd.1 (by rw [← e]; exact List.mem_of_getElem? hp)
          simpa using this
        rw [this]
        exact ih nd.2 hp hr

theorem lc_of {α : Type} {g : G} {t : Tt} {a : E} {gd : Hs → Prop} {env : Sl} {A : Hs} (f : α → D) (p : α → Bool) (h : α → D) (hgd : gd A) : ∀ {L : List α} {acc : List D}, acc.length + L.length < 16000000 →
    (∀ y ∈ L, Got (g (f y) env A) fun e1 => Rk (t e1 A) fun c A1 => c = p y ∧ A1 = A ∧ (c = true → Rk (a e1 A) fun v A2 => v = h y ∧ A2 = A)) → lcL g t a gd env (L.map f) acc A = .ok (acc ++ (L.filter p).map h) A
  | [], acc, _, _ => by
    rw [List.map_nil]; unfold lcL; rw [if_pos hgd]; simp
  | y :: L, acc, hl, hs => by
    have h1 := hs y List.mem_cons_self
    rw [List.length_cons] at hl
    rw [List.map_cons]
    unfold lcL
    rw [if_pos hgd]
    cases q : g (f y) env A with
    | none => rw [q] at h1; exact h1.elim
    | some e1 =>
      rw [q] at h1
      obtain ⟨c, A1, e2, hc, rfl, h3⟩ := Rk.ex h1
      simp only [e2]
      have hs' := fun z hz => hs z (List.mem_cons_of_mem _ hz)
      cases c with
      | true =>
        obtain ⟨v, A2, e4, rfl, rfl⟩ := (h3 rfl).ex
        simp only [e4]
        rw [if_pos (by rw [sizeLine_eq]; omega), lc_of f p h hgd (by simp; omega) hs', List.filter_cons, ← hc, if_pos rfl]
        simp
      | false =>
        show lcL g t a gd env (L.map f) acc A1 = _
        rw [lc_of (acc := acc) f p h hgd (by omega) hs', List.filter_cons, ← hc, if_neg (by simp)]

/-- a good table at d -/
structure GT (A : Hs) (d : Nat) (P : List Int) (f : Int → List (Int × Int)) (rs : List Nat) : Prop where
  t : IsT A d (TB P f) rs false
  nd : P.Nodup
  l : 1 ≤ P.length ∧ P.length ≤ 12
  p : ∀ x ∈ P, plc x = true
  w : FOk P P f
  dr : d ∉ rs
  rn : rs.Nodup
/-- one more way told -/
theorem row_put {B : Hs} {d : Nat} {Q : List Int} {f : Int → List (Int × Int)} {rs : List Nat} {j : Nat} {p t nb : Int} {r : Nat} (h : IsT B d (TB Q f) rs false) (nd : Q.Nodup) (rn : rs.Nodup) (hd : d ∉ rs) (hp : Q[j]? = some p) (hr : rs[j]? = some r) (hw : ∀ y ∈ f p, y.1 ≠ t) :
    oDGet (.ref d) (.int p) B = .ok (.ref r) B ∧ B[r]? = some (.dic false false (wys (f p))) ∧ kput (wys (f p)) (.int t) (.int nb) = wys (f p ++ [(t, nb)]) ∧ IsT (B.set r (.dic false false (wys (f p ++ [(t, nb)])))) d (TB Q (fun q => if q = p then f p ++ [(t, nb)] else f q)) rs false := by
  have oB : B[d]? = some (.dic false false (kvI (outs (TB Q f) rs))) := h.o
  have hk := outs_look h nd hp hr
  obtain ⟨r', k1, k2⟩ := h.row hp
  rw [hr] at k1; cases k1
  refine ⟨by simp_arith [oB, hk], k2, wys_put hw, ?_⟩
  have := h.put (g := fun q => if q = p then f p ++ [(t, nb)] else f q) nd rn hd hp hr (fun q _ hq => by rw [if_neg hq])
  simpa using this
theorem table_ok {A : Hs} {i : Nat} {m : Int} (hd : Drw A i) (h1 : 1 ≤ m) (h2 : m ≤ 12) : ∃ (P : List Int) (f : Int → List (Int × Int)) (rs : List Nat) (d : Nat) (A1 : Hs), F_l_table [.ref i, .int m] A = .ok (.ref d) A1 ∧ GT A1 d P f rs ∧ Drw A1 i ∧ Fr [i] A A1 := by
  suffices H : Rk (F_l_table [.ref i, .int m] A) fun v A1 => ∃ (P : List Int) (f : Int → List (Int × Int)) (rs : List Nat) (d : Nat), v = .ref d ∧ GT A1 d P f rs ∧ Drw A1 i ∧ Fr [i] A A1 by
    obtain ⟨_, A1, e, P, f, rs, d, rfl, h⟩ := H.ex
    exact ⟨P, f, rs, d, A1, e, h⟩
  obtain ⟨v1, A1, a1, b1, e1, d1, f1⟩ := next_ok (n := m) hd (by omega) (by omega)
  obtain ⟨P, rp, A2, e2, gP, nd, lP, pP, hrp, d2, f2⟩ := places_ok (m := 1 + v1) d1 (by omega) (by omega)
  obtain ⟨lacks, A3, a3, b3, e3, d3, f3⟩ := next_ok (n := 3) d2 (by decide) (by decide)
  have li := d3.lt
  have n1 := f1.le
  have n2 := f2.le
  have n3 := f3.le
  have liA := hd.lt
  obtain ⟨d, hdd⟩ : ∃ d, d = A3.length := ⟨_, rfl⟩
  obtain ⟨A4, hA4⟩ : ∃ A4, A4 = A3 ++ [O.dic false false []] := ⟨_, rfl⟩
  have f4 : Fr [] A3 A4 := by rw [hA4]; exact .push
  have l4 : A4.length = d + 1 := by rw [hA4, hdd]; simp
  have g4 : A4[d]? = some (.dic false false []) := by rw [hA4, hdd]; simp
  have d4 := d3.frame f4 (by simp)
  have fA4 : Fr [i] A A4 := ((f1.trans f2).trans f3).trans (f4.mono (by simp))
  have lrp := lt_of_get gP
  have gP4 : A4[rp]? = some (.lst (P.map D.int)) := f4.get (f3.get gP (by simp; omega)) (by simp)
  have lPb : 1 ≤ P.length ∧ P.length ≤ 12 := by rw [lP]; omega
  have t0 : IsT A4 d (TB [] fun _ => []) [] false := ⟨rfl, g4, fun i z r h1 h2 => (by simp at h2)⟩
  unfold F_l_table
  simp_arith [e1, e2, e3, ← hA4, ← hdd, gP4]
  refine for_go (R := fun rs => Rk (finR (seqR rs _)) _) (fun j e C => ∃ (f : Int → List (Int × Int)) (rs : List Nat) (o5 o6 o7 o8 o9 : Option D), e = [some (.ref i), some (.int m), some (.ref rp), some (.int lacks), some (.ref d), o5, o6, o7, o8, o9] ∧ IsT C d (TB (P.take j) f) rs false ∧ FOk P (P.take j) f ∧ rs.Nodup ∧ (∀ r ∈ rs, d < r) ∧ Drw C i ∧ Fr [i, d] A4 C) ⟨_, [], _, _, _, _, _, rfl, t0, fun p hp => (by simp at hp), List.nodup_nil, by simp, d4, Fr.refl⟩ (fun j e C _ h => by
    obtain ⟨_, _, _, _, _, _, _, _, _, _, _, _, _, fC⟩ := h
    exact fC.get gP4 (by simp; omega)) ?_ ?_
  · rintro j _ C dd hdd' ⟨f, rs, o5, o6, o7, o8, o9, rfl, hT, hF, rn, hrs, dC, fC⟩
    rw [List.getElem?_map] at hdd'
    obtain ⟨p, hp, rfl⟩ := Option.map_eq_some_iff.mp hdd'
    have lj := (List.getElem?_eq_some_iff.mp hp).1
    have tk : P.take (j + 1) = P.take j ++ [p] := by rw [List.take_succ, hp]; rfl
    have ltk : (P.take j).length = j := by rw [List.length_take]; omega
    have pn : p ∉ P.take j := fun hm => by
      have := nd
      rw [← List.take_append_drop j P, List.nodup_append] at this
      exact this.2.2 p hm p (by rw [List.drop_eq_getElem_cons lj]; rw [(List.getElem?_eq_some_iff.mp hp).2]; exact List.mem_cons_self) rfl
    have gPC := fC.get gP4 (by simp; omega)
    have nC := fC.le
    obtain ⟨Oz, hOz⟩ : ∃ Oz, Oz = P.filter fun x => !decide (x = p) := ⟨_, rfl⟩
    have lO : Oz.length ≤ 12 := by rw [hOz]; exact Nat.le_trans (List.length_filter_le _ _) lPb.2
    have ndO : Oz.Nodup := by rw [hOz]; exact nd.sublist List.filter_sublist
    have mO : ∀ x ∈ Oz, x ∈ P ∧ x ≠ p := fun x hx => by
      rw [hOz] at hx
      have := List.mem_filter.mp hx
      exact ⟨this.1, by simpa using this.2⟩
    have lc := fun (o6 o8 o9 : Option D) => lc_of (g := gN 7) (t := tOf (eOp oNe (eVar 7) (eVar 5))) (a := eVar 7) (gd := fun A' => A'[rp]? = some (.lst (P.map D.int))) (env := [some (.ref i), some (.int m), some (.ref rp), some (.int lacks), some (.ref d), some (.int p), o6, none, o8, o9]) (A := C) D.int (fun x => !decide (x = p)) D.int gPC (L := P) (acc := []) (by simp; omega) (fun y hy => by
      show Got _ _
      simp_arith []
      try exact fun _ => trivial)
    have lc := lc o6 o8 o9
    rw [List.nil_append, ← hOz] at lc
    obtain ⟨C1, hC1⟩ : ∃ C1, C1 = C ++ [O.lst (Oz.map D.int)] := ⟨_, rfl⟩
    have fC1 : Fr [] C C1 := by rw [hC1]; exact .push
    have k1 : C1[C.length]? = some (.lst (Oz.map D.int)) := by rw [hC1]; simp
    have m1 : C1.length = C.length + 1 := by rw [hC1]; simp
    obtain ⟨C2, hC2⟩ : ∃ C2, C2 = C1 ++ [O.dic false false []] := ⟨_, rfl⟩
    have fC2 : Fr [] C1 C2 := by rw [hC2]; exact .push
    have k2 : C2[C.length + 1]? = some (.dic false false []) := by rw [hC2, ← m1]; simp
    have m2 : C2.length = C.length + 2 := by rw [hC2]; simp [m1]
    have hT2 := (hT.frame fC1 (by simp) (by simp)).frame fC2 (by simp) (by simp)
    have o2 : C2[d]? = some (.dic false false (kvI (outs (TB (P.take j) f) rs))) := hT2.o
    obtain ⟨g, hg⟩ : ∃ g : Int → List (Int × Int), g = fun q => if q = p then [] else f q := ⟨_, rfl⟩
    have dr : d ∉ rs := fun hm => by have := hrs d hm; omega
    have hT3 := hT2.snoc (g := g) dr pn k2 (by omega) (fun q hq => by rw [hg]; simp only; rw [if_neg (fun e => pn (by rw [← e]; exact hq))]) (by rw [hg]; simp)
    obtain ⟨C3, hC3⟩ : ∃ C3, C3 = C2.set d (.dic false false (kput (kvI (outs (TB (P.take j) f) rs)) (.int p) (.ref (C.length + 1)))) := ⟨_, rfl⟩
    rw [← hC3, ← tk] at hT3
    have fC3 : Fr [d] C2 C3 := by rw [hC3]; exact Fr.set (by simp)
    have k3 := fC3.get (fC2.get k1 (by simp)) (by simp; omega)
    have kvl : (kvI (outs (TB (P.take j) f) rs)).length < 16000000 := by
      rw [len_kvI]; unfold outs; rw [List.length_zip, TB_fst, ltk]; omega
    have d3' := ((dC.frame fC1 (by simp)).frame fC2 (by simp)).frame fC3 (by simp; omega)
    have f13 : Fr [d] C C3 := ((fC1.trans fC2).mono (by simp)).trans fC3
    have rn' : (rs ++ [C.length + 1]).Nodup := by
      rw [List.nodup_append]
      refine ⟨rn, by simp, fun a ha b hb e => ?_⟩
      rw [List.mem_singleton] at hb
      have := hT.lt a ha
      omega
    have dr' : d ∉ rs ++ [C.length + 1] := fun hm => by
      rcases List.mem_append.mp hm with q | q
      · exact dr q
      · rw [List.mem_singleton] at q; omega
    have pj : (P.take (j + 1))[j]? = some p := by rw [List.getElem?_take, if_pos (by omega)]; exact hp
    have rj : (rs ++ [C.length + 1])[j]? = some (C.length + 1) := by
      have ll := hT.l
      rw [TB_len, ltk] at ll
      rw [List.getElem?_append_right (by omega), ll, Nat.sub_self]; rfl
    have nd' : (P.take (j + 1)).Nodup := nd.sublist (List.take_sublist _ _)
    have fAC : Fr [i, d] A4 C3 := fC.trans (f13.mono (by simp))
    show Got _ _
    simp_arith [gPC, lc, ← hC1, ← hC2, m1, o2, zb4 kvl, ← hC3, k3]
    refine for_go (R := Trn _ _) (fun k e B => ∃ (w : List (Int × Int)) (o8 o9 : Option D), e = [some (.ref i), some (.int m), some (.ref rp), some (.int lacks), some (.ref d), some (.int p), some (.ref C.length), o7, o8, o9] ∧ IsT B d (TB (P.take (j + 1)) (fun q => if q = p then w else f q)) (rs ++ [C.length + 1]) false ∧ (∀ y ∈ w, y.1 ∈ Oz.take k ∧ y.2 ∈ Oz) ∧ w.length ≤ k ∧ Drw B i ∧ Fr [i, C.length + 1] C3 B) ⟨[], _, _, rfl, by rw [hg] at hT3; exact hT3, by simp, Nat.le_refl _, d3', Fr.refl⟩ (fun k e B _ h => by
      obtain ⟨_, _, _, _, _, _, _, _, fB⟩ := h
      exact fB.get k3 (by simp; omega)) ?_ ?_
    · rintro k _ B dd hdd'' ⟨w, o8, o9, rfl, hTB, hw, lw, dB, fB⟩
      rw [List.getElem?_map] at hdd''
      obtain ⟨t, ht, rfl⟩ := Option.map_eq_some_iff.mp hdd''
      have lk := (List.getElem?_eq_some_iff.mp ht).1
      have tkO : Oz.take (k + 1) = Oz.take k ++ [t] := by rw [List.take_succ, ht]; rfl
      have tn : t ∉ Oz.take k := fun hm => by
        have := ndO
        rw [← List.take_append_drop k Oz, List.nodup_append] at this
        exact this.2.2 t hm t (by rw [List.drop_eq_getElem_cons lk]; rw [(List.getElem?_eq_some_iff.mp ht).2]; exact List.mem_cons_self) rfl
      have kB := fB.get k3 (by simp; omega)
      obtain ⟨v, B1, va, vb, ev, dB1, fB1⟩ := next_ok (n := (Oz.length : Nat)) dB (by omega) (by omega)
      have kB1 := fB1.get kB (by simp; omega)
      obtain ⟨nb, hnb⟩ : ∃ nb, Oz[v.toNat]? = some nb := ⟨_, List.getElem?_eq_getElem (by omega)⟩
      have inb : oIx (.ref C.length) (.int v) B1 = .ok (.int nb) B1 := by
        simp_arith [kB1]
        rw [List.getElem?_map, hnb]; rfl
      have lB : oLenL (.ref C.length) B = .ok (.int (Oz.length : Nat)) B := by simp_arith [kB]
      -- what the put does, in a heap behind B1
      have put : ∀ (B2 : Hs), Drw B2 i → Fr [i] B1 B2 → ∃ B3, oDGet (.ref d) (.int p) B2 = .ok (.ref (C.length + 1)) B2 ∧ B2[C.length + 1]? = some (.dic false false (wys w)) ∧ B3 = B2.set (C.length + 1) (.dic false false (wys (w ++ [(t, nb)]))) ∧ kput (wys w) (.int t) (.int nb) = wys (w ++ [(t, nb)]) ∧ IsT B3 d (TB (P.take (j + 1)) (fun q => if q = p then w ++ [(t, nb)] else f q)) (rs ++ [C.length + 1]) false ∧ Drw B3 i ∧ Fr [i, C.length + 1] C3 B3 := fun B2 dB2 fB2 => by
        have hTB2 : IsT B2 d (TB (P.take (j + 1)) (fun q => if q = p then w else f q)) (rs ++ [C.length + 1]) false := by
          have hi : ∀ r ∈ rs ++ [C.length + 1], r ∉ [i] := fun r hr => by
            rcases List.mem_append.mp hr with q | q
            · have := hrs r q; simp; omega
            · rw [List.mem_singleton] at q; simp; omega
          exact (hTB.frame fB1 (by simp; omega) hi).frame fB2 (by simp; omega) hi
        obtain ⟨p1, p2, p3, p4⟩ := row_put (t := t) (nb := nb) hTB2 nd' rn' dr' pj rj (fun y hy => by
          simp only [if_true] at hy
          intro e
          exact tn (e ▸ (hw y hy).1))
        simp only [if_true] at p1 p2 p3 p4
        have f3 : Fr [C.length + 1] B2 (B2.set (C.length + 1) (.dic false false (wys (w ++ [(t, nb)])))) := Fr.set (by simp)
        refine ⟨_, p1, p2, rfl, p3, ?_, dB2.frame f3 (by simp; omega), ((fB.trans (fB1.mono (by simp))).trans (fB2.mono (by simp))).trans (f3.mono (by simp))⟩
        have e : (fun q => if q = p then w ++ [(t, nb)] else if q = p then w else f q) = fun q => if q = p then w ++ [(t, nb)] else f q := by
          funext q
          by_cases c : q = p
          · rw [if_pos c, if_pos c]
          · rw [if_neg c, if_neg c, if_neg c]
        rw [e] at p4
        exact p4
      have hw1 : ∀ y ∈ w ++ [(t, nb)], y.1 ∈ Oz.take (k + 1) ∧ y.2 ∈ Oz := fun y hy => by
        rw [tkO]
        rcases List.mem_append.mp hy with q | q
        · exact ⟨List.mem_append_left _ (hw y q).1, (hw y q).2⟩
        · rw [List.mem_singleton] at q
          rw [q]; exact ⟨by simp, List.mem_of_getElem? hnb⟩
      have hw0 : ∀ y ∈ w, y.1 ∈ Oz.take (k + 1) ∧ y.2 ∈ Oz := fun y hy => by
        rw [tkO]; exact ⟨List.mem_append_left _ (hw y hy).1, (hw y hy).2⟩
      have wl : (wys w).length < 16000000 := by
        rw [wys_len]; omega
      show Got _ _
      by_cases c : lacks = 0
      · obtain ⟨B3, p1, p2, p3, p4, p5, p6, p7⟩ := put B1 dB1 Fr.refl
        simp_arith [kB, ev, inb, c, p1, p2, zb4 wl, p4, ← p3, -z8q, -z3d]
        exact ⟨_, _, _, rfl, p5, hw1, by simp; omega, p6, p7⟩
      · obtain ⟨u, B2, ua, ub, eu, dB2, fB2⟩ := next_ok (n := 1 + 3 * lacks) dB1 (by omega) (by omega)
        by_cases cu : 0 < u
        · obtain ⟨B3, p1, p2, p3, p4, p5, p6, p7⟩ := put B2 dB2 fB2
          simp_arith [kB, ev, inb, c, eu, cu, p1, p2, zb4 wl, p4, ← p3, -z8q, -z3d]
          exact ⟨_, _, _, rfl, p5, hw1, by simp; omega, p6, p7⟩
        · simp_arith [kB, ev, inb, c, eu, cu, -z8q]
          have hi : ∀ r ∈ rs ++ [C.length + 1], r ∉ [i] := fun r hr => by
            rcases List.mem_append.mp hr with q | q
            · have := hrs r q; simp; omega
            · rw [List.mem_singleton] at q; simp; omega
          exact ⟨_, _, _, rfl, (hTB.frame fB1 (by simp; omega) hi).frame fB2 (by simp; omega) hi, hw0, by omega, dB2, (fB.trans (fB1.mono (by simp))).trans (fB2.mono (by simp))⟩
    · rintro _ B ⟨w, o8, o9, rfl, hTB, hw, lw, dB, fB⟩
      rw [List.length_map, List.take_length] at hw
      refine ⟨_, rs ++ [C.length + 1], _, _, _, _, _, rfl, hTB, fun q hq y hy => ?_, rn', fun r hr => ?_, dB, fAC.trans' fB (fun x hx => by
        simp only [List.mem_cons, List.not_mem_nil, or_false] at hx
        rcases hx with q | q
        · left; simp [q]
        · right; omega)⟩
      · simp only at hy
        by_cases c : q = p
        · rw [if_pos c] at hy
          obtain ⟨z1, z2⟩ := hw y hy
          rw [c]
          exact ⟨mO _ z1, mO _ z2⟩
        · rw [if_neg c] at hy
          rw [tk] at hq
          rcases List.mem_append.mp hq with z | z
          · exact hF q z y hy
          · rw [List.mem_singleton] at z; exact absurd z c
      · rcases List.mem_append.mp hr with q | q
        · exact hrs r q
        · rw [List.mem_singleton] at q; omega
  · rintro _ C ⟨f, rs, o5, o6, o7, o8, o9, rfl, hT, hF, rn, hrs, dC, fC⟩
    rw [List.length_map, List.take_length] at hT hF
    simp_arith []
    refine ⟨P, f, rs, d, rfl, ⟨hT, nd, lPb, pP, hF, fun hm => by have := hrs d hm; omega, rn⟩, dC, fA4.trans' fC (fun x hx => by
      simp only [List.mem_cons, List.not_mem_nil, or_false] at hx
      rcases hx with q | q
      · left; simp [q]
      · right; omega)⟩

theorem pairsD_kvI : ∀ {L : List (Int × D)}, pairsD (L.map fun p => D.tup [.int p.1, p.2]) = some (kvI L)
  | [] => rfl
  | p :: L => by
    rw [List.map_cons, pairsD, pairsD_kvI (L := L)]
    rfl
theorem look_none' {L : List (Int × D)} {k : Int} (h : k ∉ L.map Prod.fst) : L.lookup k = none := by
  induction L with
  | nil => rfl
  | cons p L ih =>
    rw [List.map_cons, List.mem_cons] at h
    rw [List.lookup_cons]
    have : (k == p.1) = false := by
      have : k ≠ p.1 := fun e => h (.inl e)
      simpa using this
    rw [this]
    exact ih fun m => h (.inr m)
theorem kmerge_kvI : ∀ {Q L : List (Int × D)}, ((L ++ Q).map Prod.fst).Nodup → kmerge (kvI L) (kvI Q) = kvI (L ++ Q)
  | [], L, _ => by rw [List.append_nil]; rfl
  | p :: Q, L, h => by
    have e : kvI (p :: Q) = (.int p.1, p.2) :: kvI Q := rfl
    have hn : p.1 ∉ L.map Prod.fst := by
      rw [List.map_append, List.nodup_append] at h
      intro m
      exact h.2.2 p.1 m p.1 (by simp) rfl
    rw [e, z02, kput_kvI (look_none' hn)]
    have := kmerge_kvI (Q := Q) (L := L ++ [(p.1, p.2)]) (by simpa using h)
    rw [this, List.append_assoc]; rfl
theorem dict_at {A : Hs} {l : Nat} {L : List (Int × D)} (h : A[l]? = some (.lst (L.map fun p => D.tup [.int p.1, p.2]))) (nd : (L.map Prod.fst).Nodup) : oDict (.ref l) A = .ok (.ref A.length) (A ++ [.dic false false (kvI L)]) := by
  have e : kmerge [] (kvI L) = kvI L := by
    have := kmerge_kvI (Q := L) (L := []) (by simpa using nd)
    exact this
  rw [z3c, h]
  unfold od_
  simp only [pairsD_kvI, e]
/-- how far a place is from a target in a tree -/
def rnk (P : List Int) (t x : Int) : Nat := if x = t then 0 else P.idxOf x + 1
theorem idx_at {P : List Int} (nd : P.Nodup) {k : Nat} {p : Int} (h : P[k]? = some p) : P.idxOf p = k := by
  have m := List.mem_of_getElem? h
  have l1 := List.idxOf_lt_length_of_mem m
  have e : P[P.idxOf p]? = some p := by rw [List.getElem?_eq_getElem l1]; simp
  exact (List.getElem?_inj l1 nd).mp (e.trans h.symm)
def Tree (P : List Int) (f : Int → List (Int × Int)) : Prop := ∀ p, ∀ y ∈ f p, rnk P y.1 y.2 < rnk P y.1 p
theorem tree_none {P : List Int} {f : Int → List (Int × Int)} (ok : TbGd (TB P f)) (h : Tree P f) : ringsT (TB P f) = [] := by
  have nx : ∀ t p q, nxt (TB P f) t p = some q → rnk P t q < rnk P t p := fun t p q e => by
    unfold nxt at e
    obtain ⟨w, h1, h2⟩ := Option.bind_eq_some_iff.mp e
    have hm := lookup_mem h1
    unfold TB at hm
    obtain ⟨p', _, e2⟩ := List.mem_map.mp hm
    cases e2
    exact h p (t, q) (lookup_mem h2)
  have no : ∀ p t, isIn (TB P f) p = true → ∀ l, told (TB P f) p t ≠ .ring l := fun p t hp l c => by
    obtain ⟨rl, _⟩ := told_ring ok hp c
    obtain ⟨x, y, e1, e2, _, e4⟩ := rl.e
    have mono : ∀ (j i : Nat) (a b : Int), i ≤ j → l[i]? = some a → l[j]? = some b → rnk P t b ≤ rnk P t a := by
      intro j
      induction j with
      | zero =>
        intro i a b hi ha hb
        have : i = 0 := by omega
        subst this
        rw [ha] at hb; cases hb; exact Nat.le_refl _
      | succ j ih =>
        intro i a b hi ha hb
        by_cases ci : i = j + 1
        · subst ci; rw [ha] at hb; cases hb; exact Nat.le_refl _
        · have lj := (List.getElem?_eq_some_iff.mp hb).1
          have hj : l[j]? = some (l[j]'(by omega)) := List.getElem?_eq_getElem _
          have c1 := ih i a _ (by omega) ha hj
          have c2 := nx t _ _ (rl.c j _ _ hj hb).1
          omega
    have l0 : 0 < l.length := List.length_pos_iff.mpr rl.ne
    have hx : l[l.length - 1]? = some x := by rw [← List.getLast?_eq_getElem?]; exact e1
    have hy : l[0]? = some y := by rw [← List.head?_eq_getElem?]; exact e2
    have a := mono (l.length - 1) 0 y x (by omega) hy hx
    have b := nx t x y e4
    omega
  unfold ringsT
  rw [List.flatMap_eq_nil_iff]
  intro t _
  rw [List.filterMap_eq_nil_iff]
  intro p hp
  unfold rgF
  cases c : told (TB P f) p t with
  | ring l => exact absurd c (no p t (isIn_mem.mpr hp) l)
  | _ => rfl
theorem tree_ok {A : Hs} {i l : Nat} {P : List Int} (hd : Drw A i) (hl : A[l]? = some (.lst (P.map D.int))) (hli : l ≠ i) (nd : P.Nodup) (lP : 1 ≤ P.length ∧ P.length ≤ 12) (pP : ∀ x ∈ P, plc x = true) : ∃ (f : Int → List (Int × Int)) (rs : List Nat) (d : Nat) (A1 : Hs), F_l_tree [.ref i, .ref l] A = .ok (.ref d) A1 ∧ GT A1 d P f rs ∧ Tree P f ∧ Drw A1 i ∧ Fr [i] A A1 := by
  suffices H : Rk (F_l_tree [.ref i, .ref l] A) fun v A1 => ∃ (f : Int → List (Int × Int)) (rs : List Nat) (d : Nat), v = .ref d ∧ GT A1 d P f rs ∧ Tree P f ∧ Drw A1 i ∧ Fr [i] A A1 by
    obtain ⟨_, A1, e, f, rs, d, rfl, h⟩ := H.ex
    exact ⟨f, rs, d, A1, e, h⟩
  have liA := hd.lt
  have llA := lt_of_get hl
  have lc := lc_run (A := A) (g := gN 3) (t := tYe) (a := eTup (aCons (eVar 3) (aCons (eDNew false) aNil))) (gd := fun A' => A'[l]? = some (.lst (P.map D.int))) (env := [some (.ref i), some (.ref l), none, none, none, none]) (ds := P.map D.int) (fun k L B => ∃ rs : List Nat, L = ((P.take k).zip rs).map (fun z => D.tup [.int z.1, .ref z.2]) ∧ rs.length = k ∧ rs.Nodup ∧ (∀ r ∈ rs, A.length ≤ r ∧ B[r]? = some (.dic false false [])) ∧ Fr [] A B) ⟨[], by simp, rfl, List.nodup_nil, by simp, Fr.refl⟩ (by rw [List.length_map]; omega) (fun k L B h => by
    obtain ⟨_, _, _, _, _, f⟩ := h
    exact f.get hl (by simp)) (by
    rintro k x hx L B ⟨rs, rfl, lr, rn, hr, fB⟩
    rw [List.getElem?_map] at hx
    obtain ⟨p, hp, rfl⟩ := Option.map_eq_some_iff.mp hx
    have nB := fB.le
    show Got _ _
    simp_arith []
    refine ⟨rs ++ [B.length], ?_, by simp [lr], ?_, fun r hr' => ?_, fB.then_push⟩
    · have lk := (List.getElem?_eq_some_iff.mp hp).1
      rw [List.take_succ, hp]
      rw [show (some p).toList = [p] from rfl, List.zip_append (by rw [List.length_take]; omega), List.map_append]
      rfl
    · rw [List.nodup_append]
      refine ⟨rn, by simp, fun a ha b hb e => ?_⟩
      rw [List.mem_singleton] at hb
      have := lt_of_get (hr a ha).2
      omega
    · rcases List.mem_append.mp hr' with q | q
      · have := hr r q
        exact ⟨this.1, by rw [List.getElem?_append_left (lt_of_get this.2)]; exact this.2⟩
      · rw [List.mem_singleton] at q
        subst q
        exact ⟨nB, by simp⟩)
  obtain ⟨L, A1, e1, rs, hL, lr, rn, hr, f1⟩ := lc.ex
  rw [List.length_map] at hL lr
  rw [List.take_length] at hL
  have n1 := f1.le
  obtain ⟨A2, hA2⟩ : ∃ A2, A2 = A1 ++ [O.lst L] := ⟨_, rfl⟩
  have f2 : Fr [] A1 A2 := by rw [hA2]; exact .push
  have l2 : A2.length = A1.length + 1 := by rw [hA2]; simp
  have g2 : A2[A1.length]? = some (.lst ((P.zip (rs.map D.ref)).map fun p => D.tup [.int p.1, p.2])) := by
    rw [hA2, hL, List.zip_map_right, List.map_map]; simp [Function.comp_def]
  have nds : ((P.zip (rs.map D.ref)).map Prod.fst).Nodup := by
    rw [List.map_fst_zip (by rw [List.length_map]; omega)]; exact nd
  have e2 := dict_at g2 nds
  obtain ⟨d, hdd⟩ : ∃ d, d = A2.length := ⟨_, rfl⟩
  obtain ⟨A3, hA3⟩ : ∃ A3, A3 = A2 ++ [O.dic false false (kvI (P.zip (rs.map D.ref)))] := ⟨_, rfl⟩
  rw [← hA3, ← hdd] at e2
  have f3 : Fr [] A2 A3 := by rw [hA3]; exact .push
  have g3 : A3[d]? = some (.dic false false (kvI (P.zip (rs.map D.ref)))) := by rw [hA3, hdd]; simp
  have f13 : Fr [] A A3 := (f1.trans f2).trans f3
  have hl3 := f13.get hl (by simp)
  have hd3 := hd.frame f13 (by simp)
  have l3 : A3.length = d + 1 := by rw [hA3, hdd]; simp
  have hrl : ∀ r ∈ rs, A.length ≤ r ∧ r < d := fun r hm => by
    have := hr r hm
    have := lt_of_get this.2
    exact ⟨by omega, by omega⟩
  have dr : d ∉ rs := fun hm => by have := hrl d hm; omega
  have t3 : IsT A3 d (TB P fun _ => []) rs false := by
    refine ⟨by rw [TB_len]; exact lr, by rw [TB_fst]; exact g3, fun j z r h1 h2 => ?_⟩
    obtain ⟨q, _, rfl⟩ := TB_get h1
    exact (f2.trans f3).get (hr r (List.mem_of_getElem? h2)).2 (by simp)
  have ir : i ∉ rs := fun hm => by have := hrl i hm; omega
  have lrs : l ∉ rs := fun hm => by have := hrl l hm; omega
  unfold F_l_tree
  simp_arith [hl, e1, ← hA2, e2, hl3]
  refine for_go (R := fun rs => Rk (finR (seqR rs _)) _) (fun j e C => ∃ (f : Int → List (Int × Int)) (o3 o4 o5 : Option D), e = [some (.ref i), some (.ref l), some (.ref d), o3, o4, o5] ∧ IsT C d (TB P f) rs false ∧ FOk P P f ∧ Tree P f ∧ (∀ p, ∀ y ∈ f p, y.1 ∈ P.take j) ∧ (∀ p, (f p).length ≤ 200 * j) ∧ Drw C i ∧ Fr (i :: rs) A3 C) ⟨fun _ => [], _, _, _, rfl, t3, fun p hp y hy => (by simp at hy), fun p y hy => (by simp at hy), fun p y hy => (by simp at hy), fun p => (by simp), hd3, Fr.refl⟩ (fun j e C _ h => by
    obtain ⟨_, _, _, _, _, _, _, _, _, _, _, fC⟩ := h
    exact fC.get hl3 (by simp [hli, lrs])) ?_ ?_
  · rintro j _ C dd hdd' ⟨f, o3, o4, o5, rfl, hT, hF, hTr, hj, hln, dC, fC⟩
    rw [List.getElem?_map] at hdd'
    obtain ⟨t, ht, rfl⟩ := Option.map_eq_some_iff.mp hdd'
    have lj := (List.getElem?_eq_some_iff.mp ht).1
    have tkj : P.take (j + 1) = P.take j ++ [t] := by rw [List.take_succ, ht]; rfl
    have tn : t ∉ P.take j := fun hm => by
      have := nd
      rw [← List.take_append_drop j P, List.nodup_append] at this
      exact this.2.2 t hm t (by rw [List.drop_eq_getElem_cons lj]; rw [(List.getElem?_eq_some_iff.mp ht).2]; exact List.mem_cons_self) rfl
    have tP := List.mem_of_getElem? ht
    have nC := fC.le
    have hlC := fC.get hl3 (by simp [hli, lrs])
    obtain ⟨C1, hC1⟩ : ∃ C1, C1 = C ++ [O.lst [.int t]] := ⟨_, rfl⟩
    have fC1 : Fr [] C C1 := by rw [hC1]; exact .push
    have k1 : C1[C.length]? = some (.lst [.int t]) := by rw [hC1]; simp
    have hT1 := hT.frame fC1 (by simp) (by simp)
    have hlC1 := fC1.get hlC (by simp)
    have d1 := dC.frame fC1 (by simp)
    have oi : C.length ≠ i := by omega
    have ors : ∀ r ∈ rs, r ≠ C.length := fun r hm => by have := hrl r hm; omega
    show Got _ _
    simp_arith [← hC1, hlC1]
    refine for_go (R := Trn _ _) (fun k e B => ∃ (f : Int → List (Int × Int)) (o3 : Option D), e = [some (.ref i), some (.ref l), some (.ref d), o3, some (.int t), some (.ref C.length)] ∧ IsT B d (TB P f) rs false ∧ FOk P P f ∧ Tree P f ∧ (∀ p, ∀ y ∈ f p, y.1 ∈ P.take j ∨ (y.1 = t ∧ p ∈ P.take k)) ∧ (∀ p, (f p).length ≤ 200 * j + k) ∧ B[C.length]? = some (.lst ((t :: (P.take k).filter fun x => !decide (x = t)).map D.int)) ∧ Drw B i ∧ Fr (i :: C.length :: rs) C1 B) ⟨f, _, rfl, hT1, hF, hTr, fun p y hy => .inl (hj p y hy), fun p => (by have := hln p; omega), by simpa using k1, d1, Fr.refl⟩ (fun k e B _ h => by
      obtain ⟨_, _, _, _, _, _, _, _, _, _, fB⟩ := h
      exact fB.get hlC1 (by have := lt_of_get hlC; simp [hli, lrs]; omega)) ?_ ?_
    · rintro k _ B dd hdd'' ⟨f, o3, rfl, hTB, hFB, hTrB, hjB, hlnB, hO, dB, fB⟩
      rw [List.getElem?_map] at hdd''
      obtain ⟨p, hp, rfl⟩ := Option.map_eq_some_iff.mp hdd''
      have lk := (List.getElem?_eq_some_iff.mp hp).1
      have pP' := List.mem_of_getElem? hp
      have tkk : P.take (k + 1) = P.take k ++ [p] := by rw [List.take_succ, hp]; rfl
      have pn : p ∉ P.take k := fun hm => by
        have := nd
        rw [← List.take_append_drop k P, List.nodup_append] at this
        exact this.2.2 p hm p (by rw [List.drop_eq_getElem_cons lk]; rw [(List.getElem?_eq_some_iff.mp hp).2]; exact List.mem_cons_self) rfl
      have nB := fB.le
      have more : ∀ p', ∀ y ∈ f p', y.1 ∈ P.take j ∨ (y.1 = t ∧ p' ∈ P.take (k + 1)) := fun p' y hy => by
        rcases hjB p' y hy with q | ⟨q1, q2⟩
        · exact .inl q
        · exact .inr ⟨q1, by rw [tkk]; exact List.mem_append_left _ q2⟩
      by_cases c : p = t
      · show Got _ _
        simp_arith [c]
        refine ⟨f, _, rfl, hTB, hFB, hTrB, more, fun p' => by have := hlnB p'; omega, ?_, dB, fB⟩
        rw [tkk, List.filter_append, c]
        simpa using hO
      · obtain ⟨Oz, hOz⟩ : ∃ Oz, Oz = t :: (P.take k).filter fun x => !decide (x = t) := ⟨_, rfl⟩
        have lOz : 1 ≤ Oz.length ∧ Oz.length ≤ 13 := by
          rw [hOz, List.length_cons]
          have := List.length_filter_le (fun x => !decide (x = t)) (P.take k)
          rw [List.length_take] at this
          omega
        have mOz : ∀ x ∈ Oz, x ∈ P ∧ x ≠ p ∧ rnk P t x < rnk P t p := fun x hx => by
          have rp : rnk P t p = k + 1 := by unfold rnk; rw [if_neg c, idx_at nd hp]
          rw [rp]
          rw [hOz] at hx
          rcases List.mem_cons.mp hx with q | q
          · rw [q]
            exact ⟨tP, fun e => c e.symm, by unfold rnk; rw [if_pos rfl]; omega⟩
          · obtain ⟨q1, q2⟩ := List.mem_filter.mp q
            have xt : x ≠ t := by simpa using q2
            obtain ⟨n, hn⟩ := List.getElem?_of_mem q1
            rw [List.getElem?_take] at hn
            split at hn
            · refine ⟨List.mem_of_mem_take q1, fun e => pn (e ▸ q1), ?_⟩
              unfold rnk
              rw [if_neg xt, idx_at nd hn]; omega
            · cases hn
        rw [← hOz] at hO
        have oz1 : t :: (P.take (k + 1)).filter (fun x => !decide (x = t)) = Oz ++ [p] := by
          rw [tkk, List.filter_append, hOz]
          simp [c]
        obtain ⟨u, B1, ua, ub, eu, dB1, fB1⟩ := next_ok (n := 8) dB (by decide) (by decide)
        have ir' : ∀ r ∈ rs, r ∉ [i] := fun r hm e => by rw [List.mem_singleton] at e; exact ir (e ▸ hm)
        have di : d ∉ [i] := by simp; omega
        have hTB1 := hTB.frame fB1 di ir'
        have hO1 := fB1.get hO (by simpa using oi)
        -- the order made longer
        have app : ∀ (B3 : Hs), B3[C.length]? = some (.lst (Oz.map D.int)) → ∃ B4, B4 = B3.set C.length (.lst (Oz.map D.int ++ [.int p])) ∧ B4[C.length]? = some (.lst ((Oz ++ [p]).map D.int)) ∧ Fr [C.length] B3 B4 := fun B3 h => ⟨_, rfl, by rw [zbq (lt_of_get h), List.map_append]; rfl, Fr.set (by simp)⟩
        have lOm : (Oz.map D.int).length < 16000000 := by rw [List.length_map]; omega
        have co : ∀ r ∈ rs, r ∉ [C.length] := fun r hm e => by rw [List.mem_singleton] at e; exact ors r hm e
        show Got _ _
        by_cases cu : 0 < u
        · obtain ⟨v, B2, va, vb, ev, dB2, fB2⟩ := next_ok (n := (Oz.length : Nat)) dB1 (by omega) (by omega)
          have hTB2 := hTB1.frame fB2 di ir'
          have hO2 := fB2.get hO1 (by simpa using oi)
          obtain ⟨nb, hnb⟩ : ∃ nb, Oz[v.toNat]? = some nb := ⟨_, List.getElem?_eq_getElem (by omega)⟩
          have inb : oIx (.ref C.length) (.int v) B2 = .ok (.int nb) B2 := by
            simp_arith [hO2]
            rw [List.getElem?_map, hnb]; rfl
          obtain ⟨m1, m2, m3⟩ := mOz nb (List.mem_of_getElem? hnb)
          obtain ⟨r, hrk, _⟩ := hTB2.row hp
          have hnew : ∀ y ∈ f p, y.1 ≠ t := fun y hy e => by
            rcases hjB p y hy with q | ⟨_, q⟩
            · exact tn (e ▸ q)
            · exact pn q
          obtain ⟨p1, p2, p3, p4⟩ := row_put (t := t) (nb := nb) hTB2 nd rn dr hp hrk hnew
          have wl : (wys (f p)).length < 16000000 := by rw [wys_len]; have := hlnB p; omega
          obtain ⟨B3, hB3⟩ : ∃ B3, B3 = B2.set r (.dic false false (wys (f p ++ [(t, nb)]))) := ⟨_, rfl⟩
          rw [← hB3] at p4
          have rr := List.mem_of_getElem? hrk
          have f23 : Fr [r] B2 B3 := by rw [hB3]; exact Fr.set (by simp)
          have hO3 := f23.get hO2 (by simpa using (ors r rr).symm)
          obtain ⟨B4, hB4, hO4, f34⟩ := app B3 hO3
          have rin := hrl r rr
          simp_arith [eu, cu, hO1, ev, inb, p1, p2, zb4 wl, p3, ← hB3, hO3, ← hB4, -z8q, -z3d]
          refine ⟨fun q => if q = p then f p ++ [(t, nb)] else f q, _, rfl, p4.frame f34 (by simp; omega) co, fun q hq y hy => ?_, fun q y hy => ?_, fun q y hy => ?_, fun q => ?_, by rw [← List.map_cons, oz1]; exact hO4, ((dB2.frame f23 (by simp; omega)).frame f34 (by simpa using oi.symm)), ?_⟩
          · simp only at hy
            by_cases cq : q = p
            · rw [if_pos cq] at hy
              rw [cq]
              rcases List.mem_append.mp hy with z | z
              · exact hFB p pP' y z
              · rw [List.mem_singleton] at z
                rw [z]; exact ⟨⟨tP, fun e => c e.symm⟩, m1, m2⟩
            · rw [if_neg cq] at hy; exact hFB q hq y hy
          · simp only at hy
            by_cases cq : q = p
            · rw [if_pos cq] at hy
              rw [cq]
              rcases List.mem_append.mp hy with z | z
              · exact hTrB p y z
              · rw [List.mem_singleton] at z
                rw [z]; exact m3
            · rw [if_neg cq] at hy; exact hTrB q y hy
          · simp only at hy
            by_cases cq : q = p
            · rw [if_pos cq] at hy
              rw [cq]
              rcases List.mem_append.mp hy with z | z
              · exact more p y z
              · rw [List.mem_singleton] at z
                rw [z]; exact .inr ⟨rfl, by rw [tkk]; simp⟩
            · rw [if_neg cq] at hy; exact more q y hy
          · have := hlnB q
            have := hlnB p
            simp only
            split
            · rw [List.length_append, List.length_singleton]; omega
            · omega
          · exact (((fB.trans (fB1.mono (by simp))).trans (fB2.mono (by simp))).trans (f23.mono (fun x hx => by rw [List.mem_singleton] at hx; rw [hx]; exact List.mem_cons_of_mem _ (List.mem_cons_of_mem _ rr)))).trans (f34.mono (by simp))
        · obtain ⟨B4, hB4, hO4, f34⟩ := app B1 hO1
          simp_arith [eu, cu, hO1, ← hB4]
          exact ⟨f, _, rfl, hTB1.frame f34 (by simp; omega) co, hFB, hTrB, more, fun q => by have := hlnB q; omega, by rw [← List.map_cons, oz1]; exact hO4, dB1.frame f34 (by simpa using oi.symm), (fB.trans (fB1.mono (by simp))).trans (f34.mono (by simp))⟩
    · rintro _ B ⟨f, o3, rfl, hTB, hFB, hTrB, hjB, hlnB, hO, dB, fB⟩
      rw [List.length_map] at hlnB
      refine ⟨f, _, _, _, rfl, hTB, hFB, hTrB, fun p y hy => ?_, fun p => by have := hlnB p; omega, dB, (fC.trans (fC1.mono (by simp))).trans' fB (fun x hx => by
        rcases List.mem_cons.mp hx with q | q
        · left; simp [q]
        · rcases List.mem_cons.mp q with q | q
          · right; omega
          · left; exact List.mem_cons_of_mem _ q)⟩
      rw [tkj]
      rcases hjB p y hy with q | ⟨q, _⟩
      · exact List.mem_append_left _ q
      · rw [q]; simp
  · rintro _ C ⟨f, o3, o4, o5, rfl, hT, hF, hTr, hj, hln, dC, fC⟩
    simp_arith []
    refine ⟨f, rs, d, rfl, ⟨hT, nd, lP, pP, hF, dr, rn⟩, hTr, dC, (f13.mono (by simp) : Fr [i] A A3).trans' fC (fun x hx => by
      rcases List.mem_cons.mp hx with q | q
      · left; simp [q]
      · right; exact (hrl x q).1)⟩

theorem pair_same {A : Hs} {f : Int → List (Int × Int)} : ∀ {P : List Int} {rs ss : List Nat}, rs.length = P.length → ss.length = P.length → (∀ (j : Nat) (p : Int) (r : Nat), P[j]? = some p → rs[j]? = some r → A[r]? = some (.dic false false (wys (f p)))) → (∀ (j : Nat) (p : Int) (r : Nat), P[j]? = some p → ss[j]? = some r → A[r]? = some (.dic false false (wys (f p)))) →
    sameDD A (kvI (P.zip (rs.map D.ref))) (kvI (P.zip (ss.map D.ref)))
  | [], rs, ss, _, _, _, _ => by unfold sameDD kvI; exact .nil
  | p :: P, [], ss, h, _, _, _ => by simp at h
  | p :: P, r :: rs, [], _, h, _, _ => by simp at h
  | p :: P, r :: rs, s :: ss, h1, h2, k1, k2 => by
    have ih := pair_same (A := A) (f := f) (P := P) (rs := rs) (ss := ss) (by simpa using h1) (by simpa using h2) (fun j p r a b => k1 (j + 1) p r (by simpa using a) (by simpa using b)) (fun j p r a b => k2 (j + 1) p r (by simpa using a) (by simpa using b))
    unfold sameDD kvI at ih ⊢
    rw [List.map_cons, List.map_cons, List.zip_cons_cons, List.zip_cons_cons, List.map_cons, List.map_cons]
    refine .cons ⟨rfl, r, s, wys (f p), rfl, rfl, k1 0 p r rfl rfl, k2 0 p s rfl rfl, fun e he => ?_⟩ ih
    unfold wys kvI at he
    rw [List.map_map] at he
    obtain ⟨y, _, rfl⟩ := List.mem_map.mp he
    exact ⟨y.2, rfl⟩
theorem outs_zip {P : List Int} {f : Int → List (Int × Int)} {rs : List Nat} : outs (TB P f) rs = P.zip (rs.map D.ref) := by
  unfold outs; rw [TB_fst]
theorem same_ok {A : Hs} {d e : Nat} {P : List Int} {f : Int → List (Int × Int)} {rs ss : List Nat} (h : IsT A d (TB P f) rs false) (k : IsT A e (TB P f) ss false) : oNeDD (.ref e) (.ref d) A = .ok (.bl false) A := by
  have l1 := h.l
  have l2 := k.l
  rw [TB_len] at l1 l2
  have o1 := h.o
  have o2 := k.o
  rw [TB_fst] at o1 o2
  refine oNeDD_ok o2 o1 (pair_same (f := f) l2 l1 (fun j p r a b => ?_) fun j p r a b => ?_)
  · obtain ⟨r', z1, z2⟩ := k.row a
    rw [b] at z1; cases z1; exact z2
  · obtain ⟨r', z1, z2⟩ := h.row a
    rw [b] at z1; cases z1; exact z2
theorem copy_ok {A : Hs} {d : Nat} {P : List Int} {f : Int → List (Int × Int)} {rs : List Nat} (h : GT A d P f rs) : ∃ (ss : List Nat) (e : Nat) (A1 : Hs), F_l_copy [.ref d] A = .ok (.ref e) A1 ∧ GT A1 e P f ss ∧ Fr [] A A1 := by
  have hT := h.t
  have lP := h.l
  have o1 : A[d]? = some (.dic false false (kvI (outs (TB P f) rs))) := hT.o
  have ld := lt_of_get o1
  have e0 : ∀ r B, eVar 0 (some (.ref d) :: r) B = .ok (.ref d) B := fun _ _ => rfl
  have kE : (kvI (outs (TB P f) rs)).map Prod.fst = P.map D.int := by
    have := keys_eq hT.l
    rw [TB_fst] at this; exact this
  obtain ⟨B, hB⟩ : ∃ B, B = A.set d (.dic false true (kvI (outs (TB P f) rs))) := ⟨_, rfl⟩
  have hTB : IsT B d (TB P f) rs true := hB ▸ hT.lock h.dr
  have oB : B[d]? = some (.dic false true (kvI (outs (TB P f) rs))) := hTB.o
  have lB : B.length = A.length := by rw [hB]; simp
  have lc := lc_run (A := B) (g := gN 1) (t := tYe) (a := eTup (aCons (eVar 1) (aCons (eCB (c1 oDict) (aCons (eOp oDGet (eVar 0) (eVar 1)) aNil)) aNil))) (gd := fun A' => A'[d]? = some (.dic false true (kvI (outs (TB P f) rs)))) (env := [some (.ref d), none]) (ds := P.map D.int) (fun k L C => ∃ ss : List Nat, L = ((P.take k).zip ss).map (fun z => D.tup [.int z.1, .ref z.2]) ∧ ss.length = k ∧ ss.Nodup ∧ (∀ (j : Nat) (p : Int) (r : Nat), P[j]? = some p → ss[j]? = some r → C[r]? = some (.dic false false (wys (f p)))) ∧ (∀ r ∈ ss, B.length ≤ r ∧ r < C.length) ∧ Fr [] B C) ⟨[], by simp, rfl, List.nodup_nil, fun j p r _ hr => (by simp at hr), by simp, Fr.refl⟩ (by rw [List.length_map]; omega) (fun k L C h => by
    obtain ⟨_, _, _, _, _, _, f⟩ := h
    exact f.get oB (by simp)) (by
    rintro k x hx L C ⟨ss, rfl, ls, sn, hs, hsl, fC⟩
    rw [List.getElem?_map] at hx
    obtain ⟨p, hp, rfl⟩ := Option.map_eq_some_iff.mp hx
    have lk := (List.getElem?_eq_some_iff.mp hp).1
    have nC := fC.le
    have hTC := hTB.frame fC (by simp) (by simp)
    have oC : C[d]? = some (.dic false true (kvI (outs (TB P f) rs))) := hTC.o
    obtain ⟨r, hr, hrow⟩ := hTC.row hp
    have hk := outs_look hTC h.nd hp hr
    show Got _ _
    simp_arith [oC, hk, hrow, zb0]
    refine ⟨ss ++ [C.length], ?_, by simp [ls], ?_, fun j q r' hq hr' => ?_, fun r' hr' => ?_, fC.then_push⟩
    · rw [List.take_succ, hp]
      rw [show (some p).toList = [p] from rfl, List.zip_append (by rw [List.length_take]; omega), List.map_append]
      rfl
    · rw [List.nodup_append]
      refine ⟨sn, by simp, fun a ha b hb e => ?_⟩
      rw [List.mem_singleton] at hb
      have := hsl a ha
      omega
    · by_cases cj : j < ss.length
      · rw [List.getElem?_append_left cj] at hr'
        have := hs j q r' hq hr'
        rw [List.getElem?_append_left (lt_of_get this)]; exact this
      · have c2 : j = ss.length := by
          have := (List.getElem?_eq_some_iff.mp hr').1
          simp at this; omega
        subst c2
        rw [List.getElem?_append_right (Nat.le_refl _), Nat.sub_self] at hr'
        simp at hr'
        subst hr'
        rw [ls, hp] at hq
        cases hq
        simp
    · rcases List.mem_append.mp hr' with q | q
      · have := hsl r' q
        omega
      · rw [List.mem_singleton] at q
        omega)
  obtain ⟨L, C, e1, ss, hL, ls, sn, hs, hsl, fC⟩ := lc.ex
  rw [List.length_map] at hL ls
  rw [List.take_length] at hL
  have nC := fC.le
  have oC := fC.get oB (by simp)
  obtain ⟨C1, hC1⟩ : ∃ C1, C1 = C ++ [O.lst L] := ⟨_, rfl⟩
  have f1 : Fr [] C C1 := by rw [hC1]; exact .push
  have oC1 := f1.get oC (by simp)
  have w1 := eLkN_at (g := eLc (wOf wkK (eVar 0)) (gN 1) tYe (eTup (aCons (eVar 1) (aCons (eCB (c1 oDict) (aCons (eOp oDGet (eVar 0) (eVar 1)) aNil)) aNil))) [1]) (env := [some (.ref d), none]) (e0 _ _) o1
  rw [← hB] at w1
  have w2 : eLc (wOf wkK (eVar 0)) (gN 1) tYe (eTup (aCons (eVar 1) (aCons (eCB (c1 oDict) (aCons (eOp oDGet (eVar 0) (eVar 1)) aNil)) aNil))) [1] [some (.ref d), none] B = .ok (.ref C.length) C1 := by
    simp_arith [oB, kE, e1, ← hC1]
  rw [w2, ulY_ok oC1] at w1
  obtain ⟨C2, hC2⟩ : ∃ C2, C2 = C1.set d (.dic false false (kvI (outs (TB P f) rs))) := ⟨_, rfl⟩
  rw [← hC2] at w1
  have fAC : Fr [] A C2 := by
    rw [hC2]
    exact lk_back o1 (hB ▸ fC.trans f1)
  have l1 : C1.length = C.length + 1 := by rw [hC1]; simp
  have l2 : C2.length = C.length + 1 := by rw [hC2]; simp [l1]
  have g2 : C2[C.length]? = some (.lst ((P.zip (ss.map D.ref)).map fun p => D.tup [.int p.1, p.2])) := by
    rw [hC2, z4d (by omega), hC1, hL, List.zip_map_right, List.map_map]; simp [Function.comp_def]
  have nds : ((P.zip (ss.map D.ref)).map Prod.fst).Nodup := by
    rw [List.map_fst_zip (by rw [List.length_map]; omega)]; exact h.nd
  have e2 := dict_at g2 nds
  obtain ⟨C3, hC3⟩ : ∃ C3, C3 = C2 ++ [O.dic false false (kvI (P.zip (ss.map D.ref)))] := ⟨_, rfl⟩
  rw [← hC3] at e2
  have f3 : Fr [] C2 C3 := by rw [hC3]; exact .push
  have g3 : C3[C2.length]? = some (.dic false false (kvI (P.zip (ss.map D.ref)))) := by rw [hC3]; simp
  refine ⟨ss, C2.length, C3, ?_, ⟨⟨by rw [TB_len]; exact ls, by rw [TB_fst]; exact g3, fun j z r z1 z2 => ?_⟩, h.nd, h.l, h.p, h.w, fun hm => by have := hsl _ hm; omega, sn⟩, fAC.trans f3⟩
  · unfold F_l_copy
    simp_arith [w1, e2, -z8l, -z3c]
  · obtain ⟨q, hq, rfl⟩ := TB_get z1
    have := hs j q r hq z2
    have hr := hsl r (List.mem_of_getElem? z2)
    refine f3.get ?_ (by simp)
    rw [hC2, z4d (by omega)]
    exact f1.get this (by simp)

noncomputable def lwB : S := (sSeq (sSet 3 (eCall0 F_l_state (aCons (eVar 2) (aCons (eVar 1) aNil)))) (sSeq (sSet 4 (eOp oIx (eLst (aCons (eC (.int 7)) (aCons (eC (.int 12)) aNil))) (eCB (c1 oInt) (aCons (eOp oEq (eCall0 F_l_next (aCons (eVar 3) (aCons (eC (.int 12)) aNil))) (eC (.int 5))) aNil)))) (sSeq (sSet 5 (eOp oEq (eCall0 F_l_next (aCons (eVar 3) (aCons (eC (.int 3)) aNil))) (eC (.int 0)))) (sSeq (sSet 6 (eCall0 F_l_table (aCons (eVar 3) (aCons (eVar 4) aNil)))) (sSeq (sIf (tOf (eVar 5)) (sSet 6 (eCall0 F_l_tree (aCons (eVar 3) (aCons (eCB (c1 oListK) (aCons (eVar 6) aNil)) aNil)))) sNx) (sSeq (sSet 7 (eCall0 F_l_copy (aCons (eVar 6) aNil))) (sIf (tOo (tNo (tOf (eCall0 F_l_right (aCons (eVar 7) (aCons (eVar 5) aNil))))) (tOf (eOp oNeDD (eVar 7) (eVar 6)))) (sRet (eC (.bl false))) sNx)))))))
theorem law_eq : F_law = mkFn 1 8 (sSeq (sFor (wOf wkEA (eOrL (eSl oSl (eVar 0) oNo (oSo (eC (.int 63)))) (eLst (aCons (eC (.int 0)) aNil)))) (gT [(gN 1), (gN 2)]) lwB) (sRet (eC (.bl true)))) := rfl
theorem bodyT {B : Hs} {ns : List Int} {k cell : Int} {x3 x4 x5 x6 x7 : Option D} :
    Nx (lwB [some (.scr (ns.map D.int)), some (.int k), some (.int cell), x3, x4, x5, x6, x7] B) fun e A1 => (∃ y3 y4 y5 y6 y7, e = [some (.scr (ns.map D.int)), some (.int k), some (.int cell), y3, y4, y5, y6, y7]) ∧ Fr [] B A1 := by
  obtain ⟨_, B1, e1, rfl, d1, f1⟩ := (state_ok (A := B) (p := cell) (q := k)).ex
  obtain ⟨i, hi⟩ : ∃ i, i = B.length := ⟨_, rfl⟩
  rw [← hi] at d1 e1
  have li := d1.lt
  obtain ⟨C1, hC1⟩ : ∃ C1, C1 = B1 ++ [O.lst [.int 7, .int 12]] := ⟨_, rfl⟩
  have fC1 : Fr [] B1 C1 := by rw [hC1]; exact .push
  have k1 : C1[B1.length]? = some (.lst [.int 7, .int 12]) := by rw [hC1]; simp
  obtain ⟨v1, C2, a1, b1, e2, d2, f2⟩ := next_ok (n := 12) (d1.frame fC1 (by simp)) (by decide) (by decide)
  have k2 := f2.get k1 (by simp; omega)
  obtain ⟨v2, C3, a2, b2, e3, d3, f3⟩ := next_ok (n := 3) d2 (by decide) (by decide)
  obtain ⟨m, hm, m1, m2⟩ : ∃ m : Int, oIx (.ref B1.length) (.int (if v1 = 5 then 1 else 0)) C2 = .ok (.int m) C2 ∧ 1 ≤ m ∧ m ≤ 12 := by
    by_cases c : v1 = 5
    · rw [if_pos c]; exact ⟨12, by simp_arith [k2], by decide, by decide⟩
    · rw [if_neg c]; exact ⟨7, by simp_arith [k2], by decide, by decide⟩
  have n1 := f1.le
  obtain ⟨P, f, rs, d, C4, e4, g4, d4, f4⟩ := table_ok (m := m) d3 m1 m2
  have fB4 : Fr [] B C4 := f1.trans' (((fC1.mono (by simp) : Fr [i] B1 C1).trans f2).trans (f3.trans f4)) (fun j hj => by rw [List.mem_singleton] at hj; right; omega)
  have n4 := fB4.le
  have oi : oInt (.bl (decide (v1 = 5))) = oInt (.bl (decide (v1 = 5))) := rfl
  -- what follows, for any good table
  have tail : ∀ {C5 : Hs} {d : Nat} {f : Int → List (Int × Int)} {rs : List Nat} {tr : Bool}, GT C5 d P f rs → (tr = true → ringsT (TB P f) = []) → Fr [] B C5 → ∃ C6 y7, F_l_copy [.ref d] C5 = .ok (.ref y7) C6 ∧ ∃ C7, F_l_right [.ref y7, .bl tr] C6 = .ok (.bl true) C7 ∧ oNeDD (.ref y7) (.ref d) C7 = .ok (.bl false) C7 ∧ Fr [] B C7 := fun {C5 d f rs tr} g htr fB => by
    obtain ⟨ss, e, C6, e5, g6, f6⟩ := copy_ok g
    have ok := TB_ok g6.nd g6.l g6.p g6.w
    obtain ⟨_, C7, e7, rfl, f7⟩ := (right_ok (tr := tr) g6.t ok g6.dr g6.t.lt htr).ex
    have t1 := g.t.frame (f6.trans f7) (by simp) (by simp)
    have t2 := g6.t.frame f7 (by simp) (by simp)
    exact ⟨C6, e, e5, C7, e7, same_ok t1 t2, (fB.trans f6).trans f7⟩
  have ib : ∀ (b : Bool) (A : Hs), oInt (.bl b) A = .ok (.int (if b = true then 1 else 0)) A := fun b A => by cases b <;> rfl
  have mi : oIx (.ref B1.length) (.int (if decide (v1 = 5) = true then 1 else 0)) C2 = .ok (.int m) C2 := by
    rw [← hm]
    by_cases c : v1 = 5 <;> simp [c]
  by_cases c2 : v2 = 0
  · -- a tree
    have o4 := g4.t.o
    rw [TB_fst] at o4
    have e5 := oListK_at o4
    have kE : (kvI (P.zip (rs.map D.ref))).map Prod.fst = P.map D.int := by
      have := keys_eq g4.t.l
      rw [outs_zip, TB_fst] at this; exact this
    rw [kE] at e5
    obtain ⟨C5, hC5⟩ : ∃ C5, C5 = C4 ++ [O.lst (P.map D.int)] := ⟨_, rfl⟩
    rw [← hC5] at e5
    have f5 : Fr [] C4 C5 := by rw [hC5]; exact .push
    have k5 : C5[C4.length]? = some (.lst (P.map D.int)) := by rw [hC5]; simp
    have li4 := d4.lt
    obtain ⟨f', rs', d', C6, e6, g6, tr, d6, f6⟩ := tree_ok (d4.frame f5 (by simp)) k5 (by omega) g4.nd g4.l g4.p
    have ok := TB_ok g6.nd g6.l g6.p g6.w
    have fB6 : Fr [] B C6 := (fB4.trans f5).trans' f6 (fun j hj => by rw [List.mem_singleton] at hj; right; omega)
    obtain ⟨C7, y7, e7, C8, e8, ne, fB8⟩ := tail (tr := true) g6 (fun _ => tree_none ok tr) fB6
    unfold lwB
    simp_arith [e1, ← hC1, e2, ib, hm, e3, c2, e4, e5, e6, e7, e8, ne, -z8q]
    exact ⟨⟨_, _, _, _, _, rfl⟩, fB8⟩
  · obtain ⟨C7, y7, e7, C8, e8, ne, fB8⟩ := tail (tr := false) g4 (fun h => by cases h) fB4
    unfold lwB
    simp_arith [e1, ← hC1, e2, ib, hm, e3, c2, e4, e7, e8, ne, -z8q]
    exact ⟨⟨_, _, _, _, _, rfl⟩, fB8⟩
theorem law_true (ns : List Int) (hn : ns.length ≤ 63) : ∃ A, F_law [.scr (ns.map D.int)] [] = .ok (.bl true) A := by
  have rk : ∀ {r : RE D}, Rk r (fun v _ => v = .bl true) → ∃ A, r = .ok (.bl true) A := fun h => by
    obtain ⟨v, A1, e, rfl⟩ := h.ex
    exact ⟨A1, e⟩
  apply rk
  have main : ∀ (ws : List Int) (x : Nat) (B : Hs), B[x]? = some (.lst (ws.map D.int)) → Rk (finR (seqR (forL (gT [gN 1, gN 2]) lwB (fun A => A[x]? = some (.lst (ws.map D.int))) (enumL (ws.map D.int)) [some (.scr (ns.map D.int)), none, none, none, none, none, none, none] B) (sRet (eC (.bl true))))) fun v _ => v = .bl true := fun ws x B hB => by
    refine for_go (R := fun rs => Rk (finR (seqR rs _)) _) (fun j e C => ∃ y1 y2 y3 y4 y5 y6 y7, e = [some (.scr (ns.map D.int)), y1, y2, y3, y4, y5, y6, y7] ∧ Fr [] B C) ⟨_, _, _, _, _, _, _, rfl, .refl⟩ (fun j e C _ h => by
      obtain ⟨_, _, _, _, _, _, _, _, f⟩ := h
      exact f.get hB (by simp)) ?_ ?_
    · rintro j _ C d hd ⟨y1, y2, y3, y4, y5, y6, y7, rfl, fC⟩
      obtain ⟨x', q1, rfl⟩ := enumL_get hd
      rw [List.getElem?_map] at q1
      obtain ⟨w, _, rfl⟩ := Option.map_eq_some_iff.mp q1
      have key := bodyT (B := C) (ns := ns) (k := (j : Int)) (cell := w) (x3 := y3) (x4 := y4) (x5 := y5) (x6 := y6) (x7 := y7)
      show Got _ _
      simp_arith []
      refine key.call (fun r => Trn _ _ r) ?_
      rintro _ A1 ⟨⟨z3, z4, z5, z6, z7, rfl⟩, f⟩
      exact ⟨_, _, _, _, _, _, _, rfl, fC.trans f⟩
    · rintro _ C ⟨y1, y2, y3, y4, y5, y6, y7, rfl, fC⟩
      simp_arith []
  rw [law_eq]
  simp_arith []
  cases ns with
  | nil =>
    have e : (List.take 63 (List.map D.int ([] : List Int))).isEmpty = true := rfl
    obtain ⟨B, hB⟩ : ∃ B, B = [O.lst (List.take 63 (List.map D.int ([] : List Int))), O.lst [D.int 0]] := ⟨_, rfl⟩
    have g2 : B[1]? = some (.lst [.int 0]) := by rw [hB]; rfl
    rw [e, if_pos rfl, ← hB]
    simp_arith [g2]
    exact main [0] 1 B g2
  | cons a ns =>
    have e : (List.take 63 (List.map D.int (a :: ns))).isEmpty = false := rfl
    obtain ⟨B, hB⟩ : ∃ B, B = [O.lst (List.take 63 (List.map D.int (a :: ns)))] := ⟨_, rfl⟩
    have g2 : B[0]? = some (.lst (((a :: ns).take 63).map D.int)) := by rw [hB, List.map_take]; rfl
    rw [e, if_neg (by decide), ← hB]
    simp_arith [g2]
    exact main _ 0 B g2

end Kk

namespace Kk
open PySem L2 SM
open DL (op_addU op_subU op_mulA op_divU op_modU op_powU op_shlU op_shrU op_andU op_orU op_xorU op_ltU op_leU op_gtU op_geU op_isU op_notU call_lenU call_absU call_max2U call_min2U call_intU call_listU call_tupleU call_allU call_sumU call_isiA ix_U sl_U pi_seqU pe_dx pe_dx0 pe_mx pe_mx0 Dx Mx)
def topS (i : Nat) : Stmt := PySem.Challenge.pw_surewire_k51_rings_of_tables.main.body.getD i (.Pass ⟨0, 0, 0, 0⟩)
structure Txt (K : PySem.W.Frag) (mg : Str → Option Value) (ca : CaT) : Prop where
  g_NoPlace : mg "NoPlace" = some (.ref (ca "NoPlace"))
  g_NoTable : mg "NoTable" = some (.ref (ca "NoTable"))
  e_NoPlace : PySem.W.excIn K (ca "NoPlace") [.type "ValueError", .type "Exception", .type "BaseException", .type "object"] "ValueError.__new__" = true
  k_NoPlace : PySem.W.keepIn K (.ref (ca "NoPlace")) = true
  b_NoPlace : PySem.W.subIn K (.ref (ca "NoPlace")) (.type "BaseException") = some true
  t_NoPlace : PySem.W.typeIn K (.ref (ca "NoPlace")) = some (.type "type")
  e_NoTable : PySem.W.excIn K (ca "NoTable") [.type "ValueError", .type "Exception", .type "BaseException", .type "object"] "ValueError.__new__" = true
  k_NoTable : PySem.W.keepIn K (.ref (ca "NoTable")) = true
  b_NoTable : PySem.W.subIn K (.ref (ca "NoTable")) (.type "BaseException") = some true
  t_NoTable : PySem.W.typeIn K (.ref (ca "NoTable")) = some (.type "type")
  isO : AllC (fun C => DL.InC K (ca C) ∧ btn C = false) os_
  isX : AllC (fun C => ExcC K (ca C) ∧ btn C = false) xs_
  isT : TbOk K ca tb_
  b_all : mg "all" = none
  b_bool : mg "bool" = none
  b_dict : mg "dict" = none
  b_enumerate : mg "enumerate" = none
  b_int : mg "int" = none
  b_isinstance : mg "isinstance" = none
  b_len : mg "len" = none
  b_list : mg "list" = none
  b_min : mg "min" = none
  b_range : mg "range" = none
  b_sorted : mg "sorted" = none
  b_tuple : mg "tuple" = none
  c_MOST_BYTE : ∃ t, mg "MOST_BYTE" = some (.int 255 t)
  c_MOST_PLACES : ∃ t, mg "MOST_PLACES" = some (.int 12 t)
  one : True
abbrev s_l_copy : Stmt := topS 21
abbrev N_l_copy : List Str := ["_law_table_here", "_law_place"]
theorem sc_l_copy : FnScope N_l_copy ["_law_table_here"] (defScope s_l_copy) := ⟨rfl, rfl, rfl, by decide +kernel, rfl, by decide +kernel, by decide +kernel⟩
theorem ok_l_copy {P : Program} {w : World} {K : PySem.W.Frag} {mg : Str → Option Value} {base : Heap} {a : Addr} {fd : FuncData} {ca : CaT} (T : Txt K mg ca) (F : Fun K "_law_copy" "_law_copy" s_l_copy a fd)  :
    FnOk P w K mg base (L2.CX P w) 1 a fd ["_law_table_here"] (SpF K ca F_l_copy) := by
  refine SM.Fn.ofF F sc_l_copy rfl fun cdv A outer s H E hr => ?_
  have nd := sc_l_copy.nd
  refine ⟨_, (pss_one (ps_ret (pe_callTy (call_dictA (K := K) rfl) (by rfl) T.b_dict (by decide +kernel) (pa_cons (pe_lockN (pe_lc (own := [("_law_place", 1)]) (g := (gName 1)) rfl nd (pi_keys (pv 0)) (blkOk_by (own := [("_law_place", 1)]) (N := N_l_copy) (sc := defScope s_l_copy) (by decide +kernel)) (fun _ _ _ _ _ => (pg_name (i := 1) nd rfl (by first | exact Or.inl rfl | exact Or.inr rfl))) (fun _ _ _ _ _ => pts_nil) (fun _ _ _ _ _ => (pe_tup (pa_cons (pv 1) (pa_cons (pe_callTy (call_dictA (K := K) rfl) (by rfl) T.b_dict (by decide +kernel) (pa_cons (pe_dgetO (DL.room65 hr) (pv 0) (pv 1) (fun _ _ => rfl)) pa_nil)) pa_nil)))))) pa_nil)))), ?_⟩
  exact (ss_ret (se_cb cs_dict (sa_cons (se_lkN (se_lc (W2 := fun _ _ _ _ => False) (sw_keys se_var) sg_name (by decide) st_yes (se_tup (sa_cons se_var (sa_cons (se_cb cs_dict (sa_cons (se_op os_dget se_var se_var) sa_nil)) sa_nil))))) sa_nil)))
abbrev s_l_next : Stmt := topS 16
abbrev N_l_next : List Str := ["_law_state_here", "_law_size", "_law_number", "_law_mixed"]
theorem sc_l_next : FnScope N_l_next ["_law_state_here", "_law_size"] (defScope s_l_next) := ⟨rfl, rfl, rfl, by decide +kernel, rfl, by decide +kernel, by decide +kernel⟩
theorem ok_l_next {P : Program} {w : World} {K : PySem.W.Frag} {mg : Str → Option Value} {base : Heap} {a : Addr} {fd : FuncData} {ca : CaT} (T : Txt K mg ca) (F : Fun K "_law_next" "_law_next" s_l_next a fd)  :
    FnOk P w K mg base (L2.CX P w) 1 a fd ["_law_state_here", "_law_size"] (SpF K ca F_l_next) := by
  refine SM.Fn.ofF F sc_l_next rfl fun cdv A outer s H E hr => ?_
  have nd := sc_l_next.nd
  refine ⟨_, (pss_cons (ps_if (PW.pt (pw_and (pt_cmpR (op_eqPK (K := K) (DL.room65 hr)) (pe_ix (ix_U (K := K)) (pv 0) pe_int (fun _ _ => rfl)) pe_int (nomark _)) (pw_and1 (pt_cmpR (op_notInAll (K := K) (DL.room65 hr)) (pe_ix (ix_U (K := K)) (pv 0) pe_int (fun _ _ => rfl)) (pe_tup (pa_cons pe_int (pa_cons (pe_un un_neg pe_int) pa_nil))) rfl)))) (pss_cons (ps_set (i := 2) nd rfl (by first | exact Or.inl rfl | exact Or.inr rfl) (pe_op op_modU (pe_ix (ix_U (K := K)) (pv 0) pe_int (fun _ _ => rfl)) (pv 1))) (pss_cons (PS.or (ps_asg (pe_op op_divU (pe_ix (ix_U (K := K)) (pv 0) pe_int (fun _ _ => rfl)) (pv 1)) (pg_sub (pv 0) pe_int set_list)) (ps_dput (DL.room65w hr) (pv 0) pe_int (pe_op op_divU (pe_ix (ix_U (K := K)) (pv 0) pe_int (fun _ _ => rfl)) (pv 1)) rfl)) (pss_one (ps_ret (pv 2))))) pss_nil) (pss_cons (ps_if (pt_cmpR (op_eqPK (K := K) (DL.room65 hr)) (pe_ix (ix_U (K := K)) (pv 0) pe_int (fun _ _ => rfl)) pe_int (nomark _)) (pss_cons (PS.or (ps_asg (pe_ix (ix_U (K := K)) (pv 0) pe_int (fun _ _ => rfl)) (pg_sub (pv 0) pe_int set_list)) (ps_dput (DL.room65w hr) (pv 0) pe_int (pe_ix (ix_U (K := K)) (pv 0) pe_int (fun _ _ => rfl)) rfl)) (pss_one (PS.or (ps_asg pe_int (pg_sub (pv 0) pe_int set_list)) (ps_dput (DL.room65w hr) (pv 0) pe_int pe_int rfl)))) pss_nil) (pss_cons (PS.or (ps_asg (pe_op op_modU (pe_op (op_addU (K := K)) (pe_op (op_mulA (K := K)) (pe_ix (ix_U (K := K)) (pv 0) pe_int (fun _ _ => rfl)) pe_int) pe_int) pe_int) (pg_sub (pv 0) pe_int set_list)) (ps_dput (DL.room65w hr) (pv 0) pe_int (pe_op op_modU (pe_op (op_addU (K := K)) (pe_op (op_mulA (K := K)) (pe_ix (ix_U (K := K)) (pv 0) pe_int (fun _ _ => rfl)) pe_int) pe_int) pe_int) rfl)) (pss_cons (ps_set (i := 3) nd rfl (by first | exact Or.inl rfl | exact Or.inr rfl) (pe_op op_modU (pe_op (op_addU (K := K)) (pe_op (op_mulA (K := K)) (pe_ix (ix_U (K := K)) (pv 0) pe_int (fun _ _ => rfl)) (pe_ix (ix_U (K := K)) (pv 0) pe_int (fun _ _ => rfl))) (pe_op (op_mulA (K := K)) pe_int (pe_ix (ix_U (K := K)) (pv 0) pe_int (fun _ _ => rfl)))) pe_int)) (pss_one (ps_ret (pe_op op_modU (pe_op op_divU (pe_op op_modU (pe_op (op_addU (K := K)) (pe_op (op_mulA (K := K)) (pv 3) (pv 3)) (pe_op (op_mulA (K := K)) pe_int (pv 3))) pe_int) pe_int) (pv 1)))))))), ?_⟩
  exact (ss_seq (ss_if (st_and (st_test (se_op os_eq (se_op os_ix se_var se_int) se_int)) (st_test (se_op os_notin (se_op os_ix se_var se_int) (se_tup (sa_cons se_int (sa_cons (se_un us_neg se_int) sa_nil)))))) (ss_seq (ss_set (se_op os_mod (se_op os_ix se_var se_int) se_var)) (ss_seq (ss_put se_var se_int (se_op os_div (se_op os_ix se_var se_int) se_var)) (ss_ret se_var))) ss_next) (ss_seq (ss_if (st_test (se_op os_eq (se_op os_ix se_var se_int) se_int)) (ss_seq (ss_put se_var se_int (se_op os_ix se_var se_int)) (ss_put se_var se_int se_int)) ss_next) (ss_seq (ss_put se_var se_int (se_op os_mod (se_op os_add (se_op os_mul (se_op os_ix se_var se_int) se_int) se_int) se_int)) (ss_seq (ss_set (se_op os_mod (se_op os_add (se_op os_mul (se_op os_ix se_var se_int) (se_op os_ix se_var se_int)) (se_op os_mul se_int (se_op os_ix se_var se_int))) se_int)) (ss_ret (se_op os_mod (se_op os_div (se_op os_mod (se_op os_add (se_op os_mul se_var se_var) (se_op os_mul se_int se_var)) se_int) se_int) se_var))))))
abbrev s_l_walked : Stmt := topS 19
abbrev N_l_walked : List Str := ["_law_table_here", "_law_place", "_law_target", "_law_found", "_law_following"]
theorem sc_l_walked : FnScope N_l_walked ["_law_table_here", "_law_place", "_law_target"] (defScope s_l_walked) := ⟨rfl, rfl, rfl, by decide +kernel, rfl, by decide +kernel, by decide +kernel⟩
theorem ok_l_walked {P : Program} {w : World} {K : PySem.W.Frag} {mg : Str → Option Value} {base : Heap} {a : Addr} {fd : FuncData} {ca : CaT} (T : Txt K mg ca) (F : Fun K "_law_walked" "_law_walked" s_l_walked a fd)  :
    FnOk P w K mg base (L2.CX P w) 1 a fd ["_law_table_here", "_law_place", "_law_target"] (SpF K ca F_l_walked) := by
  refine SM.Fn.ofF F sc_l_walked rfl fun cdv A outer s H E hr => ?_
  have nd := sc_l_walked.nd
  refine ⟨_, (pss_cons (ps_set (i := 3) nd rfl (by first | exact Or.inl rfl | exact Or.inr rfl) (pe_lst (pa_cons (pv 1) pa_nil))) (pss_cons (ps_while (passes_of rfl) (PW.pt (pw_and (pt_cmpR (op_nePK (K := K) (DL.room65 hr)) (pe_ix (ix_U (K := K)) (pv 3) (pe_un un_neg pe_int) (fun _ _ => rfl)) (pv 2) (nomark _)) (pw_and1 (pt_cmpR (op_inAll (K := K) (DL.room65 hr)) (pv 2) (pe_dgetO (DL.room65 hr) (pv 0) (pe_ix (ix_U (K := K)) (pv 3) (pe_un un_neg pe_int) (fun _ _ => rfl)) (fun _ _ => rfl)) rfl)))) (pss_cons (ps_set (i := 4) nd rfl (by first | exact Or.inl rfl | exact Or.inr rfl) (pe_dgetO (DL.room65 hr) (pe_dgetO (DL.room65 hr) (pv 0) (pe_ix (ix_U (K := K)) (pv 3) (pe_un un_neg pe_int) (fun _ _ => rfl)) (fun _ _ => rfl)) (pv 2) (fun _ _ => rfl))) (pss_cons (ps_if (pt_cmpR (op_inAll (K := K) (DL.room65 hr)) (pv 4) (pv 3) rfl) (pss_one (ps_ret (pe_tup (pa_cons (pv 3) (pa_cons (pv 4) pa_nil))))) pss_nil) (pss_one (ps_expr (pe_bm PySem.F.plainAttrs_list PySem.F.slot_list_append PySem.F.type_list_append mt_append (pv 3) (pa_cons (pv 4) pa_nil))))))) (pss_one (ps_ret (pe_tup (pa_cons (pv 3) (pa_cons pe_non pa_nil))))))), ?_⟩
  exact (ss_seq (ss_set (se_lst (sa_cons se_var sa_nil))) (ss_seq (ss_while (st_and (st_test (se_op os_ne (se_op os_ix se_var (se_un us_neg se_int)) se_var)) (st_test (se_op os_in se_var (se_op os_dget se_var (se_op os_ix se_var (se_un us_neg se_int)))))) (ss_seq (ss_set (se_op os_dget (se_op os_dget se_var (se_op os_ix se_var (se_un us_neg se_int))) se_var)) (ss_seq (ss_if (st_test (se_op os_in se_var se_var)) (ss_ret (se_tup (sa_cons se_var (sa_cons se_var sa_nil)))) ss_next) (ss_drop (se_bl_ ms_append se_var (sa_cons se_var sa_nil)))))) (ss_ret (se_tup (sa_cons se_var (sa_cons se_non sa_nil))))))
abbrev s_l_way : Stmt := topS 20
abbrev N_l_way : List Str := ["_law_table_here", "_law_place", "_law_target", "_law_found", "_law_again", "_law_places_here", "_law_least"]
theorem sc_l_way : FnScope N_l_way ["_law_table_here", "_law_place", "_law_target"] (defScope s_l_way) := ⟨rfl, rfl, rfl, by decide +kernel, rfl, by decide +kernel, by decide +kernel⟩
theorem ok_l_way {P : Program} {w : World} {K : PySem.W.Frag} {mg : Str → Option Value} {base : Heap} {a : Addr} {fd : FuncData} {ca : CaT} (T : Txt K mg ca) (F : Fun K "_law_way" "_law_way" s_l_way a fd) (C_l_walked : Dx P w K mg base 1 "_law_walked" (SpF K ca F_l_walked)) :
    FnOk P w K mg base (L2.CX P w) 2 a fd ["_law_table_here", "_law_place", "_law_target"] (SpF K ca F_l_way) := by
  refine SM.Fn.ofF F sc_l_way rfl fun cdv A outer s H E hr => ?_
  have nd := sc_l_way.nd
  refine ⟨_, (pss_cons (ps_asg (pe_dx C_l_walked (takes_of rfl rfl rfl rfl) hr (by decide) rfl (pa_cons (pv 0) (pa_cons (pv 1) (pa_cons (pv 2) pa_nil)))) (pg_tup rfl (pgs_cons (pg_name (i := 3) nd rfl (by first | exact Or.inl rfl | exact Or.inr rfl)) (pgs_cons (pg_name (i := 4) nd rfl (by first | exact Or.inl rfl | exact Or.inr rfl)) pgs_nil)))) (pss_cons (ps_if (pt_cmpR op_notU (pv 4) pe_non (nomark _)) (pss_cons (ps_set (i := 5) nd rfl (by first | exact Or.inl rfl | exact Or.inr rfl) (pe_slice (sl_U (K := K)) (pv 3) (po_some (pe_bm PySem.F.plainAttrs_list PySem.F.slot_list_index PySem.F.type_list_index mt_index (pv 3) (pa_cons (pv 4) pa_nil))) po_none)) (pss_cons (ps_set (i := 6) nd rfl (by first | exact Or.inl rfl | exact Or.inr rfl) (pe_bm PySem.F.plainAttrs_list PySem.F.slot_list_index PySem.F.type_list_index mt_index (pv 5) (pa_cons (pe_callB (L2.call_minU (K := K) (DL.room65 hr) rfl) (by rfl) T.b_min (by decide +kernel) (pa_cons (pv 5) pa_nil)) pa_nil))) (pss_one (ps_ret (pe_tup (pa_cons pe_str (pa_cons (pe_op (op_addU (K := K)) (pe_slice (sl_U (K := K)) (pv 5) (po_some (pv 6)) po_none) (pe_slice (sl_U (K := K)) (pv 5) po_none (po_some (pv 6)))) pa_nil))))))) pss_nil) (pss_one (ps_ret (pe_ifExp (pt_cmpR (op_eqPK (K := K) (DL.room65 hr)) (pe_ix (ix_U (K := K)) (pv 3) (pe_un un_neg pe_int) (fun _ _ => rfl)) (pv 2) (nomark _)) (pv 3) pe_non))))), ?_⟩
  exact (ss_seq (ss_asg (se_call (sa_cons se_var (sa_cons se_var (sa_cons se_var sa_nil)))) (sg_tup (sgs_cons sg_name (sgs_cons sg_name sgs_nil)) rfl)) (ss_seq (ss_if (st_test (se_op os_isnot se_var se_non)) (ss_seq (ss_set (se_sl sls_all se_var (so_some (se_bl_ ms_index se_var (sa_cons se_var sa_nil))) so_none)) (ss_seq (ss_set (se_bl_ ms_index se_var (sa_cons (se_cb cs_best (sa_cons se_var sa_nil)) sa_nil))) (ss_ret (se_tup (sa_cons (se_strS (by decide +kernel)) (sa_cons (se_op os_add (se_sl sls_all se_var (so_some se_var) so_none) (se_sl sls_all se_var so_none (so_some se_var))) sa_nil)))))) ss_next) (ss_ret (se_if (st_test (se_op os_eq (se_op os_ix se_var (se_un us_neg se_int)) se_var)) se_var se_non))))
abbrev s_l_due : Stmt := topS 23
abbrev N_l_due : List Str := ["_law_table_here", "_law_found", "_law_target", "_law_place", "_law_told"]
theorem sc_l_due : FnScope N_l_due ["_law_table_here"] (defScope s_l_due) := ⟨rfl, rfl, rfl, by decide +kernel, rfl, by decide +kernel, by decide +kernel⟩
theorem ok_l_due {P : Program} {w : World} {K : PySem.W.Frag} {mg : Str → Option Value} {base : Heap} {a : Addr} {fd : FuncData} {ca : CaT} (T : Txt K mg ca) (F : Fun K "_law_due" "_law_due" s_l_due a fd) (C_l_way : Dx P w K mg base 2 "_law_way" (SpF K ca F_l_way)) :
    FnOk P w K mg base (L2.CX P w) 3 a fd ["_law_table_here"] (SpF K ca F_l_due) := by
  refine SM.Fn.ofF F sc_l_due rfl fun cdv A outer s H E hr => ?_
  have nd := sc_l_due.nd
  refine ⟨_, (pss_cons (ps_set (i := 1) nd rfl (by first | exact Or.inl rfl | exact Or.inr rfl) (pe_lst pa_nil)) (pss_cons (ps_lockN (ps_for (passes_of rfl) rfl (pi_keys (pv 0)) (pg_name (i := 2) nd rfl (by first | exact Or.inl rfl | exact Or.inr rfl)) (pss_one (ps_lockN (ps_for (passes_of rfl) rfl (pi_keys (pv 0)) (pg_name (i := 3) nd rfl (by first | exact Or.inl rfl | exact Or.inr rfl)) (pss_cons (ps_set (i := 4) nd rfl (by first | exact Or.inl rfl | exact Or.inr rfl) (pe_dx C_l_way (takes_of rfl rfl rfl rfl) hr (by decide) rfl (pa_cons (pv 0) (pa_cons (pv 3) (pa_cons (pv 2) pa_nil))))) (pss_one (ps_if (pt_val (pe_callB (call_isiA (K := K)) (by rfl) T.b_isinstance (by decide +kernel) (pa_cons (pv 4) (pa_cons (pe_bltn (v := .ty "tuple") (by rfl) T.b_tuple (by decide +kernel) rfl) pa_nil)))) (pss_one (ps_expr (pe_bm PySem.F.plainAttrs_list PySem.F.slot_list_append PySem.F.type_list_append mt_append (pv 1) (pa_cons (pe_tup (pa_cons (pv 2) (pa_cons (pe_ix (ix_U (K := K)) (pv 4) pe_int (fun _ _ => rfl)) pa_nil))) pa_nil)))) pss_nil)))))))) (pss_one (ps_ret (pe_ifExp (pt_cmpR (op_nePK (K := K) (DL.room65 hr)) (pv 1) (pe_lst pa_nil) (nomark _)) (pe_ix (ix_U (K := K)) (pe_callB (L2.call_sortDU (K := K) (DL.room65 hr)) (by rfl) T.b_sorted (by decide +kernel) (pa_cons (pv 1) pa_nil)) pe_int (fun _ _ => rfl)) pe_non))))), ?_⟩
  exact (ss_seq (ss_set (se_lst sa_nil)) (ss_seq (ss_lkN (ss_for (sw_keys se_var) sg_name (ss_lkN (ss_for (sw_keys se_var) sg_name (ss_seq (ss_set (se_call (sa_cons se_var (sa_cons se_var (sa_cons se_var sa_nil))))) (ss_if (st_b (se_cb (cs_isi T.isO T.isX T.isT) (sa_cons se_var (sa_cons se_ty sa_nil)))) (ss_drop (se_bl_ ms_append se_var (sa_cons (se_tup (sa_cons se_var (sa_cons (se_op os_ix se_var se_int) sa_nil))) sa_nil))) ss_next)))))) (ss_ret (se_if (st_test (se_op os_ne se_var (se_lst sa_nil))) (se_op os_ix (se_cb cs_sortD (sa_cons se_var sa_nil)) se_int) se_non))))
abbrev s_led : Stmt := topS 11
abbrev N_led : List Str := ["table", "place", "target", "found", "neighbour", "places", "least"]
theorem sc_led : FnScope N_led ["table", "place", "target"] (defScope s_led) := ⟨rfl, rfl, rfl, by decide +kernel, rfl, by decide +kernel, by decide +kernel⟩
theorem ok_led {P : Program} {w : World} {K : PySem.W.Frag} {mg : Str → Option Value} {base : Heap} {a : Addr} {fd : FuncData} {ca : CaT} (T : Txt K mg ca) (F : Fun K "led" "led" s_led a fd)  :
    FnOk P w K mg base (L2.CX P w) 1 a fd ["table", "place", "target"] (SpF K ca F_led) := by
  refine SM.Fn.ofF F sc_led rfl fun cdv A outer s H E hr => ?_
  have nd := sc_led.nd
  refine ⟨_, (pss_cons (ps_set (i := 3) nd rfl (by first | exact Or.inl rfl | exact Or.inr rfl) (pe_lst (pa_cons (pv 1) pa_nil))) (pss_cons (ps_while (passes_of rfl) (pt_cmpR (op_nePK (K := K) (DL.room65 hr)) (pe_ix (ix_U (K := K)) (pv 3) (pe_un un_neg pe_int) (fun _ _ => rfl)) (pv 2) (nomark _)) (pss_cons (ps_set (i := 4) nd rfl (by first | exact Or.inl rfl | exact Or.inr rfl) (pe_dget2 (DL.room65w hr) (pe_dgetO (DL.room65 hr) (pv 0) (pe_ix (ix_U (K := K)) (pv 3) (pe_un un_neg pe_int) (fun _ _ => rfl)) (fun _ _ => rfl)) (pv 2) pe_non ⟨rfl, rfl, rfl, rfl⟩)) (pss_cons (ps_if (pt_cmpR op_isU (pv 4) pe_non (nomark _)) (pss_one (ps_ret pe_non)) pss_nil) (pss_cons (ps_if (pt_cmpR (op_inAll (K := K) (DL.room65 hr)) (pv 4) (pv 3) rfl) (pss_cons (ps_set (i := 5) nd rfl (by first | exact Or.inl rfl | exact Or.inr rfl) (pe_slice (sl_U (K := K)) (pv 3) (po_some (pe_bm PySem.F.plainAttrs_list PySem.F.slot_list_index PySem.F.type_list_index mt_index (pv 3) (pa_cons (pv 4) pa_nil))) po_none)) (pss_cons (ps_set (i := 6) nd rfl (by first | exact Or.inl rfl | exact Or.inr rfl) (pe_bm PySem.F.plainAttrs_list PySem.F.slot_list_index PySem.F.type_list_index mt_index (pv 5) (pa_cons (pe_callB (L2.call_minU (K := K) (DL.room65 hr) rfl) (by rfl) T.b_min (by decide +kernel) (pa_cons (pv 5) pa_nil)) pa_nil))) (pss_one (ps_ret (pe_tup (pa_cons pe_str (pa_cons (pe_op (op_addU (K := K)) (pe_slice (sl_U (K := K)) (pv 5) (po_some (pv 6)) po_none) (pe_slice (sl_U (K := K)) (pv 5) po_none (po_some (pv 6)))) pa_nil))))))) pss_nil) (pss_one (ps_expr (pe_bm PySem.F.plainAttrs_list PySem.F.slot_list_append PySem.F.type_list_append mt_append (pv 3) (pa_cons (pv 4) pa_nil)))))))) (pss_one (ps_ret (pv 3))))), ?_⟩
  exact (ss_seq (ss_set (se_lst (sa_cons se_var sa_nil))) (ss_seq (ss_while (st_test (se_op os_ne (se_op os_ix se_var (se_un us_neg se_int)) se_var)) (ss_seq (ss_set (se_get2 (se_op os_dget se_var (se_op os_ix se_var (se_un us_neg se_int))) se_var se_non)) (ss_seq (ss_if (st_test (se_op os_is se_var se_non)) (ss_ret se_non) ss_next) (ss_seq (ss_if (st_test (se_op os_in se_var se_var)) (ss_seq (ss_set (se_sl sls_all se_var (so_some (se_bl_ ms_index se_var (sa_cons se_var sa_nil))) so_none)) (ss_seq (ss_set (se_bl_ ms_index se_var (sa_cons (se_cb cs_best (sa_cons se_var sa_nil)) sa_nil))) (ss_ret (se_tup (sa_cons (se_strS (by decide +kernel)) (sa_cons (se_op os_add (se_sl sls_all se_var (so_some se_var) so_none) (se_sl sls_all se_var so_none (so_some se_var))) sa_nil)))))) ss_next) (ss_drop (se_bl_ ms_append se_var (sa_cons se_var sa_nil))))))) (ss_ret se_var)))
abbrev s_is_place : Stmt := topS 7
abbrev N_is_place : List Str := ["thing"]
theorem sc_is_place : FnScope N_is_place ["thing"] (defScope s_is_place) := ⟨rfl, rfl, rfl, by decide +kernel, rfl, by decide +kernel, by decide +kernel⟩
theorem ok_is_place {P : Program} {w : World} {K : PySem.W.Frag} {mg : Str → Option Value} {base : Heap} {a : Addr} {fd : FuncData} {ca : CaT} (T : Txt K mg ca) (F : Fun K "is_place" "is_place" s_is_place a fd)  :
    FnOk P w K mg base (L2.CX P w) 1 a fd ["thing"] (SpF K ca F_is_place) := by
  refine SM.Fn.ofF F sc_is_place rfl fun cdv A outer s H E hr => ?_
  have nd := sc_is_place.nd
  refine ⟨_, (pss_one (ps_ret (pe_and (pe_callB (call_isiA (K := K)) (by rfl) T.b_isinstance (by decide +kernel) (pa_cons (pv 0) (pa_cons (pe_bltn (v := .ty "int") (by rfl) T.b_int (by decide +kernel) rfl) pa_nil))) (pe_and (pe_not (pe_callB (call_isiA (K := K)) (by rfl) T.b_isinstance (by decide +kernel) (pa_cons (pv 0) (pa_cons (pe_bltn (v := .ty "bool") (by rfl) T.b_bool (by decide +kernel) rfl) pa_nil)))) (pe_one (pe_chain op_leU op_leU pe_int (pv 0) (pe_glob (v := .int 255) rfl T.c_MOST_BYTE.choose_spec ⟨_, rfl⟩))))))), ?_⟩
  exact (ss_ret (se_and (se_cb (cs_isi T.isO T.isX T.isT) (sa_cons se_var (sa_cons se_ty sa_nil))) (se_and (se_not (se_cb (cs_isi T.isO T.isX T.isT) (sa_cons se_var (sa_cons se_ty sa_nil)))) (se_ch os_le os_le se_int se_var se_int))))
abbrev s_is_other : Stmt := topS 8
abbrev N_is_other : List Str := ["thing", "place", "table"]
theorem sc_is_other : FnScope N_is_other ["thing", "place", "table"] (defScope s_is_other) := ⟨rfl, rfl, rfl, by decide +kernel, rfl, by decide +kernel, by decide +kernel⟩
theorem ok_is_other {P : Program} {w : World} {K : PySem.W.Frag} {mg : Str → Option Value} {base : Heap} {a : Addr} {fd : FuncData} {ca : CaT} (T : Txt K mg ca) (F : Fun K "is_other" "is_other" s_is_other a fd) (C_is_place : Dx P w K mg base 1 "is_place" (SpF K ca F_is_place)) :
    FnOk P w K mg base (L2.CX P w) 2 a fd ["thing", "place", "table"] (SpF K ca F_is_other) := by
  refine SM.Fn.ofF F sc_is_other rfl fun cdv A outer s H E hr => ?_
  have nd := sc_is_other.nd
  refine ⟨_, (pss_one (ps_ret (pe_and (pe_dx C_is_place (takes_of rfl rfl rfl rfl) hr (by decide) rfl (pa_cons (pv 0) pa_nil)) (pe_and (pe_cmpR (op_inAll (K := K) (DL.room65 hr)) (pv 0) (pv 2) rfl) (pe_one (pe_cmpR (op_nePK (K := K) (DL.room65 hr)) (pv 0) (pv 1) (nomark _))))))), ?_⟩
  exact (ss_ret (se_and (se_call (sa_cons se_var sa_nil)) (se_and (se_op os_in se_var se_var) (se_op os_ne se_var se_var))))
abbrev s_are_ways : Stmt := topS 9
abbrev N_are_ways : List Str := ["thing", "place", "table", "target", "neighbour"]
theorem sc_are_ways : FnScope N_are_ways ["thing", "place", "table"] (defScope s_are_ways) := ⟨rfl, rfl, rfl, by decide +kernel, rfl, by decide +kernel, by decide +kernel⟩
theorem ok_are_ways {P : Program} {w : World} {K : PySem.W.Frag} {mg : Str → Option Value} {base : Heap} {a : Addr} {fd : FuncData} {ca : CaT} (T : Txt K mg ca) (F : Fun K "are_ways" "are_ways" s_are_ways a fd) (C_is_other : Dx P w K mg base 2 "is_other" (SpF K ca F_is_other)) :
    FnOk P w K mg base (L2.CX P w) 3 a fd ["thing", "place", "table"] (SpF K ca F_are_ways) := by
  refine SM.Fn.ofF F sc_are_ways rfl fun cdv A outer s H E hr => ?_
  have nd := sc_are_ways.nd
  refine ⟨_, (pss_cons (ps_if (pt_not (pt_val (pe_callB (call_isiA (K := K)) (by rfl) T.b_isinstance (by decide +kernel) (pa_cons (pv 0) (pa_cons (pe_bltn (v := .ty "dict") (by rfl) T.b_dict (by decide +kernel) rfl) pa_nil))))) (pss_one (ps_ret pe_bl)) pss_nil) (pss_cons (ps_lockN (ps_for (passes_of rfl) rfl (pi_items (pv 0)) (pg_tup rfl (pgs_cons (pg_name (i := 3) nd rfl (by first | exact Or.inl rfl | exact Or.inr rfl)) (pgs_cons (pg_name (i := 4) nd rfl (by first | exact Or.inl rfl | exact Or.inr rfl)) pgs_nil))) (pss_one (ps_if (PW.pt (pw_or (pt_not (pt_val (pe_dx C_is_other (takes_of rfl rfl rfl rfl) hr (by decide) rfl (pa_cons (pv 3) (pa_cons (pv 1) (pa_cons (pv 2) pa_nil)))))) (pw_or1 (pt_not (pt_val (pe_dx C_is_other (takes_of rfl rfl rfl rfl) hr (by decide) rfl (pa_cons (pv 4) (pa_cons (pv 1) (pa_cons (pv 2) pa_nil))))))))) (pss_one (ps_ret pe_bl)) pss_nil)))) (pss_one (ps_ret pe_bl)))), ?_⟩
  exact (ss_seq (ss_if (st_not (st_b (se_cb (cs_isi T.isO T.isX T.isT) (sa_cons se_var (sa_cons se_ty sa_nil))))) (ss_ret se_bl) ss_next) (ss_seq (ss_lkN (ss_for (sw_items se_var) (sg_tup (sgs_cons sg_name (sgs_cons sg_name sgs_nil)) rfl) (ss_if (st_or (st_not (st_b (se_call (sa_cons se_var (sa_cons se_var (sa_cons se_var sa_nil)))))) (st_not (st_b (se_call (sa_cons se_var (sa_cons se_var (sa_cons se_var sa_nil))))))) (ss_ret se_bl) ss_next))) (ss_ret se_bl)))
abbrev s_need_table : Stmt := topS 10
abbrev N_need_table : List Str := ["thing", "place", "ways"]
theorem sc_need_table : FnScope N_need_table ["thing"] (defScope s_need_table) := ⟨rfl, rfl, rfl, by decide +kernel, rfl, by decide +kernel, by decide +kernel⟩
theorem ok_need_table {P : Program} {w : World} {K : PySem.W.Frag} {mg : Str → Option Value} {base : Heap} {a : Addr} {fd : FuncData} {ca : CaT} (T : Txt K mg ca) (F : Fun K "need_table" "need_table" s_need_table a fd) (C_are_ways : Dx P w K mg base 3 "are_ways" (SpF K ca F_are_ways)) (C_is_place : Dx P w K mg base 1 "is_place" (SpF K ca F_is_place)) :
    FnOk P w K mg base (L2.CX P w) 4 a fd ["thing"] (SpF K ca F_need_table) := by
  refine SM.Fn.ofF F sc_need_table rfl fun cdv A outer s H E hr => ?_
  have nd := sc_need_table.nd
  refine ⟨_, (pss_cons (ps_if (PW.pt (pw_or (pt_not (pt_val (pe_callB (call_isiA (K := K)) (by rfl) T.b_isinstance (by decide +kernel) (pa_cons (pv 0) (pa_cons (pe_bltn (v := .ty "dict") (by rfl) T.b_dict (by decide +kernel) rfl) pa_nil))))) (pw_or1 (pt_not (pt_chain op_leU op_leU pe_int (pe_callB (call_lenL (K := K)) (by rfl) T.b_len (by decide +kernel) (pa_cons (pv 0) pa_nil)) (pe_glob (v := .int 12) rfl T.c_MOST_PLACES.choose_spec ⟨_, rfl⟩)))))) (pss_one (DL.ps_raiseC rfl (takes_of rfl rfl rfl rfl) (pmk_own PySem.F.excBase_ValueError T.e_NoTable T.g_NoTable T.k_NoTable (raises_own T.b_NoTable T.t_NoTable) rfl))) pss_nil) (pss_cons (ps_if (pt_not (pt_val (pe_callB (call_allU (K := K) rfl) (by rfl) T.b_all (by decide +kernel) (pa_cons (pe_lockN (pe_lc (own := [("place", 1)]) (g := (gName 1)) rfl nd (pi_keys (pv 0)) (blkOk_by (own := [("place", 1)]) (N := N_need_table) (sc := defScope s_need_table) (by decide +kernel)) (fun _ _ _ _ _ => (pg_name (i := 1) nd rfl (by first | exact Or.inl rfl | exact Or.inr rfl))) (fun _ _ _ _ _ => pts_nil) (fun _ _ _ _ _ => (pe_dx0 C_is_place hr (by decide) rfl (pa_cons (pv 1) pa_nil))))) pa_nil)))) (pss_one (DL.ps_raiseC rfl (takes_of rfl rfl rfl rfl) (pmk_own PySem.F.excBase_ValueError T.e_NoTable T.g_NoTable T.k_NoTable (raises_own T.b_NoTable T.t_NoTable) rfl))) pss_nil) (pss_one (ps_lockN (ps_for (passes_of rfl) rfl (pi_items (pv 0)) (pg_tup rfl (pgs_cons (pg_name (i := 1) nd rfl (by first | exact Or.inl rfl | exact Or.inr rfl)) (pgs_cons (pg_name (i := 2) nd rfl (by first | exact Or.inl rfl | exact Or.inr rfl)) pgs_nil))) (pss_one (ps_if (pt_not (pt_val (pe_dx C_are_ways (takes_of rfl rfl rfl rfl) hr (by decide) rfl (pa_cons (pv 2) (pa_cons (pv 1) (pa_cons (pv 0) pa_nil)))))) (pss_one (DL.ps_raiseC rfl (takes_of rfl rfl rfl rfl) (pmk_own PySem.F.excBase_ValueError T.e_NoTable T.g_NoTable T.k_NoTable (raises_own T.b_NoTable T.t_NoTable) rfl))) pss_nil))))))), ?_⟩
  exact (ss_seq (ss_if (st_or (st_not (st_b (se_cb (cs_isi T.isO T.isX T.isT) (sa_cons se_var (sa_cons se_ty sa_nil))))) (st_not (st_test (se_ch os_le os_le se_int (se_cb cs_lenL (sa_cons se_var sa_nil)) se_int)))) (ss_raise rfl) ss_next) (ss_seq (ss_if (st_not (st_b (se_cb cs_all (sa_cons (se_lkN (se_lc (W2 := fun _ _ _ _ => False) (sw_keys se_var) sg_name (by decide) st_yes (se_call0 (sa_cons se_var sa_nil)))) sa_nil)))) (ss_raise rfl) ss_next) (ss_lkN (ss_for (sw_items se_var) (sg_tup (sgs_cons sg_name (sgs_cons sg_name sgs_nil)) rfl) (ss_if (st_not (st_b (se_call (sa_cons se_var (sa_cons se_var (sa_cons se_var sa_nil)))))) (ss_raise rfl) ss_next)))))
abbrev s_ring : Stmt := topS 13
abbrev N_ring : List Str := ["table", "found", "target", "place", "told"]
theorem sc_ring : FnScope N_ring ["table"] (defScope s_ring) := ⟨rfl, rfl, rfl, by decide +kernel, rfl, by decide +kernel, by decide +kernel⟩
theorem ok_ring {P : Program} {w : World} {K : PySem.W.Frag} {mg : Str → Option Value} {base : Heap} {a : Addr} {fd : FuncData} {ca : CaT} (T : Txt K mg ca) (F : Fun K "ring" "ring" s_ring a fd) (C_led : Dx P w K mg base 1 "led" (SpF K ca F_led)) (C_need_table : Dx P w K mg base 4 "need_table" (SpF K ca F_need_table)) :
    FnOk P w K mg base (L2.CX P w) 5 a fd ["table"] (SpF K ca F_ring) := by
  refine SM.Fn.ofF F sc_ring rfl fun cdv A outer s H E hr => ?_
  have nd := sc_ring.nd
  refine ⟨_, (pss_cons (ps_expr (pe_dx C_need_table (takes_of rfl rfl rfl rfl) hr (by decide) rfl (pa_cons (pv 0) pa_nil))) (pss_cons (ps_set (i := 1) nd rfl (by first | exact Or.inl rfl | exact Or.inr rfl) (pe_lst pa_nil)) (pss_cons (ps_lockN (ps_for (passes_of rfl) rfl (pi_keys (pv 0)) (pg_name (i := 2) nd rfl (by first | exact Or.inl rfl | exact Or.inr rfl)) (pss_one (ps_lockN (ps_for (passes_of rfl) rfl (pi_keys (pv 0)) (pg_name (i := 3) nd rfl (by first | exact Or.inl rfl | exact Or.inr rfl)) (pss_cons (ps_set (i := 4) nd rfl (by first | exact Or.inl rfl | exact Or.inr rfl) (pe_dx C_led (takes_of rfl rfl rfl rfl) hr (by decide) rfl (pa_cons (pv 0) (pa_cons (pv 3) (pa_cons (pv 2) pa_nil))))) (pss_one (ps_if (pt_val (pe_callB (call_isiA (K := K)) (by rfl) T.b_isinstance (by decide +kernel) (pa_cons (pv 4) (pa_cons (pe_bltn (v := .ty "tuple") (by rfl) T.b_tuple (by decide +kernel) rfl) pa_nil)))) (pss_one (ps_expr (pe_bm PySem.F.plainAttrs_list PySem.F.slot_list_append PySem.F.type_list_append mt_append (pv 1) (pa_cons (pe_tup (pa_cons (pv 2) (pa_cons (pe_ix (ix_U (K := K)) (pv 4) pe_int (fun _ _ => rfl)) pa_nil))) pa_nil)))) pss_nil)))))))) (pss_one (ps_ret (L2.pe_callBK (L2.call_minDfU (K := K) (DL.room65 hr) rfl) (by rfl) T.b_min (by decide +kernel) (pa_cons (pv 1) pa_nil) (pk_cons pe_non pk_nil))))))), ?_⟩
  exact (ss_seq (ss_drop (se_call (sa_cons se_var sa_nil))) (ss_seq (ss_set (se_lst sa_nil)) (ss_seq (ss_lkN (ss_for (sw_keys se_var) sg_name (ss_lkN (ss_for (sw_keys se_var) sg_name (ss_seq (ss_set (se_call (sa_cons se_var (sa_cons se_var (sa_cons se_var sa_nil))))) (ss_if (st_b (se_cb (cs_isi T.isO T.isX T.isT) (sa_cons se_var (sa_cons se_ty sa_nil)))) (ss_drop (se_bl_ ms_append se_var (sa_cons (se_tup (sa_cons se_var (sa_cons (se_op os_ix se_var se_int) sa_nil))) sa_nil))) ss_next)))))) (ss_ret (se_ck ck_minDf se_var se_non)))))
abbrev s_way : Stmt := topS 12
abbrev N_way : List Str := ["table", "place", "target", "thing"]
theorem sc_way : FnScope N_way ["table", "place", "target"] (defScope s_way) := ⟨rfl, rfl, rfl, by decide +kernel, rfl, by decide +kernel, by decide +kernel⟩
theorem ok_way {P : Program} {w : World} {K : PySem.W.Frag} {mg : Str → Option Value} {base : Heap} {a : Addr} {fd : FuncData} {ca : CaT} (T : Txt K mg ca) (F : Fun K "way" "way" s_way a fd) (C_is_place : Dx P w K mg base 1 "is_place" (SpF K ca F_is_place)) (C_led : Dx P w K mg base 1 "led" (SpF K ca F_led)) (C_need_table : Dx P w K mg base 4 "need_table" (SpF K ca F_need_table)) :
    FnOk P w K mg base (L2.CX P w) 5 a fd ["table", "place", "target"] (SpF K ca F_way) := by
  refine SM.Fn.ofF F sc_way rfl fun cdv A outer s H E hr => ?_
  have nd := sc_way.nd
  refine ⟨_, (pss_cons (ps_expr (pe_dx C_need_table (takes_of rfl rfl rfl rfl) hr (by decide) rfl (pa_cons (pv 0) pa_nil))) (pss_cons (ps_for (passes_of rfl) rfl (pi_seqU (K := K) (pe_tup (pa_cons (pv 1) (pa_cons (pv 2) pa_nil)))) (pg_name (i := 3) nd rfl (by first | exact Or.inl rfl | exact Or.inr rfl)) (pss_one (ps_if (PW.pt (pw_or (pt_not (pt_val (pe_dx C_is_place (takes_of rfl rfl rfl rfl) hr (by decide) rfl (pa_cons (pv 3) pa_nil)))) (pw_or1 (pt_cmpR (op_notInAll (K := K) (DL.room65 hr)) (pv 3) (pv 0) rfl)))) (pss_one (DL.ps_raiseC rfl (takes_of rfl rfl rfl rfl) (pmk_own PySem.F.excBase_ValueError T.e_NoPlace T.g_NoPlace T.k_NoPlace (raises_own T.b_NoPlace T.t_NoPlace) rfl))) pss_nil))) (pss_one (ps_ret (pe_dx C_led (takes_of rfl rfl rfl rfl) hr (by decide) rfl (pa_cons (pv 0) (pa_cons (pv 1) (pa_cons (pv 2) pa_nil)))))))), ?_⟩
  exact (ss_seq (ss_drop (se_call (sa_cons se_var sa_nil))) (ss_seq (ss_for (sw_seq (se_tup (sa_cons se_var (sa_cons se_var sa_nil)))) sg_name (ss_if (st_or (st_not (st_b (se_call (sa_cons se_var sa_nil)))) (st_test (se_op os_notin se_var se_var))) (ss_raise rfl) ss_next)) (ss_ret (se_call (sa_cons se_var (sa_cons se_var (sa_cons se_var sa_nil)))))))
abbrev s_l_right : Stmt := topS 24
abbrev N_l_right : List Str := ["_law_table_here", "_law_is_tree", "_law_due_here", "_law_turn", "_law_found", "_law_target", "_law_place"]
theorem sc_l_right : FnScope N_l_right ["_law_table_here", "_law_is_tree"] (defScope s_l_right) := ⟨rfl, rfl, rfl, by decide +kernel, rfl, by decide +kernel, by decide +kernel⟩
theorem ok_l_right {P : Program} {w : World} {K : PySem.W.Frag} {mg : Str → Option Value} {base : Heap} {a : Addr} {fd : FuncData} {ca : CaT} (T : Txt K mg ca) (F : Fun K "_law_right" "_law_right" s_l_right a fd) (C_l_due : Dx P w K mg base 3 "_law_due" (SpF K ca F_l_due)) (C_ring : Dx P w K mg base 5 "ring" (SpF K ca F_ring)) (C_way : Dx P w K mg base 5 "way" (SpF K ca F_way)) :
    FnOk P w K mg base (L2.CX P w) 6 a fd ["_law_table_here", "_law_is_tree"] (SpF K ca F_l_right) := by
  refine SM.Fn.ofF F sc_l_right rfl fun cdv A outer s H E hr => ?_
  have nd := sc_l_right.nd
  refine ⟨_, (pss_cons (ps_set (i := 2) nd rfl (by first | exact Or.inl rfl | exact Or.inr rfl) (pe_dx C_l_due (takes_of rfl rfl rfl rfl) hr (by decide) rfl (pa_cons (pv 0) pa_nil))) (pss_cons (ps_if (PW.pt (pw_and (pt_val (pv 1)) (pw_and1 (pt_cmpR op_notU (pv 2) pe_non (nomark _))))) (pss_one (ps_ret pe_bl)) pss_nil) (pss_cons (ps_for (passes_of rfl) rfl (pi_range1 rfl T.b_range (pa_cons pe_int pa_nil)) (pg_name (i := 3) nd rfl (by first | exact Or.inl rfl | exact Or.inr rfl)) (pss_cons (ps_set (i := 4) nd rfl (by first | exact Or.inl rfl | exact Or.inr rfl) (pe_dx C_ring (takes_of rfl rfl rfl rfl) hr (by decide) rfl (pa_cons (pv 0) pa_nil))) (pss_one (ps_if (pt_cmpR op_isU (pv 2) pe_non (nomark _)) (pss_one (ps_if (pt_cmpR op_notU (pv 4) pe_non (nomark _)) (pss_one (ps_ret pe_bl)) pss_nil)) (pss_one (ps_if (PW.pt (pw_or (pt_not (pt_val (pe_callB (call_isiA (K := K)) (by rfl) T.b_isinstance (by decide +kernel) (pa_cons (pv 4) (pa_cons (pe_bltn (v := .ty "tuple") (by rfl) T.b_tuple (by decide +kernel) rfl) pa_nil))))) (pw_or (pt_not (pt_val (pe_callB (call_isiA (K := K)) (by rfl) T.b_isinstance (by decide +kernel) (pa_cons (pe_ix (ix_U (K := K)) (pv 4) pe_int (fun _ _ => rfl)) (pa_cons (pe_bltn (v := .ty "list") (by rfl) T.b_list (by decide +kernel) rfl) pa_nil))))) (pw_or1 (pt_cmpR (op_nePK (K := K) (DL.room65 hr)) (pv 4) (pv 2) (nomark _)))))) (pss_one (ps_ret pe_bl)) (pss_one (ps_expr (pe_bm PySem.F.plainAttrs_list PySem.F.slot_list_append PySem.F.type_list_append mt_append (pe_ix (ix_U (K := K)) (pv 4) pe_int (fun _ _ => rfl)) (pa_cons (pe_ix (ix_U (K := K)) (pv 4) pe_int (fun _ _ => rfl)) pa_nil)))))))))) (pss_cons (ps_if (pt_cmpR op_notU (pv 2) pe_non (nomark _)) (pss_one (ps_ret (pe_cmpR (op_eqPK (K := K) (DL.room65 hr)) (pe_dx C_way (takes_of rfl rfl rfl rfl) hr (by decide) rfl (pa_cons (pv 0) (pa_cons (pe_ix (ix_U (K := K)) (pe_ix (ix_U (K := K)) (pv 2) pe_int (fun _ _ => rfl)) pe_int (fun _ _ => rfl)) (pa_cons (pe_ix (ix_U (K := K)) (pv 2) pe_int (fun _ _ => rfl)) pa_nil)))) (pe_tup (pa_cons pe_str (pa_cons (pe_ix (ix_U (K := K)) (pv 2) pe_int (fun _ _ => rfl)) pa_nil))) (nomark _)))) pss_nil) (pss_cons (ps_lockN (ps_for (passes_of rfl) rfl (pi_keys (pv 0)) (pg_name (i := 5) nd rfl (by first | exact Or.inl rfl | exact Or.inr rfl)) (pss_one (ps_if (pt_cmpR (op_nePK (K := K) (DL.room65 hr)) (pe_lockN (pe_lc (own := [("_law_place", 6)]) (g := (gName 6)) rfl nd (pi_keys (pv 0)) (blkOk_by (own := [("_law_place", 6)]) (N := N_l_right) (sc := defScope s_l_right) (by decide +kernel)) (fun _ _ _ _ _ => (pg_name (i := 6) nd rfl (by first | exact Or.inl rfl | exact Or.inr rfl))) (fun _ _ _ _ _ => (pts_one (pt_val (pe_callB (call_isiA (K := K)) (by rfl) T.b_isinstance (by decide +kernel) (pa_cons (pe_dx0 C_way hr (by decide) rfl (pa_cons (pv 0) (pa_cons (pv 6) (pa_cons (pv 5) pa_nil)))) (pa_cons (pe_bltn (v := .ty "tuple") (by rfl) T.b_tuple (by decide +kernel) rfl) pa_nil)))))) (fun _ _ _ _ _ => (pv 6)))) (pe_lst pa_nil) (nomark _)) (pss_one (ps_ret pe_bl)) pss_nil)))) (pss_one (ps_ret pe_bl))))))), ?_⟩
  exact (ss_seq (ss_set (se_call (sa_cons se_var sa_nil))) (ss_seq (ss_if (st_and (st_b se_var) (st_test (se_op os_isnot se_var se_non))) (ss_ret se_bl) ss_next) (ss_seq (ss_for (sw_r1 (sa_cons se_int sa_nil)) sg_name (ss_seq (ss_set (se_call (sa_cons se_var sa_nil))) (ss_if (st_test (se_op os_is se_var se_non)) (ss_if (st_test (se_op os_isnot se_var se_non)) (ss_ret se_bl) ss_next) (ss_if (st_or (st_not (st_b (se_cb (cs_isi T.isO T.isX T.isT) (sa_cons se_var (sa_cons se_ty sa_nil))))) (st_or (st_not (st_b (se_cb (cs_isi T.isO T.isX T.isT) (sa_cons (se_op os_ix se_var se_int) (sa_cons se_ty sa_nil))))) (st_test (se_op os_ne se_var se_var)))) (ss_ret se_bl) (ss_drop (se_bl_ ms_append (se_op os_ix se_var se_int) (sa_cons (se_op os_ix se_var se_int) sa_nil))))))) (ss_seq (ss_if (st_test (se_op os_isnot se_var se_non)) (ss_ret (se_op os_eq (se_call (sa_cons se_var (sa_cons (se_op os_ix (se_op os_ix se_var se_int) se_int) (sa_cons (se_op os_ix se_var se_int) sa_nil)))) (se_tup (sa_cons (se_strS (by decide +kernel)) (sa_cons (se_op os_ix se_var se_int) sa_nil))))) ss_next) (ss_seq (ss_lkN (ss_for (sw_keys se_var) sg_name (ss_if (st_test (se_op os_ne (se_lkN (se_lc (W2 := fun _ _ _ _ => False) (sw_keys se_var) sg_name (by decide) (st_b (se_cb (cs_isi T.isO T.isX T.isT) (sa_cons (se_call0 (sa_cons se_var (sa_cons se_var (sa_cons se_var sa_nil)))) (sa_cons se_ty sa_nil)))) se_var)) (se_lst sa_nil))) (ss_ret se_bl) ss_next))) (ss_ret se_bl))))))
abbrev s_l_state : Stmt := topS 15
abbrev N_l_state : List Str := ["_law_cell", "_law_k", "_law_seed"]
theorem sc_l_state : FnScope N_l_state ["_law_cell", "_law_k"] (defScope s_l_state) := ⟨rfl, rfl, rfl, by decide +kernel, rfl, by decide +kernel, by decide +kernel⟩
theorem ok_l_state {P : Program} {w : World} {K : PySem.W.Frag} {mg : Str → Option Value} {base : Heap} {a : Addr} {fd : FuncData} {ca : CaT} (T : Txt K mg ca) (F : Fun K "_law_state" "_law_state" s_l_state a fd)  :
    FnOk P w K mg base (L2.CX P w) 1 a fd ["_law_cell", "_law_k"] (SpF K ca F_l_state) := by
  refine SM.Fn.ofF F sc_l_state rfl fun cdv A outer s H E hr => ?_
  have nd := sc_l_state.nd
  refine ⟨_, (pss_cons (ps_set (i := 2) nd rfl (by first | exact Or.inl rfl | exact Or.inr rfl) (pe_op op_modU (pe_op (op_mulA (K := K)) (pe_op (op_addU (K := K)) (pe_op (op_addU (K := K)) (pv 0) (pe_op (op_mulA (K := K)) pe_int (pv 1))) pe_int) pe_int) pe_int)) (pss_cons (ps_if (pt_cmpR op_geU (pv 0) (pe_op op_powU pe_int pe_int) (nomark _)) (pss_one (ps_ret (pe_lst (pa_cons (pv 0) (pa_cons pe_int (pa_cons (pv 2) pa_nil)))))) pss_nil) (pss_one (ps_ret (pe_lst (pa_cons (pv 2) (pa_cons pe_int (pa_cons (pv 2) pa_nil)))))))), ?_⟩
  exact (ss_seq (ss_set (se_op os_mod (se_op os_mul (se_op os_add (se_op os_add se_var (se_op os_mul se_int se_var)) se_int) se_int) se_int)) (ss_seq (ss_if (st_test (se_op os_ge se_var (se_op os_pow se_int se_int))) (ss_ret (se_lst (sa_cons se_var (sa_cons se_int (sa_cons se_var sa_nil))))) ss_next) (ss_ret (se_lst (sa_cons se_var (sa_cons se_int (sa_cons se_var sa_nil)))))))
abbrev s_l_places : Stmt := topS 17
abbrev N_l_places : List Str := ["_law_state_here", "_law_many", "_law_found", "_law_off", "_law_k", "_law_place"]
theorem sc_l_places : FnScope N_l_places ["_law_state_here", "_law_many"] (defScope s_l_places) := ⟨rfl, rfl, rfl, by decide +kernel, rfl, by decide +kernel, by decide +kernel⟩
theorem ok_l_places {P : Program} {w : World} {K : PySem.W.Frag} {mg : Str → Option Value} {base : Heap} {a : Addr} {fd : FuncData} {ca : CaT} (T : Txt K mg ca) (F : Fun K "_law_places" "_law_places" s_l_places a fd) (C_l_next : Dx P w K mg base 1 "_law_next" (SpF K ca F_l_next)) :
    FnOk P w K mg base (L2.CX P w) 2 a fd ["_law_state_here", "_law_many"] (SpF K ca F_l_places) := by
  refine SM.Fn.ofF F sc_l_places rfl fun cdv A outer s H E hr => ?_
  have nd := sc_l_places.nd
  refine ⟨_, (pss_cons (ps_set (i := 2) nd rfl (by first | exact Or.inl rfl | exact Or.inr rfl) (pe_lst pa_nil)) (pss_cons (ps_set (i := 3) nd rfl (by first | exact Or.inl rfl | exact Or.inr rfl) (pe_dx C_l_next (takes_of rfl rfl rfl rfl) hr (by decide) rfl (pa_cons (pv 0) (pa_cons pe_int pa_nil)))) (pss_cons (ps_for (passes_of rfl) rfl (pi_range1 rfl T.b_range (pa_cons (pv 1) pa_nil)) (pg_name (i := 4) nd rfl (by first | exact Or.inl rfl | exact Or.inr rfl)) (pss_cons (ps_set (i := 5) nd rfl (by first | exact Or.inl rfl | exact Or.inr rfl) (pe_op op_modU (pe_ix (ix_U (K := K)) (pe_lst (pa_cons (pe_dx C_l_next (takes_of rfl rfl rfl rfl) hr (by decide) rfl (pa_cons (pv 0) (pa_cons pe_int pa_nil))) (pa_cons (pe_op (op_addU (K := K)) (pv 3) (pv 4)) (pa_cons (pe_op op_subU pe_int (pv 4)) pa_nil)))) (pe_dx C_l_next (takes_of rfl rfl rfl rfl) hr (by decide) rfl (pa_cons (pv 0) (pa_cons pe_int pa_nil))) (fun _ _ => rfl)) pe_int)) (pss_cons (ps_while (passes_of rfl) (pt_cmpR (op_inAll (K := K) (DL.room65 hr)) (pv 5) (pv 2) rfl) (pss_one (ps_set (i := 5) nd rfl (by first | exact Or.inl rfl | exact Or.inr rfl) (pe_op op_modU (pe_op (op_addU (K := K)) (pv 5) pe_int) pe_int)))) (pss_one (ps_expr (pe_bm PySem.F.plainAttrs_list PySem.F.slot_list_append PySem.F.type_list_append mt_append (pv 2) (pa_cons (pv 5) pa_nil))))))) (pss_one (ps_ret (pv 2)))))), ?_⟩
  exact (ss_seq (ss_set (se_lst sa_nil)) (ss_seq (ss_set (se_call (sa_cons se_var (sa_cons se_int sa_nil)))) (ss_seq (ss_for (sw_r1 (sa_cons se_var sa_nil)) sg_name (ss_seq (ss_set (se_op os_mod (se_op os_ix (se_lst (sa_cons (se_call (sa_cons se_var (sa_cons se_int sa_nil))) (sa_cons (se_op os_add se_var se_var) (sa_cons (se_op os_sub se_int se_var) sa_nil)))) (se_call (sa_cons se_var (sa_cons se_int sa_nil)))) se_int)) (ss_seq (ss_while (st_test (se_op os_in se_var se_var)) (ss_set (se_op os_mod (se_op os_add se_var se_int) se_int))) (ss_drop (se_bl_ ms_append se_var (sa_cons se_var sa_nil)))))) (ss_ret se_var))))
abbrev s_l_table : Stmt := topS 18
abbrev N_l_table : List Str := ["_law_state_here", "_law_most", "_law_places_here", "_law_lacks", "_law_table_here", "_law_place", "_law_others", "_law_one", "_law_target", "_law_neighbour"]
theorem sc_l_table : FnScope N_l_table ["_law_state_here", "_law_most"] (defScope s_l_table) := ⟨rfl, rfl, rfl, by decide +kernel, rfl, by decide +kernel, by decide +kernel⟩
theorem ok_l_table {P : Program} {w : World} {K : PySem.W.Frag} {mg : Str → Option Value} {base : Heap} {a : Addr} {fd : FuncData} {ca : CaT} (T : Txt K mg ca) (F : Fun K "_law_table" "_law_table" s_l_table a fd) (C_l_next : Dx P w K mg base 1 "_law_next" (SpF K ca F_l_next)) (C_l_places : Dx P w K mg base 2 "_law_places" (SpF K ca F_l_places)) :
    FnOk P w K mg base (L2.CX P w) 3 a fd ["_law_state_here", "_law_most"] (SpF K ca F_l_table) := by
  refine SM.Fn.ofF F sc_l_table rfl fun cdv A outer s H E hr => ?_
  have nd := sc_l_table.nd
  refine ⟨_, (pss_cons (ps_set (i := 2) nd rfl (by first | exact Or.inl rfl | exact Or.inr rfl) (pe_dx C_l_places (takes_of rfl rfl rfl rfl) hr (by decide) rfl (pa_cons (pv 0) (pa_cons (pe_op (op_addU (K := K)) pe_int (pe_dx C_l_next (takes_of rfl rfl rfl rfl) hr (by decide) rfl (pa_cons (pv 0) (pa_cons (pv 1) pa_nil)))) pa_nil)))) (pss_cons (ps_set (i := 3) nd rfl (by first | exact Or.inl rfl | exact Or.inr rfl) (pe_dx C_l_next (takes_of rfl rfl rfl rfl) hr (by decide) rfl (pa_cons (pv 0) (pa_cons pe_int pa_nil)))) (pss_cons (ps_set (i := 4) nd rfl (by first | exact Or.inl rfl | exact Or.inr rfl) pe_dnewK) (pss_cons (ps_for (passes_of rfl) rfl (pi_seqU (K := K) (pv 2)) (pg_name (i := 5) nd rfl (by first | exact Or.inl rfl | exact Or.inr rfl)) (pss_cons (ps_setLc (i := 6) (own := [("_law_one", 7)]) (g := (gName 7)) rfl nd rfl rfl (sw_true rfl rfl rfl (by decide +kernel)) (pi_seqU (K := K) (pv 2)) (blkOk_by (own := [("_law_one", 7)]) (N := N_l_table) (sc := defScope s_l_table) (by decide +kernel)) (fun _ _ _ _ _ => (pg_name (i := 7) nd rfl (by first | exact Or.inl rfl | exact Or.inr rfl))) (fun _ _ _ _ _ => (pts_one (pt_cmpR (op_nePK (K := K) (DL.room65 hr)) (pv 7) (pv 5) (nomark _)))) (fun _ _ _ _ _ => (pv 7))) (pss_cons (PS.or (ps_asg pe_dnewK (pg_sub (pv 4) (pv 5) set_list)) (ps_dput (DL.room65w hr) (pv 4) (pv 5) pe_dnewK rfl)) (pss_one (ps_for (passes_of rfl) rfl (pi_seqU (K := K) (pv 6)) (pg_name (i := 8) nd rfl (by first | exact Or.inl rfl | exact Or.inr rfl)) (pss_cons (ps_set (i := 9) nd rfl (by first | exact Or.inl rfl | exact Or.inr rfl) (pe_ix (ix_U (K := K)) (pv 6) (pe_dx C_l_next (takes_of rfl rfl rfl rfl) hr (by decide) rfl (pa_cons (pv 0) (pa_cons (pe_callB (call_lenL (K := K)) (by rfl) T.b_len (by decide +kernel) (pa_cons (pv 6) pa_nil)) pa_nil))) (fun _ _ => rfl))) (pss_one (ps_if (PW.pt (pw_or (pt_cmpR (op_eqPK (K := K) (DL.room65 hr)) (pv 3) pe_int (nomark _)) (pw_or1 (pt_cmpR op_gtU (pe_dx C_l_next (takes_of rfl rfl rfl rfl) hr (by decide) rfl (pa_cons (pv 0) (pa_cons (pe_op (op_addU (K := K)) pe_int (pe_op (op_mulA (K := K)) pe_int (pv 3))) pa_nil))) pe_int (nomark _))))) (pss_one (PS.or (ps_asg (pv 9) (pg_sub (pe_dgetO (DL.room65 hr) (pv 4) (pv 5) (fun _ _ => rfl)) (pv 8) set_list)) (ps_dput (DL.room65w hr) (pe_dgetO (DL.room65 hr) (pv 4) (pv 5) (fun _ _ => rfl)) (pv 8) (pv 9) rfl))) pss_nil)))))))) (pss_one (ps_ret (pv 4))))))), ?_⟩
  exact (ss_seq (ss_set (se_call (sa_cons se_var (sa_cons (se_op os_add se_int (se_call (sa_cons se_var (sa_cons se_var sa_nil)))) sa_nil)))) (ss_seq (ss_set (se_call (sa_cons se_var (sa_cons se_int sa_nil)))) (ss_seq (ss_set se_dnewK) (ss_seq (ss_for (sw_seq se_var) sg_name (ss_seq (ss_set (se_lc (W2 := fun _ _ _ _ => False) (sw_seq se_var) sg_name (by decide) (st_test (se_op os_ne se_var se_var)) se_var)) (ss_seq (ss_put se_var se_var se_dnewK) (ss_for (sw_seq se_var) sg_name (ss_seq (ss_set (se_op os_ix se_var (se_call (sa_cons se_var (sa_cons (se_cb cs_lenL (sa_cons se_var sa_nil)) sa_nil))))) (ss_if (st_or (st_test (se_op os_eq se_var se_int)) (st_test (se_op os_gt (se_call (sa_cons se_var (sa_cons (se_op os_add se_int (se_op os_mul se_int se_var)) sa_nil))) se_int))) (ss_put (se_op os_dget se_var se_var) se_var se_var) ss_next)))))) (ss_ret se_var)))))
abbrev s_l_tree : Stmt := topS 22
abbrev N_l_tree : List Str := ["_law_state_here", "_law_places_here", "_law_table_here", "_law_place", "_law_target", "_law_order"]
theorem sc_l_tree : FnScope N_l_tree ["_law_state_here", "_law_places_here"] (defScope s_l_tree) := ⟨rfl, rfl, rfl, by decide +kernel, rfl, by decide +kernel, by decide +kernel⟩
theorem ok_l_tree {P : Program} {w : World} {K : PySem.W.Frag} {mg : Str → Option Value} {base : Heap} {a : Addr} {fd : FuncData} {ca : CaT} (T : Txt K mg ca) (F : Fun K "_law_tree" "_law_tree" s_l_tree a fd) (C_l_next : Dx P w K mg base 1 "_law_next" (SpF K ca F_l_next)) :
    FnOk P w K mg base (L2.CX P w) 2 a fd ["_law_state_here", "_law_places_here"] (SpF K ca F_l_tree) := by
  refine SM.Fn.ofF F sc_l_tree rfl fun cdv A outer s H E hr => ?_
  have nd := sc_l_tree.nd
  refine ⟨_, (pss_cons (ps_set (i := 2) nd rfl (by first | exact Or.inl rfl | exact Or.inr rfl) (pe_callTy (call_dictA (K := K) rfl) (by rfl) T.b_dict (by decide +kernel) (pa_cons (pe_lc (own := [("_law_place", 3)]) (g := (gName 3)) rfl nd (pi_seqU (K := K) (pv 1)) (blkOk_by (own := [("_law_place", 3)]) (N := N_l_tree) (sc := defScope s_l_tree) (by decide +kernel)) (fun _ _ _ _ _ => (pg_name (i := 3) nd rfl (by first | exact Or.inl rfl | exact Or.inr rfl))) (fun _ _ _ _ _ => pts_nil) (fun _ _ _ _ _ => (pe_tup (pa_cons (pv 3) (pa_cons pe_dnewK pa_nil))))) pa_nil))) (pss_cons (ps_for (passes_of rfl) rfl (pi_seqU (K := K) (pv 1)) (pg_name (i := 4) nd rfl (by first | exact Or.inl rfl | exact Or.inr rfl)) (pss_cons (ps_set (i := 5) nd rfl (by first | exact Or.inl rfl | exact Or.inr rfl) (pe_lst (pa_cons (pv 4) pa_nil))) (pss_one (ps_for (passes_of rfl) rfl (pi_seqU (K := K) (pv 1)) (pg_name (i := 3) nd rfl (by first | exact Or.inl rfl | exact Or.inr rfl)) (pss_one (ps_if (pt_cmpR (op_nePK (K := K) (DL.room65 hr)) (pv 3) (pv 4) (nomark _)) (pss_cons (ps_if (pt_cmpR op_gtU (pe_dx C_l_next (takes_of rfl rfl rfl rfl) hr (by decide) rfl (pa_cons (pv 0) (pa_cons pe_int pa_nil))) pe_int (nomark _)) (pss_one (PS.or (ps_asg (pe_ix (ix_U (K := K)) (pv 5) (pe_dx C_l_next (takes_of rfl rfl rfl rfl) hr (by decide) rfl (pa_cons (pv 0) (pa_cons (pe_callB (call_lenL (K := K)) (by rfl) T.b_len (by decide +kernel) (pa_cons (pv 5) pa_nil)) pa_nil))) (fun _ _ => rfl)) (pg_sub (pe_dgetO (DL.room65 hr) (pv 2) (pv 3) (fun _ _ => rfl)) (pv 4) set_list)) (ps_dput (DL.room65w hr) (pe_dgetO (DL.room65 hr) (pv 2) (pv 3) (fun _ _ => rfl)) (pv 4) (pe_ix (ix_U (K := K)) (pv 5) (pe_dx C_l_next (takes_of rfl rfl rfl rfl) hr (by decide) rfl (pa_cons (pv 0) (pa_cons (pe_callB (call_lenL (K := K)) (by rfl) T.b_len (by decide +kernel) (pa_cons (pv 5) pa_nil)) pa_nil))) (fun _ _ => rfl)) rfl))) pss_nil) (pss_one (ps_expr (pe_bm PySem.F.plainAttrs_list PySem.F.slot_list_append PySem.F.type_list_append mt_append (pv 5) (pa_cons (pv 3) pa_nil))))) pss_nil)))))) (pss_one (ps_ret (pv 2))))), ?_⟩
  exact (ss_seq (ss_set (se_cb cs_dict (sa_cons (se_lc (W2 := fun _ _ _ _ => False) (sw_seq se_var) sg_name (by decide) st_yes (se_tup (sa_cons se_var (sa_cons se_dnewK sa_nil)))) sa_nil))) (ss_seq (ss_for (sw_seq se_var) sg_name (ss_seq (ss_set (se_lst (sa_cons se_var sa_nil))) (ss_for (sw_seq se_var) sg_name (ss_if (st_test (se_op os_ne se_var se_var)) (ss_seq (ss_if (st_test (se_op os_gt (se_call (sa_cons se_var (sa_cons se_int sa_nil))) se_int)) (ss_put (se_op os_dget se_var se_var) se_var (se_op os_ix se_var (se_call (sa_cons se_var (sa_cons (se_cb cs_lenL (sa_cons se_var sa_nil)) sa_nil))))) ss_next) (ss_drop (se_bl_ ms_append se_var (sa_cons se_var sa_nil)))) ss_next)))) (ss_ret se_var)))
abbrev s_law : Stmt := topS 25
abbrev N_law : List Str := ["_law_script", "_law_k", "_law_cell", "_law_state_here", "_law_many", "_law_is_tree", "_law_table_here", "_law_handed"]
theorem sc_law : FnScope N_law ["_law_script"] (defScope s_law) := ⟨rfl, rfl, rfl, by decide +kernel, rfl, by decide +kernel, by decide +kernel⟩
theorem ok_law {P : Program} {w : World} {K : PySem.W.Frag} {mg : Str → Option Value} {base : Heap} {a : Addr} {fd : FuncData} {ca : CaT} (T : Txt K mg ca) (F : Fun K "law" "law" s_law a fd) (C_l_copy : Dx P w K mg base 1 "_law_copy" (SpF K ca F_l_copy)) (C_l_next : Dx P w K mg base 1 "_law_next" (SpF K ca F_l_next)) (C_l_right : Dx P w K mg base 6 "_law_right" (SpF K ca F_l_right)) (C_l_state : Dx P w K mg base 1 "_law_state" (SpF K ca F_l_state)) (C_l_table : Dx P w K mg base 3 "_law_table" (SpF K ca F_l_table)) (C_l_tree : Dx P w K mg base 2 "_law_tree" (SpF K ca F_l_tree)) :
    FnOk P w K mg base CX0 7 a fd ["_law_script"] (SpF K ca F_law) := by
  refine SM.Fn.ofF0 F sc_law rfl fun cdv A outer s H E hr => ?_
  have nd := sc_law.nd
  refine ⟨_, (pss_cons (ps_for PassesOwn.never rfl (pi_enumA (by rfl) T.b_enumerate (pa_cons (pe_orT (pe_slice (sl_U (K := K)) (pv 0) po_none (po_some pe_int)) (pe_one (pe_lst (pa_cons pe_int pa_nil)))) pa_nil)) (pg_tup rfl (pgs_cons (pg_name (i := 1) nd rfl (by first | exact Or.inl rfl | exact Or.inr rfl)) (pgs_cons (pg_name (i := 2) nd rfl (by first | exact Or.inl rfl | exact Or.inr rfl)) pgs_nil))) (pss_cons (ps_set (i := 3) nd rfl (by first | exact Or.inl rfl | exact Or.inr rfl) (pe_dx0 C_l_state hr (by decide) rfl (pa_cons (pv 2) (pa_cons (pv 1) pa_nil)))) (pss_cons (ps_set (i := 4) nd rfl (by first | exact Or.inl rfl | exact Or.inr rfl) (pe_ix (ix_U (K := K)) (pe_lst (pa_cons pe_int (pa_cons pe_int pa_nil))) (pe_callTy call_intU (by rfl) T.b_int (by decide +kernel) (pa_cons (pe_cmpR (op_eqPK (K := K) (DL.room65 hr)) (pe_dx0 C_l_next hr (by decide) rfl (pa_cons (pv 3) (pa_cons pe_int pa_nil))) pe_int (nomark _)) pa_nil)) (fun _ _ => rfl))) (pss_cons (ps_set (i := 5) nd rfl (by first | exact Or.inl rfl | exact Or.inr rfl) (pe_cmpR (op_eqPK (K := K) (DL.room65 hr)) (pe_dx0 C_l_next hr (by decide) rfl (pa_cons (pv 3) (pa_cons pe_int pa_nil))) pe_int (nomark _))) (pss_cons (ps_set (i := 6) nd rfl (by first | exact Or.inl rfl | exact Or.inr rfl) (pe_dx0 C_l_table hr (by decide) rfl (pa_cons (pv 3) (pa_cons (pv 4) pa_nil)))) (pss_cons (ps_if (pt_val (pv 5)) (pss_one (ps_set (i := 6) nd rfl (by first | exact Or.inl rfl | exact Or.inr rfl) (pe_dx0 C_l_tree hr (by decide) rfl (pa_cons (pv 3) (pa_cons (pe_callTy (L2.call_list_dK rfl) (by rfl) T.b_list (by decide +kernel) (pa_cons (pv 6) pa_nil)) pa_nil))))) pss_nil) (pss_cons (ps_set (i := 7) nd rfl (by first | exact Or.inl rfl | exact Or.inr rfl) (pe_dx0 C_l_copy hr (by decide) rfl (pa_cons (pv 6) pa_nil))) (pss_one (ps_if (PW.pt (pw_or (pt_not (pt_val (pe_dx0 C_l_right hr (by decide) rfl (pa_cons (pv 7) (pa_cons (pv 5) pa_nil))))) (pw_or1 (pt_cmpR (L2.op_neDD (DL.room65 hr)) (pv 7) (pv 6) (nomark _))))) (pss_one (ps_ret pe_bl)) pss_nil))))))))) (pss_one (ps_ret pe_bl))), ?_⟩
  exact (ss_seq (ss_for (sw_enumA (se_orL (se_sl sls_all se_var so_none (so_some se_int)) (se_lst (sa_cons se_int sa_nil)))) (sg_tup (sgs_cons sg_name (sgs_cons sg_name sgs_nil)) rfl) (ss_seq (ss_set (se_call0 (sa_cons se_var (sa_cons se_var sa_nil)))) (ss_seq (ss_set (se_op os_ix (se_lst (sa_cons se_int (sa_cons se_int sa_nil))) (se_cb cs_int (sa_cons (se_op os_eq (se_call0 (sa_cons se_var (sa_cons se_int sa_nil))) se_int) sa_nil)))) (ss_seq (ss_set (se_op os_eq (se_call0 (sa_cons se_var (sa_cons se_int sa_nil))) se_int)) (ss_seq (ss_set (se_call0 (sa_cons se_var (sa_cons se_var sa_nil)))) (ss_seq (ss_if (st_b se_var) (ss_set (se_call0 (sa_cons se_var (sa_cons (se_cb cs_listK (sa_cons se_var sa_nil)) sa_nil)))) ss_next) (ss_seq (ss_set (se_call0 (sa_cons se_var sa_nil))) (ss_if (st_or (st_not (st_b (se_call0 (sa_cons se_var (sa_cons se_var sa_nil))))) (st_test (se_op os_neDD se_var se_var))) (ss_ret se_bl) ss_next)))))))) (ss_ret se_bl))
def spLaw (K : PySem.W.Frag) : Sp := fun vs H Q _ => ∃ (a : Addr) (ns : List Int), vs = [.ref a] ∧ SqL K H a (ns.map V.int) ∧ ns.length ≤ 63 ∧ ∀ H1, Q (.bl true) H1
theorem law_imp {K : PySem.W.Frag} {ca : CaT} (hT : ca.T = []) : ∀ (vs : List V) (H : Hp) (Q : VK) (E : XK), spLaw K vs H Q E → SpF K ca F_law vs H Q E := fun vs H Q E ⟨a, ns, e, h, hl, k⟩ => by
  subst e
  obtain ⟨A, hA⟩ := law_true ns hl
  refine ⟨SM.noT H, [], [], [.scr (ns.map D.int)], Rl.start (by rw [hT]; simp), .cons (.scr (SM.SqL.noT h) RepL.of_ints) .nil, ?_⟩
  rw [hA]
  intro v F' m' H' _ _ r
  cases r
  exact k H'
theorem all_mk {l : PySem.W.OpenLaw} {w : World} {K : PySem.W.Frag} {h : Heap} {mg : Str → Option Value} {fa f0 f1 f2 f3 f4 f5 f6 f7 f8 f9 f10 f11 f12 f13 f14 f15 f16 f17 : Addr} (X : K.In h) (G : h.Ns mainGlobals mg) (hfa : mg "law" = some (.ref fa))
    {od0 an0 od1 an1 od2 an2 od3 an3 od4 an4 od5 an5 od6 an6 od7 an7 od8 an8 od9 an9 od10 an10 od11 an11 od12 an12 od13 an13 od14 an14 od15 an15 od16 an16 od17 an17 : Option Addr} {sl0 sl1 sl2 sl3 sl4 sl5 sl6 sl7 sl8 sl9 sl10 sl11 sl12 sl13 sl14 sl15 sl16 sl17 : Array (Option Value)} {oc0 kV0 dc0 pm0 cd0 ct0 oc1 kV1 dc1 pm1 cd1 ct1 oc2 kV2 dc2 pm2 cd2 ct2 oc3 kV3 dc3 pm3 cd3 ct3 oc4 kV4 dc4 pm4 cd4 ct4 oc5 kV5 dc5 pm5 cd5 ct5 oc6 kV6 dc6 pm6 cd6 ct6 oc7 kV7 dc7 pm7 cd7 ct7 oc8 kV8 dc8 pm8 cd8 ct8 oc9 kV9 dc9 pm9 cd9 ct9 oc10 kV10 dc10 pm10 cd10 ct10 oc11 kV11 dc11 pm11 cd11 ct11 oc12 kV12 dc12 pm12 cd12 ct12 oc13 kV13 dc13 pm13 cd13 ct13 oc14 kV14 dc14 pm14 cd14 ct14 oc15 kV15 dc15 pm15 cd15 ct15 oc16 kV16 dc16 pm16 cd16 ct16 oc17 kV17 dc17 pm17 cd17 ct17 : Value}
    {ca_NoPlace : Addr} (g_NoPlace : PySem.W.nsIn K mainGlobals "NoPlace" = some (some (.ref ca_NoPlace))) {ca_NoTable : Addr} (g_NoTable : PySem.W.nsIn K mainGlobals "NoTable" = some (some (.ref ca_NoTable)))
    (a0 : PySem.W.nsIn K mainGlobals "_law_copy" = some (some (.ref f0))) (l0 : K.lookup f0 = some ⟨oc0, od0, .func (PySem.W.fnOf "_law_copy" "_law_copy" (defArgs s_l_copy) (defBody s_l_copy) (defScope s_l_copy) .none kV0 dc0 pm0 an0 cd0 ct0), sl0⟩) (c0 : PySem.W.codeIn K cd0 "_law_copy" = true) (k0 : PySem.W.keepIn K (.ref f0) = true)
    (a1 : PySem.W.nsIn K mainGlobals "_law_next" = some (some (.ref f1))) (l1 : K.lookup f1 = some ⟨oc1, od1, .func (PySem.W.fnOf "_law_next" "_law_next" (defArgs s_l_next) (defBody s_l_next) (defScope s_l_next) .none kV1 dc1 pm1 an1 cd1 ct1), sl1⟩) (c1 : PySem.W.codeIn K cd1 "_law_next" = true) (k1 : PySem.W.keepIn K (.ref f1) = true)
    (a2 : PySem.W.nsIn K mainGlobals "_law_walked" = some (some (.ref f2))) (l2 : K.lookup f2 = some ⟨oc2, od2, .func (PySem.W.fnOf "_law_walked" "_law_walked" (defArgs s_l_walked) (defBody s_l_walked) (defScope s_l_walked) .none kV2 dc2 pm2 an2 cd2 ct2), sl2⟩) (c2 : PySem.W.codeIn K cd2 "_law_walked" = true) (k2 : PySem.W.keepIn K (.ref f2) = true)
    (a3 : PySem.W.nsIn K mainGlobals "_law_way" = some (some (.ref f3))) (l3 : K.lookup f3 = some ⟨oc3, od3, .func (PySem.W.fnOf "_law_way" "_law_way" (defArgs s_l_way) (defBody s_l_way) (defScope s_l_way) .none kV3 dc3 pm3 an3 cd3 ct3), sl3⟩) (c3 : PySem.W.codeIn K cd3 "_law_way" = true) (k3 : PySem.W.keepIn K (.ref f3) = true)
    (a4 : PySem.W.nsIn K mainGlobals "_law_due" = some (some (.ref f4))) (l4 : K.lookup f4 = some ⟨oc4, od4, .func (PySem.W.fnOf "_law_due" "_law_due" (defArgs s_l_due) (defBody s_l_due) (defScope s_l_due) .none kV4 dc4 pm4 an4 cd4 ct4), sl4⟩) (c4 : PySem.W.codeIn K cd4 "_law_due" = true) (k4 : PySem.W.keepIn K (.ref f4) = true)
    (a5 : PySem.W.nsIn K mainGlobals "led" = some (some (.ref f5))) (l5 : K.lookup f5 = some ⟨oc5, od5, .func (PySem.W.fnOf "led" "led" (defArgs s_led) (defBody s_led) (defScope s_led) .none kV5 dc5 pm5 an5 cd5 ct5), sl5⟩) (c5 : PySem.W.codeIn K cd5 "led" = true) (k5 : PySem.W.keepIn K (.ref f5) = true)
    (a6 : PySem.W.nsIn K mainGlobals "is_place" = some (some (.ref f6))) (l6 : K.lookup f6 = some ⟨oc6, od6, .func (PySem.W.fnOf "is_place" "is_place" (defArgs s_is_place) (defBody s_is_place) (defScope s_is_place) .none kV6 dc6 pm6 an6 cd6 ct6), sl6⟩) (c6 : PySem.W.codeIn K cd6 "is_place" = true) (k6 : PySem.W.keepIn K (.ref f6) = true)
    (a7 : PySem.W.nsIn K mainGlobals "is_other" = some (some (.ref f7))) (l7 : K.lookup f7 = some ⟨oc7, od7, .func (PySem.W.fnOf "is_other" "is_other" (defArgs s_is_other) (defBody s_is_other) (defScope s_is_other) .none kV7 dc7 pm7 an7 cd7 ct7), sl7⟩) (c7 : PySem.W.codeIn K cd7 "is_other" = true) (k7 : PySem.W.keepIn K (.ref f7) = true)
    (a8 : PySem.W.nsIn K mainGlobals "are_ways" = some (some (.ref f8))) (l8 : K.lookup f8 = some ⟨oc8, od8, .func (PySem.W.fnOf "are_ways" "are_ways" (defArgs s_are_ways) (defBody s_are_ways) (defScope s_are_ways) .none kV8 dc8 pm8 an8 cd8 ct8), sl8⟩) (c8 : PySem.W.codeIn K cd8 "are_ways" = true) (k8 : PySem.W.keepIn K (.ref f8) = true)
    (a9 : PySem.W.nsIn K mainGlobals "need_table" = some (some (.ref f9))) (l9 : K.lookup f9 = some ⟨oc9, od9, .func (PySem.W.fnOf "need_table" "need_table" (defArgs s_need_table) (defBody s_need_table) (defScope s_need_table) .none kV9 dc9 pm9 an9 cd9 ct9), sl9⟩) (c9 : PySem.W.codeIn K cd9 "need_table" = true) (k9 : PySem.W.keepIn K (.ref f9) = true)
    (a10 : PySem.W.nsIn K mainGlobals "ring" = some (some (.ref f10))) (l10 : K.lookup f10 = some ⟨oc10, od10, .func (PySem.W.fnOf "ring" "ring" (defArgs s_ring) (defBody s_ring) (defScope s_ring) .none kV10 dc10 pm10 an10 cd10 ct10), sl10⟩) (c10 : PySem.W.codeIn K cd10 "ring" = true) (k10 : PySem.W.keepIn K (.ref f10) = true)
    (a11 : PySem.W.nsIn K mainGlobals "way" = some (some (.ref f11))) (l11 : K.lookup f11 = some ⟨oc11, od11, .func (PySem.W.fnOf "way" "way" (defArgs s_way) (defBody s_way) (defScope s_way) .none kV11 dc11 pm11 an11 cd11 ct11), sl11⟩) (c11 : PySem.W.codeIn K cd11 "way" = true) (k11 : PySem.W.keepIn K (.ref f11) = true)
    (a12 : PySem.W.nsIn K mainGlobals "_law_right" = some (some (.ref f12))) (l12 : K.lookup f12 = some ⟨oc12, od12, .func (PySem.W.fnOf "_law_right" "_law_right" (defArgs s_l_right) (defBody s_l_right) (defScope s_l_right) .none kV12 dc12 pm12 an12 cd12 ct12), sl12⟩) (c12 : PySem.W.codeIn K cd12 "_law_right" = true) (k12 : PySem.W.keepIn K (.ref f12) = true)
    (a13 : PySem.W.nsIn K mainGlobals "_law_state" = some (some (.ref f13))) (l13 : K.lookup f13 = some ⟨oc13, od13, .func (PySem.W.fnOf "_law_state" "_law_state" (defArgs s_l_state) (defBody s_l_state) (defScope s_l_state) .none kV13 dc13 pm13 an13 cd13 ct13), sl13⟩) (c13 : PySem.W.codeIn K cd13 "_law_state" = true) (k13 : PySem.W.keepIn K (.ref f13) = true)
    (a14 : PySem.W.nsIn K mainGlobals "_law_places" = some (some (.ref f14))) (l14 : K.lookup f14 = some ⟨oc14, od14, .func (PySem.W.fnOf "_law_places" "_law_places" (defArgs s_l_places) (defBody s_l_places) (defScope s_l_places) .none kV14 dc14 pm14 an14 cd14 ct14), sl14⟩) (c14 : PySem.W.codeIn K cd14 "_law_places" = true) (k14 : PySem.W.keepIn K (.ref f14) = true)
    (a15 : PySem.W.nsIn K mainGlobals "_law_table" = some (some (.ref f15))) (l15 : K.lookup f15 = some ⟨oc15, od15, .func (PySem.W.fnOf "_law_table" "_law_table" (defArgs s_l_table) (defBody s_l_table) (defScope s_l_table) .none kV15 dc15 pm15 an15 cd15 ct15), sl15⟩) (c15 : PySem.W.codeIn K cd15 "_law_table" = true) (k15 : PySem.W.keepIn K (.ref f15) = true)
    (a16 : PySem.W.nsIn K mainGlobals "_law_tree" = some (some (.ref f16))) (l16 : K.lookup f16 = some ⟨oc16, od16, .func (PySem.W.fnOf "_law_tree" "_law_tree" (defArgs s_l_tree) (defBody s_l_tree) (defScope s_l_tree) .none kV16 dc16 pm16 an16 cd16 ct16), sl16⟩) (c16 : PySem.W.codeIn K cd16 "_law_tree" = true) (k16 : PySem.W.keepIn K (.ref f16) = true)
    (a17 : PySem.W.nsIn K mainGlobals "law" = some (some (.ref f17))) (l17 : K.lookup f17 = some ⟨oc17, od17, .func (PySem.W.fnOf "law" "law" (defArgs s_law) (defBody s_law) (defScope s_law) .none kV17 dc17 pm17 an17 cd17 ct17), sl17⟩) (c17 : PySem.W.codeIn K cd17 "law" = true) (k17 : PySem.W.keepIn K (.ref f17) = true)
    (z_all : PySem.W.nsIn K mainGlobals "all" = some none) (z_bool : PySem.W.nsIn K mainGlobals "bool" = some none) (z_dict : PySem.W.nsIn K mainGlobals "dict" = some none) (z_enumerate : PySem.W.nsIn K mainGlobals "enumerate" = some none) (z_int : PySem.W.nsIn K mainGlobals "int" = some none) (z_isinstance : PySem.W.nsIn K mainGlobals "isinstance" = some none) (z_len : PySem.W.nsIn K mainGlobals "len" = some none) (z_list : PySem.W.nsIn K mainGlobals "list" = some none) (z_min : PySem.W.nsIn K mainGlobals "min" = some none) (z_range : PySem.W.nsIn K mainGlobals "range" = some none) (z_sorted : PySem.W.nsIn K mainGlobals "sorted" = some none) (z_tuple : PySem.W.nsIn K mainGlobals "tuple" = some none) {t_MOST_BYTE : Tok} (y_MOST_BYTE : PySem.W.nsIn K mainGlobals "MOST_BYTE" = some (some (.int 255 t_MOST_BYTE))) {t_MOST_PLACES : Tok} (y_MOST_PLACES : PySem.W.nsIn K mainGlobals "MOST_PLACES" = some (some (.int 12 t_MOST_PLACES))) (e_NoPlace : PySem.W.excIn K ca_NoPlace [.type "ValueError", .type "Exception", .type "BaseException", .type "object"] "ValueError.__new__" = true) (k_NoPlace : PySem.W.keepIn K (.ref ca_NoPlace) = true) (b_NoPlace : PySem.W.subIn K (.ref ca_NoPlace) (.type "BaseException") = some true) (t_NoPlace : PySem.W.typeIn K (.ref ca_NoPlace) = some (.type "type")) (e_NoTable : PySem.W.excIn K ca_NoTable [.type "ValueError", .type "Exception", .type "BaseException", .type "object"] "ValueError.__new__" = true) (k_NoTable : PySem.W.keepIn K (.ref ca_NoTable) = true) (b_NoTable : PySem.W.subIn K (.ref ca_NoTable) (.type "BaseException") = some true) (t_NoTable : PySem.W.typeIn K (.ref ca_NoTable) = some (.type "type")) (x_NoPlace : ExcC K ca_NoPlace) (x_NoTable : ExcC K ca_NoTable) (i_NoPlace_bool : PySem.W.kitOne K (.ref ca_NoPlace) (.type "bool") = some false) (i_NoPlace_dict : PySem.W.kitOne K (.ref ca_NoPlace) (.type "dict") = some false) (i_NoPlace_int : PySem.W.kitOne K (.ref ca_NoPlace) (.type "int") = some false) (i_NoPlace_list : PySem.W.kitOne K (.ref ca_NoPlace) (.type "list") = some false) (i_NoPlace_tuple : PySem.W.kitOne K (.ref ca_NoPlace) (.type "tuple") = some false) (i_NoTable_bool : PySem.W.kitOne K (.ref ca_NoTable) (.type "bool") = some false) (i_NoTable_dict : PySem.W.kitOne K (.ref ca_NoTable) (.type "dict") = some false) (i_NoTable_int : PySem.W.kitOne K (.ref ca_NoTable) (.type "int") = some false) (i_NoTable_list : PySem.W.kitOne K (.ref ca_NoTable) (.type "list") = some false) (i_NoTable_tuple : PySem.W.kitOne K (.ref ca_NoTable) (.type "tuple") = some false) :
    ∃ fd : FuncData, (∀ (s : Shared) (v : Value), BindsTo s fd ⟨[v], []⟩ [("_law_script", v)]) ∧ ∀ base : Heap, K.In base → base.Ns mainGlobals mg → FnOk l.prog w K mg base CX0 7 fa fd ["_law_script"] (spLaw K) := by
  have e := hfa.symm.trans (PySem.W.mg_of X G a17)
  cases e
  obtain ⟨ca, hT, q_NoPlace, q_NoTable⟩ : ∃ ca : CaT, ca.T = [] ∧ ca "NoPlace" = ca_NoPlace ∧ ca "NoTable" = ca_NoTable := ⟨⟨fun x => if x = "NoPlace" then ca_NoPlace else if x = "NoTable" then ca_NoTable else 0, []⟩, rfl, by simp, by simp⟩
  subst q_NoPlace q_NoTable
  have T : Txt K mg ca := ⟨PySem.W.mg_of X G g_NoPlace, PySem.W.mg_of X G g_NoTable, e_NoPlace, k_NoPlace, b_NoPlace, t_NoPlace, e_NoTable, k_NoTable, b_NoTable, t_NoTable, trivial, ⟨⟨x_NoPlace, by decide⟩, ⟨x_NoTable, by decide⟩, trivial⟩, (by unfold tb_; exact .cons (by simpa [vOf, btn] using i_NoPlace_bool) (.cons (by simpa [vOf, btn] using i_NoPlace_dict) (.cons (by simpa [vOf, btn] using i_NoPlace_int) (.cons (by simpa [vOf, btn] using i_NoPlace_list) (.cons (by simpa [vOf, btn] using i_NoPlace_tuple) (.cons (by simpa [vOf, btn] using i_NoTable_bool) (.cons (by simpa [vOf, btn] using i_NoTable_dict) (.cons (by simpa [vOf, btn] using i_NoTable_int) (.cons (by simpa [vOf, btn] using i_NoTable_list) (.cons (by simpa [vOf, btn] using i_NoTable_tuple) (.nil))))))))))), PySem.W.mg_none_of X G z_all, PySem.W.mg_none_of X G z_bool, PySem.W.mg_none_of X G z_dict, PySem.W.mg_none_of X G z_enumerate, PySem.W.mg_none_of X G z_int, PySem.W.mg_none_of X G z_isinstance, PySem.W.mg_none_of X G z_len, PySem.W.mg_none_of X G z_list, PySem.W.mg_none_of X G z_min, PySem.W.mg_none_of X G z_range, PySem.W.mg_none_of X G z_sorted, PySem.W.mg_none_of X G z_tuple, ⟨_, PySem.W.mg_of X G y_MOST_BYTE⟩, ⟨_, PySem.W.mg_of X G y_MOST_PLACES⟩, True.intro⟩
  have F0 := fun_mk (st := s_l_copy) l0 c0 k0
  have b0 := F0.binds (ps := ["_law_table_here"]) fun _ _ _ _ _ _ us hl => match us, hl with | [_], _ => rfl
  have F1 := fun_mk (st := s_l_next) l1 c1 k1
  have b1 := F1.binds (ps := ["_law_state_here", "_law_size"]) fun _ _ _ _ _ _ us hl => match us, hl with | [_, _], _ => rfl
  have F2 := fun_mk (st := s_l_walked) l2 c2 k2
  have b2 := F2.binds (ps := ["_law_table_here", "_law_place", "_law_target"]) fun _ _ _ _ _ _ us hl => match us, hl with | [_, _, _], _ => rfl
  have F3 := fun_mk (st := s_l_way) l3 c3 k3
  have b3 := F3.binds (ps := ["_law_table_here", "_law_place", "_law_target"]) fun _ _ _ _ _ _ us hl => match us, hl with | [_, _, _], _ => rfl
  have F4 := fun_mk (st := s_l_due) l4 c4 k4
  have b4 := F4.binds (ps := ["_law_table_here"]) fun _ _ _ _ _ _ us hl => match us, hl with | [_], _ => rfl
  have F5 := fun_mk (st := s_led) l5 c5 k5
  have b5 := F5.binds (ps := ["table", "place", "target"]) fun _ _ _ _ _ _ us hl => match us, hl with | [_, _, _], _ => rfl
  have F6 := fun_mk (st := s_is_place) l6 c6 k6
  have b6 := F6.binds (ps := ["thing"]) fun _ _ _ _ _ _ us hl => match us, hl with | [_], _ => rfl
  have F7 := fun_mk (st := s_is_other) l7 c7 k7
  have b7 := F7.binds (ps := ["thing", "place", "table"]) fun _ _ _ _ _ _ us hl => match us, hl with | [_, _, _], _ => rfl
  have F8 := fun_mk (st := s_are_ways) l8 c8 k8
  have b8 := F8.binds (ps := ["thing", "place", "table"]) fun _ _ _ _ _ _ us hl => match us, hl with | [_, _, _], _ => rfl
  have F9 := fun_mk (st := s_need_table) l9 c9 k9
  have b9 := F9.binds (ps := ["thing"]) fun _ _ _ _ _ _ us hl => match us, hl with | [_], _ => rfl
  have F10 := fun_mk (st := s_ring) l10 c10 k10
  have b10 := F10.binds (ps := ["table"]) fun _ _ _ _ _ _ us hl => match us, hl with | [_], _ => rfl
  have F11 := fun_mk (st := s_way) l11 c11 k11
  have b11 := F11.binds (ps := ["table", "place", "target"]) fun _ _ _ _ _ _ us hl => match us, hl with | [_, _, _], _ => rfl
  have F12 := fun_mk (st := s_l_right) l12 c12 k12
  have b12 := F12.binds (ps := ["_law_table_here", "_law_is_tree"]) fun _ _ _ _ _ _ us hl => match us, hl with | [_, _], _ => rfl
  have F13 := fun_mk (st := s_l_state) l13 c13 k13
  have b13 := F13.binds (ps := ["_law_cell", "_law_k"]) fun _ _ _ _ _ _ us hl => match us, hl with | [_, _], _ => rfl
  have F14 := fun_mk (st := s_l_places) l14 c14 k14
  have b14 := F14.binds (ps := ["_law_state_here", "_law_many"]) fun _ _ _ _ _ _ us hl => match us, hl with | [_, _], _ => rfl
  have F15 := fun_mk (st := s_l_table) l15 c15 k15
  have b15 := F15.binds (ps := ["_law_state_here", "_law_most"]) fun _ _ _ _ _ _ us hl => match us, hl with | [_, _], _ => rfl
  have F16 := fun_mk (st := s_l_tree) l16 c16 k16
  have b16 := F16.binds (ps := ["_law_state_here", "_law_places_here"]) fun _ _ _ _ _ _ us hl => match us, hl with | [_, _], _ => rfl
  have F17 := fun_mk (st := s_law) l17 c17 k17
  have b17 := F17.binds (ps := ["_law_script"]) fun _ _ _ _ _ _ us hl => match us, hl with | [_], _ => rfl
  refine ⟨PySem.W.fnOf "law" "law" (defArgs s_law) (defBody s_law) (defScope s_law) .none kV17 dc17 pm17 an17 cd17 ct17, fun s v => .of_eq rfl, fun base _ _ => ?_⟩
  have C_l_copy := Dx.of2 (ok_l_copy (P := l.prog) (w := w) (mg := mg) (base := base) T F0 ) F0 (PySem.W.mg_of X G a0) b0
  have C_l_next := Dx.of2 (ok_l_next (P := l.prog) (w := w) (mg := mg) (base := base) T F1 ) F1 (PySem.W.mg_of X G a1) b1
  have C_l_walked := Dx.of2 (ok_l_walked (P := l.prog) (w := w) (mg := mg) (base := base) T F2 ) F2 (PySem.W.mg_of X G a2) b2
  have C_l_way := Dx.of2 (ok_l_way (P := l.prog) (w := w) (mg := mg) (base := base) T F3 C_l_walked) F3 (PySem.W.mg_of X G a3) b3
  have C_l_due := Dx.of2 (ok_l_due (P := l.prog) (w := w) (mg := mg) (base := base) T F4 C_l_way) F4 (PySem.W.mg_of X G a4) b4
  have C_led := Dx.of2 (ok_led (P := l.prog) (w := w) (mg := mg) (base := base) T F5 ) F5 (PySem.W.mg_of X G a5) b5
  have C_is_place := Dx.of2 (ok_is_place (P := l.prog) (w := w) (mg := mg) (base := base) T F6 ) F6 (PySem.W.mg_of X G a6) b6
  have C_is_other := Dx.of2 (ok_is_other (P := l.prog) (w := w) (mg := mg) (base := base) T F7 C_is_place) F7 (PySem.W.mg_of X G a7) b7
  have C_are_ways := Dx.of2 (ok_are_ways (P := l.prog) (w := w) (mg := mg) (base := base) T F8 C_is_other) F8 (PySem.W.mg_of X G a8) b8
  have C_need_table := Dx.of2 (ok_need_table (P := l.prog) (w := w) (mg := mg) (base := base) T F9 C_are_ways C_is_place) F9 (PySem.W.mg_of X G a9) b9
  have C_ring := Dx.of2 (ok_ring (P := l.prog) (w := w) (mg := mg) (base := base) T F10 C_led C_need_table) F10 (PySem.W.mg_of X G a10) b10
  have C_way := Dx.of2 (ok_way (P := l.prog) (w := w) (mg := mg) (base := base) T F11 C_is_place C_led C_need_table) F11 (PySem.W.mg_of X G a11) b11
  have C_l_right := Dx.of2 (ok_l_right (P := l.prog) (w := w) (mg := mg) (base := base) T F12 C_l_due C_ring C_way) F12 (PySem.W.mg_of X G a12) b12
  have C_l_state := Dx.of2 (ok_l_state (P := l.prog) (w := w) (mg := mg) (base := base) T F13 ) F13 (PySem.W.mg_of X G a13) b13
  have C_l_places := Dx.of2 (ok_l_places (P := l.prog) (w := w) (mg := mg) (base := base) T F14 C_l_next) F14 (PySem.W.mg_of X G a14) b14
  have C_l_table := Dx.of2 (ok_l_table (P := l.prog) (w := w) (mg := mg) (base := base) T F15 C_l_next C_l_places) F15 (PySem.W.mg_of X G a15) b15
  have C_l_tree := Dx.of2 (ok_l_tree (P := l.prog) (w := w) (mg := mg) (base := base) T F16 C_l_next) F16 (PySem.W.mg_of X G a16) b16
  exact (ok_law T F17 C_l_copy C_l_next C_l_right C_l_state C_l_table C_l_tree).imp (law_imp hT)
theorem walk {l : PySem.W.OpenLaw} {q : Program} {loose : List Str} {XP : (Str → Option Value) → Heap → Prop} {YP : World → Heap → Prop} {d : DefRec} {K : Params → PySem.W.Frag} (hn : l.most = some 63) (hdf : d.params.defaults = [])
    (hY : ∀ (w : World) (h : Heap), YP w h → (K w.params).In h)
    (F : ∀ (w : World) (mg : Str → Option Value) (fa : Addr) (h : Heap), (K w.params).In h → h.Ns mainGlobals mg → mg d.name = some (.ref fa) →
      ∃ fd : FuncData, (∀ (s : Shared) (u : Value), BindsTo s fd ⟨[u], []⟩ [("_law_script", u)]) ∧ ∀ base : Heap, (K w.params).In base → base.Ns mainGlobals mg → FnOk l.prog w (K w.params) mg base CX0 7 fa fd ["_law_script"] (spLaw (K w.params))) :
    PySem.W.WalkO q loose XP YP l.row.toRowW d [] (fun f vs => PySem.call f vs) :=
  L2.walk_of (n := 63) (k := 7) (x := "_law_script") (CX := fun _ => CX0) (sp := fun w => spLaw (K w.params)) hn (by decide) hdf ⟨rfl, by decide, by decide⟩ hY F (fun _ _ a ns hl _ hS => ⟨a, ns, rfl, hS, hl, fun _ => rfl⟩) fun _ _ _ _ _ z => z
end Kk
open PySem PySem.W PyProof.Rows in
set_option maxRecDepth 100000 in
set_option maxHeartbeats 0 in
theorem PySem.Challenge.cw_surewire_k51_rings_of_tables_holds : PySem.Challenge.rw_surewire_k51_rings_of_tables.Holds := by
  w_on; o_law; k_head; (case hw => w_witness2)
  k_fill
  refine Kk.walk (l := PySem.Challenge.rw_surewire_k51_rings_of_tables) rfl rfl (fun w h Y => PySem.W.kIn_of Y) ?F
  case F =>
    intro w mg fa h KX G hmg
    refine' Kk.all_mk KX G hmg ?g_NoPlace ?g_NoTable ?a0 ?l0 ?c0 ?k0 ?a1 ?l1 ?c1 ?k1 ?a2 ?l2 ?c2 ?k2 ?a3 ?l3 ?c3 ?k3 ?a4 ?l4 ?c4 ?k4 ?a5 ?l5 ?c5 ?k5 ?a6 ?l6 ?c6 ?k6 ?a7 ?l7 ?c7 ?k7 ?a8 ?l8 ?c8 ?k8 ?a9 ?l9 ?c9 ?k9 ?a10 ?l10 ?c10 ?k10 ?a11 ?l11 ?c11 ?k11 ?a12 ?l12 ?c12 ?k12 ?a13 ?l13 ?c13 ?k13 ?a14 ?l14 ?c14 ?k14 ?a15 ?l15 ?c15 ?k15 ?a16 ?l16 ?c16 ?k16 ?a17 ?l17 ?c17 ?k17 ?z_all ?z_bool ?z_dict ?z_enumerate ?z_int ?z_isinstance ?z_len ?z_list ?z_min ?z_range ?z_sorted ?z_tuple ?y_MOST_BYTE ?y_MOST_PLACES ?e_NoPlace ?k_NoPlace ?b_NoPlace ?t_NoPlace ?e_NoTable ?k_NoTable ?b_NoTable ?t_NoTable ?x_NoPlace ?x_NoTable ?i_NoPlace_bool ?i_NoPlace_dict ?i_NoPlace_int ?i_NoPlace_list ?i_NoPlace_tuple ?i_NoTable_bool ?i_NoTable_dict ?i_NoTable_int ?i_NoTable_list ?i_NoTable_tuple
    (case g_NoPlace => k_is)
    (case g_NoTable => k_is)
    (case a0 => k_is)
    (case l0 => k_is)
    (case c0 => k_is)
    (case k0 => k_is)
    (case a1 => k_is)
    (case l1 => k_is)
    (case c1 => k_is)
    (case k1 => k_is)
    (case a2 => k_is)
    (case l2 => k_is)
    (case c2 => k_is)
    (case k2 => k_is)
    (case a3 => k_is)
    (case l3 => k_is)
    (case c3 => k_is)
    (case k3 => k_is)
    (case a4 => k_is)
    (case l4 => k_is)
    (case c4 => k_is)
    (case k4 => k_is)
    (case a5 => k_is)
    (case l5 => k_is)
    (case c5 => k_is)
    (case k5 => k_is)
    (case a6 => k_is)
    (case l6 => k_is)
    (case c6 => k_is)
    (case k6 => k_is)
    (case a7 => k_is)
    (case l7 => k_is)
    (case c7 => k_is)
    (case k7 => k_is)
    (case a8 => k_is)
    (case l8 => k_is)
    (case c8 => k_is)
    (case k8 => k_is)
    (case a9 => k_is)
    (case l9 => k_is)
    (case c9 => k_is)
    (case k9 => k_is)
    (case a10 => k_is)
    (case l10 => k_is)
    (case c10 => k_is)
    (case k10 => k_is)
    (case a11 => k_is)
    (case l11 => k_is)
    (case c11 => k_is)
    (case k11 => k_is)
    (case a12 => k_is)
    (case l12 => k_is)
    (case c12 => k_is)
    (case k12 => k_is)
    (case a13 => k_is)
    (case l13 => k_is)
    (case c13 => k_is)
    (case k13 => k_is)
    (case a14 => k_is)
    (case l14 => k_is)
    (case c14 => k_is)
    (case k14 => k_is)
    (case a15 => k_is)
    (case l15 => k_is)
    (case c15 => k_is)
    (case k15 => k_is)
    (case a16 => k_is)
    (case l16 => k_is)
    (case c16 => k_is)
    (case k16 => k_is)
    (case a17 => k_is)
    (case l17 => k_is)
    (case c17 => k_is)
    (case k17 => k_is)
    (case z_all => k_is)
    (case z_bool => k_is)
    (case z_dict => k_is)
    (case z_enumerate => k_is)
    (case z_int => k_is)
    (case z_isinstance => k_is)
    (case z_len => k_is)
    (case z_list => k_is)
    (case z_min => k_is)
    (case z_range => k_is)
    (case z_sorted => k_is)
    (case z_tuple => k_is)
    (case y_MOST_BYTE => k_is)
    (case y_MOST_PLACES => k_is)
    (case e_NoPlace => k_exc)
    (case k_NoPlace => k_is)
    (case b_NoPlace => k_is)
    (case t_NoPlace => k_is)
    (case e_NoTable => k_exc)
    (case k_NoTable => k_is)
    (case b_NoTable => k_is)
    (case t_NoTable => k_is)
    (case x_NoPlace => exact ⟨by k_is, by k_is, by k_is, by k_is, by k_is, by k_is, by k_is, by k_is⟩)
    (case x_NoTable => exact ⟨by k_is, by k_is, by k_is, by k_is, by k_is, by k_is, by k_is, by k_is⟩)
    (case i_NoPlace_bool => first | k_is | kit_is)
    (case i_NoPlace_dict => first | k_is | kit_is)
    (case i_NoPlace_int => first | k_is | kit_is)
    (case i_NoPlace_list => first | k_is | kit_is)
    (case i_NoPlace_tuple => first | k_is | kit_is)
    (case i_NoTable_bool => first | k_is | kit_is)
    (case i_NoTable_dict => first | k_is | kit_is)
    (case i_NoTable_int => first | k_is | kit_is)
    (case i_NoTable_list => first | k_is | kit_is)
    (case i_NoTable_tuple => first | k_is | kit_is)
#print axioms PySem.Challenge.cw_surewire_k51_rings_of_tables_holds
