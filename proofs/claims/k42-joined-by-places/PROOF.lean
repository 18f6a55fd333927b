import PyProof.Rows.All
import Wide.All
import OpenK.AllK
import Wide.FinOn
import HandS.ForMost
import HandS.IsInst
import HandS.Style
import HandS.Flow
import HandS.Exc
import HandS.TryOnly
import HandS.ExcOwn
import HandS.WordsExc
import HandS.WideBits
import HandS.Wide
import HandS.TupAny
import HandS.Walk
import HandS.ExcIs
import HandS.RaiseMore
import HandS.TupMul
import KE.KBits
import HandS.Zip
import HandS.Deep
import HandS.More
import HandS.SetFor
import HandS.FStrTup
import HandS.Ends
import PyProof.ReprRoads
import PyProof.FitsInt
import PyProof.CallFns
import HandS.Text
import HandS.StrMore
import HandS.RevRange
import HandS.Lambda
import KE.DataEq
import HandS.Flt
import HandS.Steps
import KE.GoesEnum
import HandS.Defaults
import PyProof.StrOps2
import HandS.ReplaceList
import HandS.SortInts
import HandS.EndOwn
import KE.KNestM
import KE.DataMinMax
import KE.SortData
import HandS.SortKw
import HandS.SetKeys
import KE.KDictWalk
import HandS.DictTup
import PySem.Challenge.RW_surewire_k42_joined_by_places
set_option Elab.async false
set_option linter.all false
set_option maxRecDepth 100000
set_option maxHeartbeats 2000000
/-! ## the data layer: what a reading gives, told by plain data; what stands is told by slots -/
namespace DL
open PySem L2

/-- plain data -/
inductive D where
  | non | bl (b : Bool) | int (i : Int) | str (x : Str) | ty (n : String) | ref (a : Addr)
  | tup (l : List D) | lst (l : List D) | scr (l : List D)
  | dic (l : List (Key × D)) | dit (l : List (List Key × D))
  | obj (C : Addr) (fs : List (Str × D))
  | exc (C : Addr)
/-- what one owned object holds -/
inductive OB where
  | lst (l : List D) | dic (l : List (Key × D)) | dit (l : List (List Key × D)) | obj (C : Addr) (fs : List (Str × D))
def OB.d : OB → D
  | .lst l => .lst l
  | .dic l => .dic l
  | .dit l => .dit l
  | .obj C fs => .obj C fs
/-- what is known of a slot -/
inductive EV where
  | any | val (d : D) | own (o : OB)
abbrev Env := List EV

def Ex (H H' : Hp) : Prop := ∀ a o, H a = some o → H' a = some o
theorem Ex.refl (H : Hp) : Ex H H := fun _ _ h => h
theorem Ex.trans {H H1 H2 : Hp} (a : Ex H H1) (b : Ex H1 H2) : Ex H H2 := fun x o h => b x o (a x o h)
theorem Ex.new {H : Hp} {p : Addr} {o : HO} (h : H p = none) : Ex H (upd H p o) := fun a u e => by
  rw [upd_ne (ne_of_none e h)]; exact e
theorem Ex.back {H H' : Hp} {p : Addr} (e : Ex H H') (h : H' p = none) : H p = none := by
  cases h1 : H p with
  | none => rfl
  | some o => rw [e p o h1] at h; cases h
theorem Ex.both {F H : Hp} {p : Addr} {o : HO} (e : Ex F H) : Ex (upd F p o) (upd H p o) := fun a u h => by
  by_cases q : a = p
  · subst q; rw [upd_same] at h ⊢; exact h
  · rw [upd_ne q] at h ⊢; exact e a u h
theorem Ex.right {F H : Hp} {p : Addr} {o : HO} (e : Ex F H) (h : F p = none) : Ex F (upd H p o) := fun a u q => by
  rw [upd_ne (ne_of_none q h)]; exact e a u q
theorem Ex.left {F H : Hp} {p : Addr} {o : HO} (e : Ex F H) (h : H p = some o) : Ex (upd F p o) H := fun a u q => by
  by_cases z : a = p
  · subst z; rw [upd_same] at q; rw [h]; exact q
  · rw [upd_ne z] at q; exact e a u q
theorem Ex.rd {H H' : Hp} {a : Addr} {u : HO} (e : Ex H H') (h : Rd H a u) : Rd H' a u := by
  rcases h with h | ⟨o, h⟩
  · exact Or.inl (e a _ h)
  · exact Or.inr ⟨o, e a _ h⟩
theorem Ex.l {K : PySem.W.Frag} {H H' : Hp} {a : Addr} {xs : List V} (e : Ex H H') (h : SqL K H a xs) : SqL K H' a xs := by
  rcases h with h | h
  · exact Or.inl (e.rd h)
  · exact Or.inr h
theorem Ex.t {K : PySem.W.Frag} {H H' : Hp} {a : Addr} {xs : List V} (e : Ex H H') (h : SqT K H a xs) : SqT K H' a xs := by
  rcases h with h | h
  · exact Or.inl (e.rd h)
  · exact Or.inr h

/-- an exception of the class at C, caught and kept -/
def ExK (C a : Addr) : HO := .ext fun h => ∃ (oe : Obj) (vs : Array Value), h.get? a = some oe ∧ Zc (.ref C) none oe ∧ oe.data = .fields vs
mutual
/-- the value v is the data d, all of it standing in F -/
inductive Rep (K : PySem.W.Frag) (F : Hp) : V → D → Prop
  | non : Rep K F .non .non
  | bl (b : Bool) : Rep K F (.bl b) (.bl b)
  | int (i : Int) : Rep K F (.int i) (.int i)
  | str (x : Str) : Rep K F (.str x) (.str x)
  | ty (n : String) : Rep K F (.ty n) (.ty n)
  | ref (a : Addr) : Rep K F (.ref a) (.ref a)
  | tup {a : Addr} {vs : List V} {l : List D} : SqT K F a vs → RepL K F vs l → Rep K F (.ref a) (.tup l)
  | lst {a : Addr} {vs : List V} {l : List D} : F a = some (.lst vs) → RepL K F vs l → Rep K F (.ref a) (.lst l)
  | scr {a : Addr} {vs : List V} {l : List D} : SqL K F a vs → RepL K F vs l → Rep K F (.ref a) (.scr l)
  | dic {a : Addr} {ks : List Key} {vs : List V} {ds : List D} : F a = some (.dK (ks.zip vs)) → ks.length = ds.length → RepL K F vs ds → Rep K F (.ref a) (.dic (ks.zip ds))
  | dit {a : Addr} {ks : List (List Key)} {vs : List V} {ds : List D} : F a = some (.dT (ks.zip vs)) → ks.length = ds.length → RepL K F vs ds → Rep K F (.ref a) (.dit (ks.zip ds))
  | obj {a C dx : Addr} {ks : List Str} {vs : List V} {ds : List D} : F a = some (.ins C dx (ks.zip vs)) → ks.length = ds.length → RepL K F vs ds → Rep K F (.ref a) (.obj C (ks.zip ds))
  | exc {a C : Addr} : F a = some (ExK C a) → Rep K F (.ref a) (.exc C)
inductive RepL (K : PySem.W.Frag) (F : Hp) : List V → List D → Prop
  | nil : RepL K F [] []
  | cons {v : V} {vs : List V} {d : D} {ds : List D} : Rep K F v d → RepL K F vs ds → RepL K F (v :: vs) (d :: ds)
end
section
variable {K : PySem.W.Frag} {F F' : Hp}
mutual
theorem Rep.mono (e : Ex F F') : ∀ {v : V} {d : D}, Rep K F v d → Rep K F' v d
  | _, _, .non => .non
  | _, _, .bl b => .bl b
  | _, _, .int i => .int i
  | _, _, .str x => .str x
  | _, _, .ty n => .ty n
  | _, _, .ref a => .ref a
  | _, _, .tup h r => .tup (e.t h) (RepL.mono e r)
  | _, _, .lst h r => .lst (e _ _ h) (RepL.mono e r)
  | _, _, .scr h r => .scr (e.l h) (RepL.mono e r)
  | _, _, .dic h l r => .dic (e _ _ h) l (RepL.mono e r)
  | _, _, .dit h l r => .dit (e _ _ h) l (RepL.mono e r)
  | _, _, .obj h l r => .obj (e _ _ h) l (RepL.mono e r)
  | _, _, .exc h => .exc (e _ _ h)
theorem RepL.mono (e : Ex F F') : ∀ {vs : List V} {ds : List D}, RepL K F vs ds → RepL K F' vs ds
  | _, _, .nil => .nil
  | _, _, .cons h r => .cons (Rep.mono e h) (RepL.mono e r)
end
theorem RepL.length : ∀ {vs : List V} {ds : List D}, RepL K F vs ds → vs.length = ds.length
  | _, _, .nil => rfl
  | _, _, .cons _ r => by rw [List.length_cons, List.length_cons, r.length]
theorem RepL.get : ∀ {vs : List V} {ds : List D} {i : Nat} {d : D}, RepL K F vs ds → ds[i]? = some d → ∃ v, vs[i]? = some v ∧ Rep K F v d
  | _, _, _, _, .nil, h => by simp at h
  | _, _, 0, _, .cons h _, e => by simp at e; subst e; exact ⟨_, rfl, h⟩
  | _, _, i + 1, _, .cons _ r, e => by
    obtain ⟨v, h1, h2⟩ := RepL.get (i := i) r (by simpa using e)
    exact ⟨v, by simpa using h1, h2⟩
theorem RepL.append : ∀ {vs ws : List V} {ds es : List D}, RepL K F vs ds → RepL K F ws es → RepL K F (vs ++ ws) (ds ++ es)
  | _, _, _, _, .nil, s => s
  | _, _, _, _, .cons h r, s => .cons h (RepL.append r s)
theorem RepL.take : ∀ {vs : List V} {ds : List D} (n : Nat), RepL K F vs ds → RepL K F (vs.take n) (ds.take n)
  | _, _, 0, _ => .nil
  | _, _, _ + 1, .nil => .nil
  | _, _, n + 1, .cons h r => .cons h (RepL.take n r)
theorem RepL.drop : ∀ {vs : List V} {ds : List D} (n : Nat), RepL K F vs ds → RepL K F (vs.drop n) (ds.drop n)
  | _, _, 0, r => r
  | _, _, _ + 1, .nil => .nil
  | _, _, n + 1, .cons _ r => RepL.drop n r
theorem RepL.set {v : V} {d : D} (h : Rep K F v d) : ∀ {vs : List V} {ds : List D} (n : Nat), RepL K F vs ds → RepL K F (vs.set n v) (ds.set n d)
  | _, _, _, .nil => .nil
  | _, _, 0, .cons _ r => .cons h r
  | _, _, n + 1, .cons q r => .cons q (RepL.set h n r)
theorem RepL.reverse : ∀ {vs : List V} {ds : List D}, RepL K F vs ds → RepL K F vs.reverse ds.reverse
  | _, _, .nil => .nil
  | _, _, .cons h r => by
    rw [List.reverse_cons, List.reverse_cons]
    exact (RepL.reverse r).append (.cons h .nil)
/-- ints, truths, texts: the values are those of the data -/
theorem RepL.ints : ∀ {vs : List V} {ns : List Int}, RepL K F vs (ns.map D.int) → vs = ns.map V.int
  | _, [], h => by cases h; rfl
  | _, n :: r, h => by
    cases h with
    | cons q t => cases q; rw [RepL.ints t]; rfl
theorem RepL.bools : ∀ {vs : List V} {ns : List Bool}, RepL K F vs (ns.map D.bl) → vs = ns.map V.bl
  | _, [], h => by cases h; rfl
  | _, n :: r, h => by
    cases h with
    | cons q t => cases q; rw [RepL.bools t]; rfl
theorem RepL.of_ints : ∀ {ns : List Int}, RepL K F (ns.map V.int) (ns.map D.int)
  | [] => .nil
  | n :: _ => .cons (.int n) RepL.of_ints
/-- data that no heap is asked for -/
def flat : D → Bool
  | .non | .bl _ | .int _ | .str _ | .ty _ | .ref _ => true
  | _ => false
theorem Rep.flat {v : V} {d : D} (h : Rep K F v d) (f : flat d = true) : Rep K F' v d := by
  cases h <;> first | (cases f; done) | constructor
theorem RepL.flat : ∀ {vs : List V} {ds : List D}, RepL K F vs ds → ds.all DL.flat = true → RepL K F' vs ds
  | _, _, .nil, _ => .nil
  | _, _, .cons h r, f => by
    rw [List.all_cons, Bool.and_eq_true] at f
    exact .cons (h.flat f.1) (RepL.flat r f.2)
end

/-- the owned object at a holds o; its parts stand in F -/
def ORep (K : PySem.W.Frag) (F H : Hp) (a : Addr) : OB → Prop
  | .lst l => ∃ vs, H a = some (.lst vs) ∧ RepL K F vs l
  | .dic l => ∃ ks vs ds, H a = some (.dK (List.zip ks vs)) ∧ List.length ks = List.length ds ∧ RepL K F vs ds ∧ l = ks.zip ds
  | .dit l => ∃ ks vs ds, H a = some (.dT (List.zip ks vs)) ∧ List.length ks = List.length ds ∧ RepL K F vs ds ∧ l = ks.zip ds
  | .obj C fs => ∃ dx ks vs ds, H a = some (.ins C dx (List.zip ks vs)) ∧ List.length ks = List.length ds ∧ RepL K F vs ds ∧ fs = ks.zip ds
section
variable {K : PySem.W.Frag} {F F' H H' : Hp} {a : Addr} {o : OB}
theorem ORep.mono (h : ORep K F H a o) (e : Ex F F') (k : ∀ u, H a = some u → H' a = some u) : ORep K F' H' a o := by
  cases o with
  | lst l => obtain ⟨vs, x, r⟩ := h; exact ⟨vs, k _ x, r.mono e⟩
  | dic l => obtain ⟨ks, vs, ds, x, z, r, q⟩ := h; exact ⟨ks, vs, ds, k _ x, z, r.mono e, q⟩
  | dit l => obtain ⟨ks, vs, ds, x, z, r, q⟩ := h; exact ⟨ks, vs, ds, k _ x, z, r.mono e, q⟩
  | obj C fs => obtain ⟨dx, ks, vs, ds, x, z, r, q⟩ := h; exact ⟨dx, ks, vs, ds, k _ x, z, r.mono e, q⟩
theorem ORep.ho (h : ORep K F H a o) : ∃ u, H a = some u := by
  cases o with
  | lst l => obtain ⟨vs, x, r⟩ := h; exact ⟨_, x⟩
  | dic l => obtain ⟨ks, vs, ds, x, _⟩ := h; exact ⟨_, x⟩
  | dit l => obtain ⟨ks, vs, ds, x, _⟩ := h; exact ⟨_, x⟩
  | obj C fs => obtain ⟨dx, ks, vs, ds, x, _⟩ := h; exact ⟨_, x⟩
/-- an owned object, given up: from now on it stands -/
theorem ORep.give (h : ORep K F H a o) (n : F a = none) : ∃ u, H a = some u ∧ Rep K (upd F a u) (.ref a) o.d := by
  cases o with
  | lst l => obtain ⟨vs, x, r⟩ := h; exact ⟨_, x, .lst upd_same (r.mono (Ex.new n))⟩
  | dic l => obtain ⟨ks, vs, ds, x, z, r, q⟩ := h; subst q; exact ⟨_, x, .dic upd_same z (r.mono (Ex.new n))⟩
  | dit l => obtain ⟨ks, vs, ds, x, z, r, q⟩ := h; subst q; exact ⟨_, x, .dit upd_same z (r.mono (Ex.new n))⟩
  | obj C fs => obtain ⟨dx, ks, vs, ds, x, z, r, q⟩ := h; subst q; exact ⟨_, x, .obj upd_same z (r.mono (Ex.new n))⟩
end

/-- what grows between two moments: what stands (F) and all that is tracked (H) -/
structure Grow (F0 H0 F H : Hp) : Prop where
  gf : Ex F0 F
  gh : Ex H0 H
  fh : Ex F H
  gn : ∀ a, F a ≠ none → F0 a ≠ none ∨ H0 a = none
section
variable {F0 H0 F1 H1 F H : Hp}
theorem Grow.refl (e : Ex F H) : Grow F H F H := ⟨Ex.refl _, Ex.refl _, e, fun _ h => .inl h⟩
theorem Grow.trans (a : Grow F0 H0 F1 H1) (b : Grow F1 H1 F H) : Grow F0 H0 F H := ⟨a.gf.trans b.gf, a.gh.trans b.gh, b.fh, fun x h => by
  rcases b.gn x h with q | q
  · exact a.gn x q
  · exact .inr (a.gh.back q)⟩
/-- a new object, standing -/
theorem Grow.new {p : Addr} {o : HO} (g : Grow F0 H0 F H) (n : H p = none) : Grow F0 H0 (upd F p o) (upd H p o) := ⟨g.gf.trans (Ex.new (g.fh.back n)), g.gh.trans (Ex.new n), g.fh.both, fun x h => by
  by_cases q : x = p
  · subst q; exact .inr (g.gh.back n)
  · rw [upd_ne q] at h; exact g.gn x h⟩
/-- an owned new one is given up -/
theorem Grow.give {p : Addr} {o : HO} (g : Grow F0 H0 F H) (n : F p = none) (n0 : H0 p = none) (e : H p = some o) : Grow F0 H0 (upd F p o) H := ⟨g.gf.trans (Ex.new n), g.gh, g.fh.left e, fun x h => by
  by_cases q : x = p
  · subst q; exact .inr n0
  · rw [upd_ne q] at h; exact g.gn x h⟩
end

/-- where a def begins: what stands, what is tracked, which slots hold the objects handed in to be changed -/
structure Bs where
  F : Hp
  H : Hp
  fx : Nat → Option Addr
/-- the slots as they are known; oa i the address of what slot i owns -/
structure Sig (K : PySem.W.Frag) (b : Bs) (F : Hp) (oa : Nat → Addr) (σ : L2.St) (H : Hp) (env : Env) : Prop where
  g : Grow b.F b.H F H
  len : σ.length = env.length
  val : ∀ (i : Nat) (d : D), env[i]? = some (EV.val d) → ∃ v : V, σ[i]? = some (some v) ∧ Rep K F v d
  own : ∀ (i : Nat) (o : OB), env[i]? = some (EV.own o) → σ[i]? = some (some (.ref (oa i))) ∧ F (oa i) = none ∧ b.H (oa i) = none ∧ ORep K F H (oa i) o
  dist : ∀ (i j : Nat) (o u : OB), env[i]? = some (EV.own o) → env[j]? = some (.own u) → oa i = oa j → i = j
  fix : ∀ (i : Nat) (a : Addr), b.fx i = some a → oa i = a ∧ H a ≠ none
section
variable {K : PySem.W.Frag} {b : Bs} {F F1 H H1 : Hp} {oa : Nat → Addr} {σ : L2.St} {env env' : Env} {i : Nat} {v : V} {d : D} {o : OB}
/-- what is owned is not there where nothing is -/
theorem Sig.ne (S : Sig K b F oa σ H env) {p : Addr} (n : H p = none) (e : env[i]? = some (.own o)) : oa i ≠ p := fun q => by
  obtain ⟨_, _, _, r⟩ := S.own i o e
  obtain ⟨u, hu⟩ := r.ho
  rw [q, n] at hu; cases hu
/-- more stands, all else as it was -/
theorem Sig.grow (S : Sig K b F oa σ H env) (g : Grow F H F1 H1) : Sig K b F1 oa σ H1 env where
  g := S.g.trans g
  len := S.len
  val := fun i d e => by
    obtain ⟨v, h1, h2⟩ := S.val i d e
    exact ⟨v, h1, h2.mono g.gf⟩
  own := fun i o e => by
    obtain ⟨h1, h2, h3, h4⟩ := S.own i o e
    refine ⟨h1, ?_, h3, h4.mono g.gf fun u q => g.gh _ _ q⟩
    cases q : F1 (oa i) with
    | none => rfl
    | some u =>
      rcases g.gn (oa i) (by rw [q]; simp) with z | z
      · exact absurd h2 z
      · obtain ⟨w, hw⟩ := h4.ho
        rw [z] at hw; cases hw
  dist := S.dist
  fix := fun i c e => by
    obtain ⟨h1, h2⟩ := S.fix i c e
    refine ⟨h1, fun z => ?_⟩
    exact h2 (g.gh.back z)
theorem Sig.new {p : Addr} {u : HO} (S : Sig K b F oa σ H env) (n : H p = none) : Sig K b (upd F p u) oa σ (upd H p u) env := S.grow ((Grow.refl S.g.fh).new n)
/-- slot i holds v -/
theorem Sig.set (S : Sig K b F oa σ H env) (r : Rep K F v d) : Sig K b F oa (σ.set i (some v)) H (env.set i (.val d)) where
  g := S.g
  len := by simp [S.len]
  val := fun j e h => by
    by_cases q : i = j
    · subst q
      rw [List.getElem?_set] at h
      rw [List.getElem?_set]
      have l := S.len
      split at h
      · split at h
        · cases h
          refine ⟨v, ?_, r⟩
          simp_all
        · cases h
      · rename_i z; exact absurd rfl z
    · rw [List.getElem?_set_ne q] at h
      rw [List.getElem?_set_ne q]
      exact S.val j e h
  own := fun j e h => by
    by_cases q : i = j
    · subst q
      rw [List.getElem?_set] at h
      split at h
      · split at h <;> cases h
      · rename_i z; exact absurd rfl z
    · rw [List.getElem?_set_ne q] at h
      rw [List.getElem?_set_ne q]
      exact S.own j e h
  dist := fun j k e u h1 h2 => by
    have t : ∀ (j : Nat) (e : OB), (env.set i (.val d))[j]? = some (.own e) → env[j]? = some (.own e) := fun j e h => by
      by_cases q : i = j
      · subst q
        rw [List.getElem?_set] at h
        split at h
        · split at h <;> cases h
        · rename_i z; exact absurd rfl z
      · rw [List.getElem?_set_ne q] at h; exact h
    exact S.dist j k e u (t _ _ h1) (t _ _ h2)
  fix := S.fix
/-- the slot of what is owned, given up -/
theorem Sig.give (S : Sig K b F oa σ H env) (e : env[i]? = some (.own o)) : ∃ F', Sig K b F' oa σ H (env.set i (.val o.d)) ∧ Ex F F' := by
  obtain ⟨h1, h2, h3, h4⟩ := S.own i o e
  obtain ⟨u, hu, r⟩ := h4.give h2
  refine ⟨upd F (oa i) u, ⟨S.g.give h2 h3 hu, by simp [S.len], fun j w h => ?_, fun j w h => ?_, fun j k w x p q z => ?_, S.fix⟩, Ex.new h2⟩
  · by_cases q : i = j
    · subst q
      rw [List.getElem?_set] at h
      split at h
      · split at h
        · cases h; exact ⟨_, h1, r⟩
        · cases h
      · rename_i z; exact absurd rfl z
    · rw [List.getElem?_set_ne q] at h
      obtain ⟨v, x, y⟩ := S.val j w h
      exact ⟨v, x, y.mono (Ex.new h2)⟩
  · by_cases q : i = j
    · subst q
      rw [List.getElem?_set] at h
      split at h
      · split at h <;> cases h
      · rename_i z; exact absurd rfl z
    · rw [List.getElem?_set_ne q] at h
      obtain ⟨x1, x2, x3, x4⟩ := S.own j w h
      refine ⟨x1, ?_, x3, x4.mono (Ex.new h2) fun _ y => y⟩
      rw [upd_ne fun z => q (S.dist j i w o h e z).symm]
      exact x2
  · have t : ∀ (j : Nat) (e : OB), (env.set i (.val o.d))[j]? = some (.own e) → env[j]? = some (.own e) := fun j e h => by
      by_cases q : i = j
      · subst q
        rw [List.getElem?_set] at h
        split at h
        · split at h <;> cases h
        · rename_i z; exact absurd rfl z
      · rw [List.getElem?_set_ne q] at h; exact h
    exact S.dist j k w x (t _ _ p) (t _ _ q) z
/-- less is known: every slot as it was, or not told -/
def Env.le : Env → Env → Prop
  | [], [] => True
  | a :: r, b :: s => (b = .any ∨ b = a) ∧ Env.le r s
  | _, _ => False
theorem Env.le.get : ∀ {env env' : Env} {i : Nat} {x : EV}, Env.le env env' → env'[i]? = some x → x = .any ∨ env[i]? = some x
  | [], [], _, _, _, h => by simp at h
  | _ :: _, _ :: _, 0, _, l, h => by
    simp at h; subst h
    rcases l.1 with q | q
    · exact .inl q
    · exact .inr (by rw [q]; rfl)
  | _ :: r, _ :: s, i + 1, _, l, h => by
    rcases Env.le.get (i := i) l.2 (by simpa using h) with q | q
    · exact .inl q
    · exact .inr (by simpa using q)
  | [], _ :: _, _, _, l, _ => l.elim
  | _ :: _, [], _, _, l, _ => l.elim
theorem Env.le.length : ∀ {env env' : Env}, Env.le env env' → env.length = env'.length
  | [], [], _ => rfl
  | _ :: _, _ :: _, l => by rw [List.length_cons, List.length_cons, Env.le.length l.2]
  | [], _ :: _, l => l.elim
  | _ :: _, [], l => l.elim
theorem Env.le.rfl : ∀ {env : Env}, Env.le env env
  | [] => trivial
  | _ :: _ => ⟨.inr (by rfl), Env.le.rfl⟩
theorem Sig.le (S : Sig K b F oa σ H env) (l : Env.le env env') : Sig K b F oa σ H env' where
  g := S.g
  len := by rw [S.len, l.length]
  val := fun i d e => by
    rcases l.get e with q | q
    · cases q
    · exact S.val i d q
  own := fun i o e => by
    rcases l.get e with q | q
    · cases q
    · exact S.own i o q
  dist := fun i j o u e f z => by
    rcases l.get e with q | q
    · cases q
    · rcases l.get f with p | p
      · cases p
      · exact S.dist i j o u q p z
  fix := S.fix
/-- a new one that no slot owns stands from now on -/
theorem Sig.stand {a : Addr} {u : HO} (S : Sig K b F oa σ H env) (n : F a = none) (n0 : b.H a = none) (ne : ∀ (j : Nat) (o : OB), env[j]? = some (.own o) → oa j ≠ a) (h : H a = some u) : Sig K b (upd F a u) oa σ H env where
  g := S.g.give n n0 h
  len := S.len
  val := fun i d e => by
    obtain ⟨v, h1, h2⟩ := S.val i d e
    exact ⟨v, h1, h2.mono (Ex.new n)⟩
  own := fun i o e => by
    obtain ⟨h1, h2, h3, h4⟩ := S.own i o e
    exact ⟨h1, by rw [upd_ne (ne i o e)]; exact h2, h3, h4.mono (Ex.new n) fun _ q => q⟩
  dist := S.dist
  fix := S.fix
end
end DL

namespace DL
open PySem L2

/-- what an expression gives: data that stands, or what a slot owns -/
inductive Res where
  | val (d : D) | slot (i : Nat)
def RR (K : PySem.W.Frag) (F : Hp) (oa : Nat → Addr) (v : V) : Res → Prop
  | .val d => Rep K F v d
  | .slot i => v = .ref (oa i)
/-- it reads as d -/
def Rd (env : Env) : Res → D → Prop
  | .val d, e => d = e
  | .slot i, e => ∃ o, env[i]? = some (.own o) ∧ o.d = e
section
variable {K : PySem.W.Frag} {b : Bs} {F F' H : Hp} {oa : Nat → Addr} {σ : L2.St} {env env' : Env} {v : V} {r : Res} {d : D} {l : List D}
theorem RR.mono (h : RR K F oa v r) (e : Ex F F') : RR K F' oa v r := by
  cases r with
  | val d => exact Rep.mono e h
  | slot i => exact h
theorem Rd.lst' (S : Sig K b F oa σ H env) (h : RR K F oa v r) (q : Rd env r (.lst l)) : ∃ a vs, v = .ref a ∧ H a = some (.lst vs) ∧ RepL K F vs l := by
  cases r with
  | val d =>
    cases (show d = .lst l from q)
    cases h with
    | lst x y => exact ⟨_, _, rfl, S.g.fh _ _ x, y⟩
  | slot i =>
    obtain ⟨o, e, z⟩ := q
    obtain ⟨_, _, _, x⟩ := S.own i o e
    cases o with
    | lst l' =>
      cases z
      obtain ⟨vs, x1, x2⟩ := x
      exact ⟨_, vs, h, x1, x2⟩
    | dic _ => cases z
    | dit _ => cases z
    | obj _ _ => cases z
theorem Rd.scr (S : Sig K b F oa σ H env) (h : RR K F oa v r) (q : Rd env r (.scr l)) : ∃ a vs, v = .ref a ∧ SqL K H a vs ∧ RepL K F vs l := by
  cases r with
  | val d =>
    cases (show d = .scr l from q)
    cases h with
    | scr x y => exact ⟨_, _, rfl, S.g.fh.l x, y⟩
  | slot i =>
    obtain ⟨o, e, z⟩ := q
    cases o <;> cases z
/-- a list to be read: one of the call's own, or the script -/
def RdL (env : Env) (r : Res) (k : List D) : Prop := Rd env r (.lst k) ∨ Rd env r (.scr k)
theorem RdL.g (S : Sig K b F oa σ H env) (h : RR K F oa v r) (q : RdL env r l) : ∃ a vs, v = .ref a ∧ SqL K H a vs ∧ RepL K F vs l := by
  rcases q with q | q
  · obtain ⟨a, vs, e, s, p⟩ := Rd.lst' S h q
    exact ⟨a, vs, e, .inl (.inl s), p⟩
  · exact Rd.scr S h q
theorem Rd.tup (S : Sig K b F oa σ H env) (h : RR K F oa v r) (q : Rd env r (.tup l)) : ∃ a vs, v = .ref a ∧ SqT K H a vs ∧ RepL K F vs l := by
  cases r with
  | val d =>
    cases (show d = .tup l from q)
    cases h with
    | tup x y => exact ⟨_, _, rfl, S.g.fh.t x, y⟩
  | slot i =>
    obtain ⟨o, e, z⟩ := q
    cases o <;> cases z
theorem Rd.flat (h : RR K F oa v r) (q : Rd env r d) (f : flat d = true) : Rep K F v d := by
  cases r with
  | val e => cases (show e = d from q); exact h
  | slot i =>
    obtain ⟨o, e, z⟩ := q
    cases o <;> (subst z; cases f)
/-- read as it stands in the whole heap -/
theorem Rd.rep (S : Sig K b F oa σ H env) (h : RR K F oa v r) (q : Rd env r d) : Rep K H v d := by
  cases r with
  | val e => cases (show e = d from q); exact Rep.mono S.g.fh h
  | slot i =>
    obtain ⟨o, e, z⟩ := q
    subst z
    cases (show v = .ref (oa i) from h)
    obtain ⟨_, _, _, x⟩ := S.own i o e
    cases o with
    | lst l' => obtain ⟨vs, x1, x2⟩ := x; exact .lst x1 (x2.mono S.g.fh)
    | dic l' => obtain ⟨ks, vs, ds, x1, x2, x3, x4⟩ := x; subst x4; exact .dic x1 x2 (x3.mono S.g.fh)
    | dit l' => obtain ⟨ks, vs, ds, x1, x2, x3, x4⟩ := x; subst x4; exact .dit x1 x2 (x3.mono S.g.fh)
    | obj C fs => obtain ⟨dx, ks, vs, ds, x1, x2, x3, x4⟩ := x; subst x4; exact .obj x1 x2 (x3.mono S.g.fh)
end

/-- what a step leaves: what stands stands; what no slot owns is as it was -/
structure Stp (oa : Nat → Addr) (env : Env) (F H : Hp) (env' : Env) (F' H' : Hp) : Prop where
  ff : Ex F F'
  kp : ∀ a u, H a = some u → (∀ (j : Nat) (o : OB), env[j]? = some (.own o) → oa j ≠ a) → H' a = some u
  gn : ∀ a, F' a ≠ none → F a ≠ none ∨ H a = none
  th : ∀ a, H a ≠ none → H' a ≠ none
  sub : ∀ (j : Nat) (o : OB), env'[j]? = some (.own o) → ∃ o', env[j]? = some (.own o')
section
variable {K : PySem.W.Frag} {b : Bs} {F F1 F2 H H1 H2 : Hp} {oa : Nat → Addr} {σ : L2.St} {env e1 e2 : Env} {p : Addr} {u : HO}
theorem Stp.refl : Stp oa env F H env F H := ⟨Ex.refl _, fun _ _ h _ => h, fun _ h => .inl h, fun _ h => h, fun j o h => ⟨o, h⟩⟩
theorem Stp.trans (x : Stp oa env F H e1 F1 H1) (y : Stp oa e1 F1 H1 e2 F2 H2) : Stp oa env F H e2 F2 H2 := ⟨x.ff.trans y.ff, fun a u h n => y.kp a u (x.kp a u h n) fun j o e => by
    obtain ⟨o', e'⟩ := x.sub j o e
    exact n j o' e', fun a h => by
    rcases y.gn a h with z | z
    · exact x.gn a z
    · refine .inr ?_
      cases w : H a with
      | none => rfl
      | some v => exact absurd z (x.th a (by rw [w]; simp)), fun a h => y.th a (x.th a h), fun j o e => by
    obtain ⟨o', e'⟩ := y.sub j o e
    exact x.sub j o' e'⟩
theorem Stp.new (n : H p = none) (nf : F p = none) : Stp oa env F H env (upd F p u) (upd H p u) := ⟨Ex.new nf, fun a v h _ => Ex.new n a v h, fun a h => by
    by_cases q : a = p
    · subst q; exact .inr n
    · rw [upd_ne q] at h; exact .inl h, fun a h z => h ((Ex.new n).back z), fun j o e => ⟨o, e⟩⟩
theorem Stp.newH (n : H p = none) : Stp oa env F H env F (upd H p u) := ⟨Ex.refl _, fun a v h _ => Ex.new n a v h, fun a h => .inl h, fun a h z => h ((Ex.new n).back z), fun j o e => ⟨o, e⟩⟩
theorem Stp.none (x : Stp oa env F H e1 F1 H1) (n : H1 p = none) : H p = none := by
  cases w : H p with
  | none => rfl
  | some v => exact absurd n (x.th p (by rw [w]; simp))
end

def Ev (K : PySem.W.Frag) (te : TE) (env : Env) (r : Res) (env' : Env) : Prop := ∀ (b : Bs) (F : Hp) (oa : Nat → Addr) (σ : L2.St) (H : Hp), Sig K b F oa σ H env → ∀ Q : VK,
  (∀ v F' H', Sig K b F' oa σ H' env' → Stp oa env F H env' F' H' → RR K F' oa v r → Q v H') → te σ H Q
/-- a new object that nobody has yet -/
def NewAt (K : PySem.W.Frag) (b : Bs) (F : Hp) (oa : Nat → Addr) (H : Hp) (env : Env) (a : Addr) (o : OB) : Prop :=
  F a = none ∧ b.H a = none ∧ (∀ (j : Nat) (u : OB), env[j]? = some (.own u) → oa j ≠ a) ∧ (∀ j, b.fx j ≠ some a) ∧ ORep K F H a o
def EvN (K : PySem.W.Frag) (te : TE) (env : Env) (o : OB) (env' : Env) : Prop := ∀ (b : Bs) (F : Hp) (oa : Nat → Addr) (σ : L2.St) (H : Hp), Sig K b F oa σ H env → ∀ Q : VK,
  (∀ a F' H', Sig K b F' oa σ H' env' → Stp oa env F H env' F' H' → H a = none → NewAt K b F' oa H' env' a o → Q (.ref a) H') → te σ H Q
def RRs (K : PySem.W.Frag) (F : Hp) (oa : Nat → Addr) : List V → List Res → Prop
  | [], [] => True
  | v :: vs, r :: rs => RR K F oa v r ∧ RRs K F oa vs rs
  | _, _ => False
theorem RRs.mono {K : PySem.W.Frag} {F F' : Hp} {oa : Nat → Addr} (e : Ex F F') : ∀ {vs : List V} {rs : List Res}, RRs K F oa vs rs → RRs K F' oa vs rs
  | [], [], _ => trivial
  | _ :: _, _ :: _, h => ⟨h.1.mono e, RRs.mono e h.2⟩
  | [], _ :: _, h => h.elim
  | _ :: _, [], h => h.elim
section
variable {K : PySem.W.Frag} {te ta tb tc : TE} {t u : TT} {env e1 e2 e3 : Env} {r r1 r2 : Res} {d : D} {o : OB} {i j : Nat} {n m : Int}
theorem Ev.give (h : EvN K te env o e1) : Ev K te env (.val o.d) e1 := fun b F oa σ H S Q k => h b F oa σ H S Q fun a F' H' S' e na ⟨n, n0, ne, _, x⟩ => by
  obtain ⟨u, hu, r⟩ := x.give n
  refine k _ _ _ (S'.stand n n0 ne hu) ⟨e.ff.trans (Ex.new n), e.kp, fun c h => ?_, e.th, e.sub⟩ r
  by_cases q : c = a
  · subst q; exact .inr na
  · rw [upd_ne q] at h; exact e.gn c h
end
end DL

namespace DL
open PySem L2

/-! ### operators by all that they serve -/
theorem OpR.or {X : Cx} {f : Value → Value → Sem Value} {r1 r2 : R2} (h1 : OpR X f r1) (h2 : OpR X f r2) : OpR X f (fun x y H Q => r1 x y H Q ∨ r2 x y H Q) := by
  intro pins s σ H x y v u Q I rx ry h
  rcases h with h | h
  · exact h1 pins s σ H x y v u Q I rx ry h
  · exact h2 pins s σ H x y v u Q I rx ry h
theorem CallR.or {X : Cx} {f : Value} {r1 r2 : List V → Hp → VK → Prop} (h1 : CallR X f r1) (h2 : CallR X f r2) : CallR X f (fun xs H Q => r1 xs H Q ∨ r2 xs H Q) := by
  intro pins s σ H xs us Q I r h
  rcases h with h | h
  · exact h1 pins s σ H xs us Q I r h
  · exact h2 pins s σ H xs us Q I r h
def rS : R2 := fun x y H Q => ∃ i j, x = .str i ∧ y = .str j ∧ i.length + j.length ≤ sizeLine ∧ Q (.str (i ++ j)) H
def rAddU (K : PySem.W.Frag) : R2 := fun x y H Q => rI0 (fun i j => .int (i + j)) x y H Q ∨ (rS x y H Q ∨ (rCatA K x y H Q ∨ rCat x y H Q))
theorem op_addU {X : Cx} {K : PySem.W.Frag} (e : X.K = K := by rfl) : OpR X (binaryOp .Add) (rAddU K) := by subst e; exact OpR.or op_add (OpR.or op_add_str (OpR.or op_catA op_cat))
def rSubU : R2 := rI0 fun i j => .int (i - j)
theorem op_subU {X : Cx} : OpR X (binaryOp .Sub) rSubU := op_sub
def rMulU : R2 := fun x y H Q => rI CMul (fun i j => .int (i * j)) x y H Q ∨ (rI CMulX (fun i j => .int (i * j)) x y H Q ∨ rRep x y H Q)
theorem op_mulU {X : Cx} : OpR X (binaryOp .Mult) rMulU := OpR.or op_mul (OpR.or op_mulX op_rep)
def rDivU : R2 := rI CDivW fun i j => .int (i / j)
theorem op_divU {X : Cx} : OpR X (binaryOp .FloorDiv) rDivU := op_fdivW
def rModU : R2 := rI (fun _ j => 0 < j) fun i j => .int (i % j)
theorem op_modU {X : Cx} : OpR X (binaryOp .Mod) rModU := op_mod
def rPowU : R2 := rI CPow fun i j => .int (i ^ j.toNat)
theorem op_powU {X : Cx} : OpR X (binaryOp .Pow) rPowU := op_pow
def rShlU : R2 := rI CShl fun i j => .int (i * 2 ^ j.toNat)
theorem op_shlU {X : Cx} : OpR X (binaryOp .LShift) rShlU := op_shlW
def rShrU : R2 := rI (fun _ j => 0 ≤ j) fun i j => .int (i / 2 ^ j.toNat)
theorem op_shrU {X : Cx} : OpR X (binaryOp .RShift) rShrU := op_shr
def rAndU : R2 := rI0 fun i j => .int (Builtin.bitAnd i j)
theorem op_andU {X : Cx} : OpR X (binaryOp .BitAnd) rAndU := op_and
def rOrU : R2 := rI0 fun i j => .int (Builtin.bitOr i j)
theorem op_orU {X : Cx} : OpR X (binaryOp .BitOr) rOrU := op_or
def rXorU : R2 := rI0 fun i j => .int (Builtin.bitXor i j)
theorem op_xorU {X : Cx} : OpR X (binaryOp .BitXor) rXorU := op_xor
def rLtU : R2 := rI0 fun i j => .bl (decide (i < j))
def rLeU : R2 := rI0 fun i j => .bl (decide (i ≤ j))
def rGtU : R2 := rI0 fun i j => .bl (decide (j < i))
def rGeU : R2 := rI0 fun i j => .bl (decide (j ≤ i))
theorem op_ltU {X : Cx} : OpR X (compareOp .Lt) rLtU := op_lt
theorem op_leU {X : Cx} : OpR X (compareOp .LtE) rLeU := op_le
theorem op_gtU {X : Cx} : OpR X (compareOp .Gt) rGtU := op_gt
theorem op_geU {X : Cx} : OpR X (compareOp .GtE) rGeU := op_ge
def rIsNn : R2 := fun x y H Q => y = .non ∧ Q (.bl (decide (x = .non))) H
def rNotNn : R2 := fun x y H Q => y = .non ∧ Q (.bl (!decide (x = .non))) H
def rIsU : R2 := fun x y H Q => rIsNn x y H Q ∨ rIsB x y H Q
def rNotU : R2 := fun x y H Q => rNotNn x y H Q ∨ rNotB x y H Q
theorem op_isU {X : Cx} : OpR X (compareOp .Is) rIsU := OpR.or op_isN op_isBl
theorem op_notU {X : Cx} : OpR X (compareOp .IsNot) rNotU := OpR.or op_notN op_notBl
def rLen1 (K : PySem.W.Frag) : List V → Hp → VK → Prop := fun xs H Q => ∃ x n, xs = [x] ∧ LenV K x H n ∧ Q (.int n) H
def rLen2 : List V → Hp → VK → Prop := fun xs H Q => ∃ a kvs, xs = [V.ref a] ∧ H a = some (.dK kvs) ∧ Q (.int kvs.length) H
def rLenU (K : PySem.W.Frag) : List V → Hp → VK → Prop := fun xs H Q => rLen1 K xs H Q ∨ rLen2 xs H Q
theorem call_lenU {X : Cx} {K : PySem.W.Frag} (e : X.K = K := by rfl) : CallR X (.builtin "len") (rLenU K) := by subst e; exact CallR.or call_len call_lenD
theorem call_allU {X : Cx} {K : PySem.W.Frag} (hc : X.calm = true) (e : X.K = K := by rfl) : CallR X (.builtin "all") (rAll K) := by subst e; exact cr_all hc
theorem call_sumU {X : Cx} {K : PySem.W.Frag} (hc : X.calm = true) (e : X.K = K := by rfl) : CallR X (.builtin "sum") (rSum K) := by subst e; exact cr_sum hc
theorem ix_U {X : Cx} {K : PySem.W.Frag} (e : X.K = K := by rfl) : IxR X (rIx K) := by subst e; exact ix_seq
def rAbs : List V → Hp → VK → Prop := fun xs H Q => ∃ i, xs = [.int i] ∧ Q (.int (if i < 0 then -i else i)) H
theorem call_absU {X : Cx} : CallR X (.builtin "abs") rAbs := call_abs
def rMax2 : List V → Hp → VK → Prop := fun xs H Q => ∃ i j, xs = [.int i, .int j] ∧ Q (.int (if j > i then j else i)) H
def rMin2 : List V → Hp → VK → Prop := fun xs H Q => ∃ i j, xs = [.int i, .int j] ∧ Q (.int (if j < i then j else i)) H
theorem call_max2U {X : Cx} (hc : X.calm = true) : CallR X (.builtin "max") rMax2 := call_max2 hc
theorem call_min2U {X : Cx} (hc : X.calm = true) : CallR X (.builtin "min") rMin2 := call_min2 hc
def rInt1 : List V → Hp → VK → Prop := fun xs H Q => (∃ i, xs = [.int i] ∧ Q (.int i) H) ∨ ∃ k, xs = [.bl k] ∧ Q (.int (if k then 1 else 0)) H
theorem call_intU {X : Cx} : CallR X (.type "int") rInt1 := call_int1
def rListOf (K : PySem.W.Frag) : List V → Hp → VK → Prop := fun xs H Q => ∃ p ys, xs = [.ref p] ∧ (SqL K H p ys ∨ SqT K H p ys) ∧ ∀ l, H l = none → Q (.ref l) (upd H l (.lst ys))
theorem call_listU {X : Cx} {K : PySem.W.Frag} (e : X.K = K := by rfl) : CallR X (.type "list") (rListOf K) := by subst e; exact call_list_of
def rTupleOf (K : PySem.W.Frag) : List V → Hp → VK → Prop := fun xs H Q => ∃ p ys, xs = [.ref p] ∧ ((SqL K H p ys ∧ ∀ l, H l = none → Q (.ref l) (upd H l (.tup ys))) ∨ (SqT K H p ys ∧ Q (.ref p) H))
theorem call_tupleU {X : Cx} {K : PySem.W.Frag} (e : X.K = K := by rfl) : CallR X (.type "tuple") (rTupleOf K) := by subst e; exact call_tuple_of
def rSlU (K : PySem.W.Frag) : V → Option Int → Option Int → Hp → VK → Prop := fun x lo hi H Q => rSlL K x lo hi H Q ∨ (rSlA K x lo hi H Q ∨ rSlS x lo hi H Q)
theorem SlR.or {X : Cx} {r1 r2 : V → Option Int → Option Int → Hp → VK → Prop} (h1 : SlR X r1) (h2 : SlR X r2) : SlR X (fun x l u H Q => r1 x l u H Q ∨ r2 x l u H Q) := by
  intro pins s σ H x v vl vu l u sl Q I rx hs pl pu h
  rcases h with h | h
  · exact h1 pins s σ H x v vl vu l u sl Q I rx hs pl pu h
  · exact h2 pins s σ H x v vl vu l u sl Q I rx hs pl pu h
theorem sl_U {X : Cx} {K : PySem.W.Frag} (e : X.K = K := by rfl) : SlR X (rSlU K) := by subst e; exact SlR.or sl_list (SlR.or sl_tupA sl_str)

/-! ### PyData of data -/
mutual
def py : D → Option PyData
  | .non => some .none
  | .bl b => some (.bool b)
  | .int i => some (.int i)
  | .str x => some (.str x)
  | .tup l => (pys l).map .tuple
  | .lst l => (pys l).map .list
  | .ty _ => none
  | .scr _ => none
  | .ref _ => none
  | .dic _ => none
  | .dit _ => none
  | .obj _ _ => none
  | .exc _ => none
def pys : List D → Option (List PyData)
  | [] => some []
  | d :: r => match py d, pys r with
    | some x, some y => some (x :: y)
    | _, _ => none
end
mutual
theorem Rep.dp {K : PySem.W.Frag} {H : Hp} : ∀ {v : V} {d : D} {p : PyData}, Rep K H v d → py d = some p → Dp K H v p
  | _, _, _, .non, e => by unfold py at e; cases e; exact .non
  | _, _, _, .bl b, e => by unfold py at e; cases e; exact .bl b
  | _, _, _, .int b, e => by unfold py at e; cases e; exact .int b
  | _, _, _, .str b, e => by unfold py at e; cases e; exact .str b
  | _, _, _, .tup (l := l) h r, e => by
    unfold py at e
    cases q : pys l with
    | none => rw [q] at e; cases e
    | some x => rw [q] at e; cases e; exact .tup h (RepL.dp r q)
  | _, _, _, .lst (l := l) h r, e => by
    unfold py at e
    cases q : pys l with
    | none => rw [q] at e; cases e
    | some x => rw [q] at e; cases e; exact .lst (.inl (.inl h)) (RepL.dp r q)
  | _, _, _, .ty _, e => by unfold py at e; cases e
  | _, _, _, .scr _ _, e => by unfold py at e; cases e
  | _, _, _, .ref _, e => by unfold py at e; cases e
  | _, _, _, .dic _ _ _, e => by unfold py at e; cases e
  | _, _, _, .dit _ _ _, e => by unfold py at e; cases e
  | _, _, _, .obj _ _ _, e => by unfold py at e; cases e
  | _, _, _, .exc _, e => by unfold py at e; cases e
theorem RepL.dp {K : PySem.W.Frag} {H : Hp} : ∀ {vs : List V} {ds : List D} {ps : List PyData}, RepL K H vs ds → pys ds = some ps → DpAll K H vs ps
  | _, _, _, .nil, e => by unfold pys at e; cases e; exact .nil
  | _, _, _, .cons (d := d) (ds := ds) h r, e => by
    unfold pys at e
    cases q1 : py d with
    | none => rw [q1] at e; cases e
    | some x =>
      cases q2 : pys ds with
      | none => rw [q1, q2] at e; cases e
      | some y => rw [q1, q2] at e; cases e; exact .cons (Rep.dp h q1) (RepL.dp r q2)
end
section
variable {K : PySem.W.Frag} {te ta tb tc : TE} {t u : TT} {env e1 e2 e3 : Env} {r r1 r2 : Res} {d d1 d2 : D} {o : OB} {i j : Int} {x y : Str} {c c1 c2 : Bool} {l m : List D}
/-! ### operators -/
def isNon : D → Bool
  | .non => true
  | _ => false
theorem rep_non {F : Hp} {v : V} (h : Rep K F v d) : decide (v = V.non) = isNon d := by
  cases h <;> first | rfl | simp [isNon]
/-! ### tests -/
/-! ### calls of built-ins -/
end
end DL

namespace DL
open PySem L2

section
variable {K : PySem.W.Frag} {te ta tb tc : TE} {t u : TT} {env e1 e2 e3 : Env} {r r1 r2 : Res} {d d1 d2 : D} {o : OB} {i j : Int} {x y : Str} {c c1 c2 : Bool} {l m : List D}
/-! ### isinstance -/
/-! ### subscripts -/
def cutD {α : Type} (xs : List α) (lo hi : Option Int) : List α := (xs.drop (HT.sIx xs.length 0 lo)).take (HT.sIx xs.length xs.length hi - HT.sIx xs.length 0 lo)
theorem cut_rep {F : Hp} {vs : List V} {lo hi : Option Int} (h : RepL K F vs l) : RepL K F (cutV vs lo hi) (cutD l lo hi) := by
  unfold cutV cutD
  rw [h.length]
  exact (h.drop _).take _
/-! ### displays, list(..), tuple(..), + -/
/-! ### what is walked -/
/-- both: for x in e, by what e is -/
def iSeqU (K : PySem.W.Frag) (te : TE) : TI := fun σ H R => iList K te σ H R ∨ (iTup K te σ H R ∨ iStr te σ H R)
theorem PI.or {X : Cx} {tg e : Expr} {w1 w2 : TI} (h1 : PI X tg e w1) (h2 : PI X tg e w2) : PI X tg e (fun σ H R => w1 σ H R ∨ w2 σ H R) := ⟨fun pins s σ H R I h => by
  rcases h with h | h
  · exact h1.run pins s σ H R I h
  · exact h2.run pins s σ H R I h⟩
theorem pi_seqU {X : Cx} {K : PySem.W.Frag} {tg e : Expr} {te : TE} (h : PE X e te) (q : X.K = K := by rfl) : PI X tg e (iSeqU K te) := by subst q; exact PI.or (pi_list h) (PI.or (pi_tup h) (pi_str h))
/-- the ints of a range -/
def rng (lo : Int) (n : Nat) : List D := (List.range n).map fun i => .int (lo + (i : Nat))
def rngC (lo c : Int) (n : Nat) : List D := (List.range n).map fun i => .int (lo + (i : Nat) * c)
theorem rng_get {lo : Int} {n i : Nat} {d : D} (h : (rng lo n)[i]? = some d) : d = .int (lo + (i : Nat)) ∧ i < n := by
  unfold rng at h
  rw [List.getElem?_map] at h
  by_cases q : i < n
  · rw [List.getElem?_range q] at h; cases h; exact ⟨rfl, q⟩
  · rw [List.getElem?_eq_none (by simpa using Nat.le_of_not_lt q)] at h; cases h
theorem rngC_get {lo c : Int} {n i : Nat} {d : D} (h : (rngC lo c n)[i]? = some d) : d = .int (lo + (i : Nat) * c) ∧ i < n := by
  unfold rngC at h
  rw [List.getElem?_map] at h
  by_cases q : i < n
  · rw [List.getElem?_range q] at h; cases h; exact ⟨rfl, q⟩
  · rw [List.getElem?_eq_none (by simpa using Nat.le_of_not_lt q)] at h; cases h
theorem rng_len {lo : Int} {n : Nat} : (rng lo n).length = n := by unfold rng; simp
theorem rngC_len {lo c : Int} {n : Nat} : (rngC lo c n).length = n := by unfold rngC; simp
end
end DL

namespace DL
open PySem L2

/-! ### targets -/
section
variable {K : PySem.W.Frag} {te ta tb tc : TE} {t u : TT} {env env' e1 e2 e3 : Env} {r r1 r2 : Res} {d d1 d2 : D} {o : OB} {i j : Nat} {c c1 c2 : Bool} {l m : List D} {g : TG}
/-! ### comprehensions -/
def wipeE (env : Env) : List Nat → Env
  | [] => env
  | v :: vs => (wipeE env vs).set v .any
theorem wipeE_len (env : Env) : ∀ vs : List Nat, (wipeE env vs).length = env.length
  | [] => rfl
  | v :: vs => by unfold wipeE; rw [List.length_set, wipeE_len env vs]
theorem wipeE_get {x : EV} : ∀ {vs : List Nat} {i : Nat}, (wipeE env vs)[i]? = some x → x = .any ∨ (i ∉ vs ∧ env[i]? = some x)
  | [], i, h => .inr ⟨by simp, h⟩
  | v :: vs, i, h => by
    unfold wipeE at h
    by_cases q : v = i
    · subst q
      rw [List.getElem?_set] at h
      split at h
      · split at h
        · cases h; exact .inl rfl
        · cases h
      · rename_i z; exact absurd rfl z
    · rw [List.getElem?_set_ne q] at h
      rcases wipeE_get h with z | ⟨z1, z2⟩
      · exact .inl z
      · exact .inr ⟨by simp only [List.mem_cons, not_or]; exact ⟨fun z => q z.symm, z1⟩, z2⟩
theorem wipe_out {σ : L2.St} : ∀ {vs : List Nat} {i : Nat}, i ∉ vs → (wipe σ vs)[i]? = σ[i]?
  | [], _, _ => rfl
  | v :: vs, i, h => by
    simp only [List.mem_cons, not_or] at h
    unfold wipe
    rw [List.getElem?_set_ne (Ne.symm h.1), wipe_out h.2]
theorem Sig.wiped {b : Bs} {F : Hp} {oa : Nat → Addr} {σ : L2.St} {H : Hp} (S : Sig K b F oa σ H env) (vs : List Nat) : Sig K b F oa (L2.wipe σ vs) H (wipeE env vs) where
  g := S.g
  len := by rw [wipe_length, wipeE_len, S.len]
  val := fun i d e => by
    rcases wipeE_get e with q | ⟨q, e⟩
    · cases q
    · rw [wipe_out q]; exact S.val i d e
  own := fun i o e => by
    rcases wipeE_get e with q | ⟨q, e⟩
    · cases q
    · rw [wipe_out q]; exact S.own i o e
  dist := fun i j o u e f z => by
    rcases wipeE_get e with q | ⟨_, e⟩
    · cases q
    · rcases wipeE_get f with q | ⟨_, f⟩
      · cases q
      · exact S.dist i j o u e f z
  fix := S.fix
/-- behind a turn: the slots vs as they were ahead, the others as they are -/
def back (vs : List Nat) : Nat → Env → Env → Env
  | n, a :: r, x :: s => (if vs.contains n then a else x) :: back vs (n + 1) r s
  | _, _, _ => []
theorem back_get {vs : List Nat} : ∀ {env e2 : Env} {n i : Nat}, env.length = e2.length → (back vs n env e2)[i]? = if vs.contains (n + i) then env[i]? else e2[i]?
  | [], [], _, i, _ => by unfold back; simp
  | [], _ :: _, _, _, h => by simp at h
  | _ :: _, [], _, _, h => by simp at h
  | a :: r, x :: s, n, 0, _ => by
    unfold back
    rw [Nat.add_zero]
    show some (if vs.contains n = true then a else x) = if vs.contains n = true then some a else some x
    split <;> rfl
  | a :: r, x :: s, n, i + 1, h => by
    unfold back
    rw [List.getElem?_cons_succ, back_get (by simpa using h), show n + 1 + i = n + (i + 1) by omega]
    rfl
def noOwn (vs : List Nat) (env : Env) : Prop := ∀ (i : Nat) (o : OB), i ∈ vs → env[i]? ≠ some (.own o)
/-- what a turn in the block leaves, told of the slots outside -/
theorem Stp.block {oa : Nat → Addr} {vs : List Nat} {F H F' H' : Hp} (x : Stp oa (wipeE env vs) F H e2 F' H') (n : noOwn vs env) (hl : env.length = e2.length) : Stp oa env F H (back vs 0 env e2) F' H' where
  ff := x.ff
  kp := fun a u h q => x.kp a u h fun j o e => by
    rcases wipeE_get e with z | ⟨_, z⟩
    · cases z
    · exact q j o z
  gn := x.gn
  th := x.th
  sub := fun j o e => by
    rw [back_get hl, Nat.zero_add] at e
    by_cases w : j ∈ vs
    · rw [if_pos (by simpa using w)] at e; exact absurd e (n j o w)
    · rw [if_neg (by simpa using w)] at e
      obtain ⟨o', e'⟩ := x.sub j o e
      rcases wipeE_get e' with z | ⟨_, z⟩
      · cases z
      · exact ⟨o', z⟩
end
end DL

namespace DL
open PySem L2

/-- what a def hands back -/
inductive Ret where
  | val (d : D) | new (o : OB) | exc (C : Addr)
def RetR (K : PySem.W.Frag) (b : Bs) (F : Hp) (H : Hp) (v : V) : Ret → Prop
  | .val d => Rep K F v d
  | .new o => ∃ a, v = .ref a ∧ F a = none ∧ b.H a = none ∧ (∀ j, b.fx j ≠ some a) ∧ ORep K F H a o
  | .exc _ => False
structure Sat (K : PySem.W.Frag) (b : Bs) (F : Hp) (W : WX) (D : Ends) (N B C : Env → Prop) (R : Ret → Env → Prop) : Prop where
  nx : ∀ env F' oa σ H, N env → Sig K b F' oa σ H env → Ex F F' → D.nx σ H
  bk : ∀ env F' oa σ H, B env → Sig K b F' oa σ H env → Ex F F' → D.bk σ H
  ct : ∀ env F' oa σ H, C env → Sig K b F' oa σ H env → Ex F F' → D.ct σ H
  rt : ∀ r env F' oa σ H v, R r env → Sig K b F' oa σ H env → Ex F F' → RetR K b F' H v r → D.rt v H
  xc : ∀ X env F' oa σ H, R (.exc X) env → Sig K b F' oa σ H env → Ex F F' → W (.ref X) none σ H
theorem Sat.mono {K : PySem.W.Frag} {b : Bs} {F F1 : Hp} {W : WX} {D : Ends} {N B C : Env → Prop} {R : Ret → Env → Prop} (s : Sat K b F W D N B C R) (e : Ex F F1) : Sat K b F1 W D N B C R :=
  ⟨fun env F' oa σ H h S x => s.nx env F' oa σ H h S (e.trans x), fun env F' oa σ H h S x => s.bk env F' oa σ H h S (e.trans x), fun env F' oa σ H h S x => s.ct env F' oa σ H h S (e.trans x), fun r env F' oa σ H v h S x q => s.rt r env F' oa σ H v h S (e.trans x) q, fun X env F' oa σ H h S x => s.xc X env F' oa σ H h S (e.trans x)⟩
/-- a statement: from env it goes on (N), breaks (B), continues (C), or hands back (R); pr: the slots whose objects were handed in to be changed -/
def Exec (K : PySem.W.Frag) (pr : List Nat) (W : WX) (t : TS) (env : Env) (N B C : Env → Prop) (R : Ret → Env → Prop) : Prop := ∀ (b : Bs) (F : Hp) (oa : Nat → Addr) (σ : L2.St) (H : Hp) (D : Ends),
  (∀ i, b.fx i ≠ none → i ∈ pr) → Sig K b F oa σ H env → Sat K b F W D N B C R → t D σ H

section
variable {K : PySem.W.Frag} {pr : List Nat} {W : WX} {te ta tb tc : TE} {t u : TT} {s s1 s2 : TS} {env env' e1 e2 e3 : Env} {r r1 r2 : Res} {d d1 d2 : D} {o : OB} {i j : Nat} {c c1 c2 : Bool} {l m : List D} {g : TG} {N N' B B' C C' : Env → Prop} {R R' : Ret → Env → Prop}
theorem x_mono (h : Exec K pr W s env N B C R) (hn : ∀ e, N e → N' e) (hb : ∀ e, B e → B' e) (hc : ∀ e, C e → C' e) (hr : ∀ r e, R r e → R' r e) : Exec K pr W s env N' B' C' R' := fun b F oa σ H D hp S st =>
  h b F oa σ H D hp S ⟨fun env F oa σ H h S => st.nx env F oa σ H (hn _ h) S, fun env F oa σ H h S => st.bk env F oa σ H (hb _ h) S, fun env F oa σ H h S => st.ct env F oa σ H (hc _ h) S, fun r env F oa σ H v h S x q => st.rt r env F oa σ H v (hr _ _ h) S x q, fun X env F oa σ H h S x => st.xc X env F oa σ H (hr _ _ h) S x⟩
end

/-! ### promises -/
/-- an argument: data, or an object handed in to be changed -/
inductive AV where
  | val (d : D) | own (o : OB)
structure ArgsR (K : PySem.W.Frag) (F H : Hp) (vs : List V) (as : List AV) : Prop where
  len : vs.length = as.length
  val : ∀ (i : Nat) (d : D), as[i]? = some (.val d) → ∃ v, vs[i]? = some v ∧ Rep K F v d
  own : ∀ (i : Nat) (o : OB), as[i]? = some (.own o) → ∃ a, vs[i]? = some (.ref a) ∧ F a = none ∧ ORep K F H a o
  dist : ∀ (i j : Nat) (o u : OB) (a : Addr), as[i]? = some (.own o) → as[j]? = some (.own u) → vs[i]? = some (.ref a) → vs[j]? = some (.ref a) → i = j
/-- an address of an object that was handed in to be changed -/
def ownA (vs : List V) (as : List AV) (a : Addr) : Prop := ∃ (i : Nat) (o : OB), as[i]? = some (.own o) ∧ vs[i]? = some (.ref a)
structure CallEnd (K : PySem.W.Frag) (F H F' H' : Hp) (vs : List V) (as as' : List AV) (v : V) (r : Ret) : Prop where
  ff : Ex F F'
  fh : Ex F' H'
  kp : ∀ a u, H a = some u → ¬ ownA vs as a → H' a = some u
  gn : ∀ a, F' a ≠ none → F a ≠ none ∨ H a = none
  th : ∀ a, H a ≠ none → H' a ≠ none
  own : ∀ (i : Nat) (o : OB), as[i]? = some (.own o) → ∃ o' a, as'[i]? = some (.own o') ∧ vs[i]? = some (.ref a) ∧ F' a = none ∧ ORep K F' H' a o'
  ret : match r with
    | .val d => Rep K F' v d
    | .new o => ∃ a, v = .ref a ∧ F' a = none ∧ H a = none ∧ ORep K F' H' a o
    | .exc _ => True
/-- what is wanted of what came -/
def outR (r : Ret) (E : XK) (Q : VK) (v : V) (H : Hp) : Prop := match r with
  | .exc C => E (.ref C) none H
  | _ => Q v H
/-- THE PROMISE: from arguments as it hands back r and leaves them as' -/
def SpG (K : PySem.W.Frag) (P : List AV → Ret → List AV → Prop) : Sp := fun vs H Q E => ∃ F as r as', Ex F H ∧ ArgsR K F H vs as ∧ P as r as' ∧ ∀ v F' H', CallEnd K F H F' H' vs as as' v r → outR r E Q v H'
def AV.ev : AV → EV
  | .val d => .val d
  | .own o => .own o
open Classical in
noncomputable def hideA (vs : List V) (as : List AV) (H : Hp) : Hp := fun a => if ownA vs as a then none else H a
theorem hideA_ex {vs : List V} {as : List AV} {H : Hp} : Ex (hideA vs as H) H := fun a o e => by
  unfold hideA at e
  split at e
  · cases e
  · exact e
/-- what was handed in is in its slots yet -/
def Held (as as' : List AV) (e : Env) : Prop := ∀ (i : Nat) (o : OB), as[i]? = some (AV.own o) → ∃ o', as'[i]? = some (AV.own o') ∧ e[i]? = some (EV.own o')
/-- a def's body keeps its promise -/
theorem run_SpG {K : PySem.W.Frag} {P : List AV → Ret → List AV → Prop} {Nm : List Str} {n : Nat} {t : TS} {vs : List V} {H : Hp} {Q : VK} {E : XK} (h : SpG K P vs H Q E) (hn : ∀ as r as', P as r as' → as.length = n ∧ n ≤ Nm.length)
    (body : ∀ as r as', P as r as' → ∃ pr : List Nat, (∀ (i : Nat) (o : OB), as[i]? = some (AV.own o) → i ∈ pr) ∧ Exec K pr (fun cls d _ H => E cls d H) t (as.map AV.ev ++ List.replicate (Nm.length - n) .any)
      (fun e => r = .val .non ∧ Held as as' e) (fun _ => False) (fun _ => False) (fun q e => q = r ∧ Held as as' e)) :
    t { nx := fun _ H' => Q .non H', rt := Q } (L2.start Nm vs) H := by
  obtain ⟨F, as, r, as', e, ar, p, k⟩ := h
  obtain ⟨hl, hnm⟩ := hn as r as' p
  obtain ⟨pr, hpr, hx⟩ := body as r as' p
  have lvs : vs.length = n := by rw [ar.len, hl]
  have stg : ∀ (i : Nat) (v : V), vs[i]? = some v → (L2.start Nm vs)[i]? = some (some v) := fun i v h => by
    unfold L2.start
    have hi : i < vs.length := (List.getElem?_eq_some_iff.mp h).1
    rw [List.getElem?_append_left (by simpa using hi), List.getElem?_map, h]; rfl
  have evg : ∀ (i : Nat) (x : EV), (as.map AV.ev ++ List.replicate (Nm.length - n) .any)[i]? = some x → x = .any ∨ ∃ a, as[i]? = some a ∧ x = a.ev := fun i x h => by
    by_cases hi : i < as.length
    · rw [List.getElem?_append_left (by simpa using hi), List.getElem?_map] at h
      cases z : as[i]? with
      | none => rw [z] at h; cases h
      | some a => rw [z] at h; cases h; exact .inr ⟨a, rfl, rfl⟩
    · rw [List.getElem?_append_right (by simpa using Nat.le_of_not_lt hi)] at h
      have := List.getElem?_eq_some_iff.mp h
      obtain ⟨h1, h2⟩ := this
      rw [List.getElem_replicate] at h2
      exact .inl h2.symm
  have evo : ∀ (i : Nat) (o : OB), (as.map AV.ev ++ List.replicate (Nm.length - n) .any)[i]? = some (.own o) → as[i]? = some (.own o) := fun i o h => by
    rcases evg i _ h with z | ⟨a, h1, h2⟩
    · cases z
    · cases a with
      | val d => cases h2
      | own u => cases h2; exact h1
  -- the addresses
  let oa : Nat → Addr := fun i => match vs[i]? with
    | some (.ref a) => a
    | _ => 0
  have oav : ∀ (i : Nat) (a : Addr), vs[i]? = some (.ref a) → oa i = a := fun i a h => by show (match vs[i]? with | some (.ref a) => a | _ => 0) = a; rw [h]
  let fx : Nat → Option Addr := fun i => match as[i]? with
    | some (.own _) => some (oa i)
    | _ => none
  have fxs : ∀ i a, fx i = some a → ∃ o, as[i]? = some (.own o) ∧ a = oa i := fun i a h => by
    have h' : (match as[i]? with | some (.own _) => some (oa i) | _ => none) = some a := h
    cases z : as[i]? with
    | none => rw [z] at h'; cases h'
    | some x =>
      rw [z] at h'
      cases x with
      | val d => cases h'
      | own o => cases h'; exact ⟨o, rfl, rfl⟩
  have hidN : ∀ (i : Nat) (o : OB) (a : Addr), as[i]? = some (.own o) → vs[i]? = some (.ref a) → hideA vs as H a = none := fun i o a h1 h2 => by
    unfold hideA
    rw [if_pos ⟨i, o, h1, h2⟩]
  have S : Sig K ⟨F, hideA vs as H, fx⟩ F oa (L2.start Nm vs) H (as.map AV.ev ++ List.replicate (Nm.length - n) .any) := by
    refine ⟨⟨Ex.refl _, hideA_ex, e, fun a h => .inl h⟩, ?_, fun i d h => ?_, fun i o h => ?_, fun i j o u h1 h2 q => ?_, fun i a h => ?_⟩
    · unfold L2.start; simp [lvs, hl]
    · rcases evg i _ h with z | ⟨a, h1, h2⟩
      · cases z
      · cases a with
        | own o => cases h2
        | val d' =>
          cases h2
          obtain ⟨v, q1, q2⟩ := ar.val i d h1
          exact ⟨v, stg i v q1, q2⟩
    · have h1 := evo i o h
      obtain ⟨a, q1, q2, q3⟩ := ar.own i o h1
      rw [oav i a q1]
      exact ⟨stg i _ q1, q2, hidN i o a h1 q1, q3⟩
    · have h1 := evo i o h1
      have h2 := evo j u h2
      obtain ⟨a, q1, _⟩ := ar.own i o h1
      obtain ⟨a', q1', _⟩ := ar.own j u h2
      rw [oav i a q1, oav j a' q1'] at q
      subst q
      exact ar.dist i j o u a h1 h2 q1 q1'
    · obtain ⟨o, h1, rfl⟩ := fxs i a h
      obtain ⟨a, q1, _, q3⟩ := ar.own i o h1
      obtain ⟨w, hw⟩ := q3.ho
      exact ⟨rfl, by rw [oav i a q1, hw]; simp⟩
  have fin : ∀ env F' oa' σ' H' v, Sig K ⟨F, hideA vs as H, fx⟩ F' oa' σ' H' env → Held as as' env → (RetR K ⟨F, hideA vs as H, fx⟩ F' H' v r ∨ ∃ C, r = .exc C) → outR r E Q v H' := fun env F' oa' σ' H' v S' ho hr => by
    have fxo : ∀ (i : Nat) (o : OB) (a : Addr), as[i]? = some (.own o) → vs[i]? = some (.ref a) → oa' i = a ∧ H' a ≠ none := fun i o a h1 h2 => by
      have q : fx i = some a := by
        show (match as[i]? with | some (.own _) => some (oa i) | _ => none) = some a
        rw [h1, oav i a h2]
      exact S'.fix i a q
    have hkp : ∀ a u, H a = some u → ¬ ownA vs as a → H' a = some u := fun a u h n => S'.g.gh a u (by
      show hideA vs as H a = some u
      unfold hideA
      rw [if_neg n]; exact h)
    refine k v F' H' ⟨S'.g.gf, S'.g.fh, hkp, fun a h => ?_, fun a h => ?_, fun i o h => ?_, ?_⟩
    · rcases S'.g.gn a h with q | q
      · exact .inl q
      · by_cases z : ownA vs as a
        · obtain ⟨i, o, h1, h2⟩ := z
          obtain ⟨o', h3, h4⟩ := ho i o h1
          obtain ⟨_, x2, _⟩ := S'.own i o' h4
          rw [(fxo i o a h1 h2).1] at x2
          exact absurd x2 h
        · refine .inr ?_
          have q' : hideA vs as H a = none := q
          unfold hideA at q'
          rw [if_neg z] at q'
          exact q'
    · by_cases z : ownA vs as a
      · obtain ⟨i, o, h1, h2⟩ := z
        exact (fxo i o a h1 h2).2
      · cases w : H a with
        | none => exact absurd w h
        | some u => rw [hkp a u w z]; simp
    · obtain ⟨o', h3, h4⟩ := ho i o h
      obtain ⟨a, q1, _⟩ := ar.own i o h
      obtain ⟨_, x2, _, x4⟩ := S'.own i o' h4
      rw [(fxo i o a h q1).1] at x2 x4
      exact ⟨o', a, h3, q1, x2, x4⟩
    · cases r with
      | exc C => trivial
      | val d =>
        rcases hr with hr | ⟨_, hr⟩
        · exact hr
        · cases hr
      | new o =>
        rcases hr with hr | ⟨_, hr⟩
        rotate_left
        · cases hr
        obtain ⟨a, rfl, h1, h2, h3, h4⟩ := hr
        refine ⟨a, rfl, h1, ?_, h4⟩
        have h2' : hideA vs as H a = none := h2
        unfold hideA at h2'
        split at h2'
        · rename_i z
          obtain ⟨i, o', h5, h6⟩ := z
          refine absurd ?_ (h3 i)
          show (match as[i]? with | some (.own _) => some (oa i) | _ => none) = some a
          rw [h5, oav i a h6]
        · exact h2'
  refine hx ⟨F, hideA vs as H, fx⟩ F oa (L2.start Nm vs) H _ (fun i h => ?_) S ⟨fun env F' oa σ H h S x => ?_, fun _ _ _ _ _ h => h.elim, fun _ _ _ _ _ h => h.elim, fun q env F' oa σ H v h S x hr => ?_, fun X env F' oa σ H h S x => ?_⟩
  · cases z : fx i with
    | none => exact absurd z h
    | some a =>
      obtain ⟨o, h1, _⟩ := fxs i a z
      exact hpr i o h1
  · obtain ⟨h1, h2⟩ := h
    subst h1
    exact fin env F' oa σ H .non S h2 (.inl .non)
  · obtain ⟨h1, h2⟩ := h
    subst h1
    have := fin env F' oa σ H v S h2 (.inl hr)
    cases q with
    | exc C => exact hr.elim
    | val d => exact this
    | new o => exact this
  · obtain ⟨h1, h2⟩ := h
    subst h1
    exact fin env F' oa σ H .non S h2 (.inr ⟨_, rfl⟩)
/-- raise C('..') -/
def tRaise (W : WX) (C : Addr) : TS := fun _ σ H => W (.ref C) none σ H
section
variable {K : PySem.W.Frag} {pr : List Nat} {W : WX} {env e1 : Env} {N B C : Env → Prop} {R : Ret → Env → Prop} {X : Addr}
end
end DL

namespace DL
open PySem L2

/-! ### calls -/
section
variable {K : PySem.W.Frag} {env e1 : Env} {P : List AV → Ret → List AV → Prop} {rs : List Res} {as as' : List AV} {d : D} {o : OB} {ta : TA} {E : XK}
def slots : List Res → List Nat
  | [] => []
  | .val _ :: r => slots r
  | .slot i :: r => i :: slots r
/-! ### expressions that raise -/
variable {W : WX} {X : Addr} {te tb tl : TE} {t u : TT} {rr : R2} {e2 : Env} {r : Res} {cc : Bool} {pr : List Nat} {N B C : Env → Prop} {R : Ret → Env → Prop} {g : TG}
end
end DL

/-! ### an exception that is caught, and kept by a name behind its clause -/
namespace L2
open PySem PySem.Spec PyProof.Rows DL
section
variable {X : Cx} {pins : List (Addr × Obj)} {σ : L2.St} {H : Hp} {s : Shared}
/-- what 'except x as n: m = n' wishes: slot j is m's, i is n's -/
def wKeep (K : PySem.W.Frag) (c : Value) (i j : Nat) (D : Ends) : WX := fun cls d σ H =>
  ∃ C, cls = .ref C ∧ d = none ∧ PySem.W.exmOne K cls c = some true ∧ ∀ a, H a = none → D.nx (((σ.set i (some (.ref a))).set j (some (.ref a))).set i none) (upd H a (ExK C a))
end
section
variable {X : Cx} {x n : Str} {c : Value} {i j : Nat} {body suite : List Stmt} {b₀ : Stmt} {np pos pos' : Pos} {tb : WX → TS}
end
end L2

namespace DL
open PySem L2
section
variable {K : PySem.W.Frag} {b : Bs} {F H : Hp} {oa : Nat → Addr} {σ : L2.St} {env : Env} {i j : Nat}
theorem Sig.unset (S : Sig K b F oa σ H env) : Sig K b F oa (σ.set i none) H (env.set i .any) where
  g := S.g
  len := by simp [S.len]
  val := fun n d e => by
    by_cases q : i = n
    · subst q
      rw [List.getElem?_set] at e
      split at e
      · split at e <;> cases e
      · rename_i z; exact absurd rfl z
    · rw [List.getElem?_set_ne q] at e
      rw [List.getElem?_set_ne q]
      exact S.val n d e
  own := fun n d e => by
    by_cases q : i = n
    · subst q
      rw [List.getElem?_set] at e
      split at e
      · split at e <;> cases e
      · rename_i z; exact absurd rfl z
    · rw [List.getElem?_set_ne q] at e
      rw [List.getElem?_set_ne q]
      exact S.own n d e
  dist := fun n m o u e f z => by
    have t : ∀ (n : Nat) (o : OB), (env.set i .any)[n]? = some (EV.own o) → env[n]? = some (EV.own o) := fun n o e => by
      by_cases q : i = n
      · subst q
        rw [List.getElem?_set] at e
        split at e
        · split at e <;> cases e
        · rename_i z; exact absurd rfl z
      · rw [List.getElem?_set_ne q] at e; exact e
    exact S.dist n m o u (t _ _ e) (t _ _ f) z
  fix := S.fix
end
/-- try: body / except c as n: m = n -/
def tTry (K : PySem.W.Frag) (c : Value) (i j : Nat) (tb : WX → TS) : TS := fun D σ H => tb (wKeep K c i j D) D σ H
section
variable {K : PySem.W.Frag} {pr : List Nat} {W : WX} {env : Env} {i j : Nat} {N B C : Env → Prop} {R : Ret → Env → Prop} {c : Value} {tb : WX → TS}
/-- what is caught goes on with slot j holding it -/
def caught (K : PySem.W.Frag) (c : Value) (i j : Nat) (N : Env → Prop) (R : Ret → Env → Prop) : Ret → Env → Prop := fun q e => match q with
  | .exc X => PySem.W.exmOne K (.ref X) c = some true ∧ N (((e.set i (.val (.exc X))).set j (.val (.exc X))).set i .any)
  | q => R q e
end

/-! ### isinstance, of exceptions too -/
def rIsX (K : PySem.W.Frag) : List V → Hp → VK → Prop := fun xs H Q => ∃ (a C : Addr) (c : V) (u : Value) (b : Bool), xs = [.ref a, c] ∧ H a = some (ExK C a) ∧ ExcC K C ∧ ClsV c u ∧ PySem.W.kitOne K (.ref C) u = some b ∧ Q (.bl b) H
def rIsXT (K : PySem.W.Frag) : List V → Hp → VK → Prop := fun xs H Q => ∃ (a C tp : Addr) (cs : List V) (us : List Value) (b : Bool), xs = [.ref a, .ref tp] ∧ H a = some (ExK C a) ∧ ExcC K C ∧ H tp = some (.tup cs) ∧ Paired ClsV cs us ∧ PySem.W.kitAny K (.ref C) us = some b ∧ Q (.bl b) H
theorem exk_at {X : Cx} {pins : List (Addr × Obj)} {σ : L2.St} {H : Hp} {s : Shared} {a C : Addr} (I : Inv X pins σ H s) (h : H a = some (ExK C a)) : ∃ oe, PySem.W.InstAt s.heap a oe C none := by
  obtain ⟨⟨oe, vs, h1, h2, h3⟩, _⟩ := (show ObjOk X.prog X.w H s.heap a (ExK C a) from I.hok a _ h)
  obtain ⟨oc, od, dt, sl⟩ := oe
  obtain ⟨z1, z2⟩ := h2
  dsimp only at z1 z2 h3
  subst z1 z2 h3
  exact ⟨_, h1, rfl, rfl, trivial⟩
section
variable {X : Cx}
theorem call_isX : CallR X (.builtin "isinstance") (rIsX X.K) := by
  intro pins s σ H xs us Q I r h
  obtain ⟨a, C, c, u, b, rfl, ha, x, k, e, q⟩ := h
  obtain ⟨u1, u2, rfl, r1, r2⟩ := vals2 r
  have e2 := k.eq r2
  subst e2
  cases (show u1 = Value.ref a from r1)
  obtain ⟨oe, J⟩ := exk_at I ha
  exact PySem.W.kia_one (PySem.W.handS_kitx_exc x.hg x.hk x.hs x.hd x.ha x.hn x.ht x.hm) I.kIn J e (fun z => nomatch z) fun tk => ⟨.bl b, H, I.tok tk, rfl, q⟩
theorem call_isXT : CallR X (.builtin "isinstance") (rIsXT X.K) := by
  intro pins s σ H xs us Q I r h
  obtain ⟨a, C, tp, cs, ws, b, rfl, ha, x, hT, k, e, q⟩ := h
  obtain ⟨u1, u2, rfl, r1, r2⟩ := vals2 r
  cases (show u1 = Value.ref a from r1)
  cases (show u2 = Value.ref tp from r2)
  obtain ⟨oe, J⟩ := exk_at I ha
  obtain ⟨_, its, rv, o, h1, h2, n, h3⟩ := (show ObjOk X.prog X.w H s.heap tp (.tup cs) from I.hok tp _ hT)
  have e3 := ClsV.all k rv
  subst e3
  obtain ⟨oc, od, dt, sl⟩ := o
  dsimp only at h2 h3
  subst h2 h3
  exact PySem.W.kia_tup (PySem.W.handS_kitx_exc x.hg x.hk x.hs x.hd x.ha x.hn x.ht x.hm) I.kIn J h1 e (fun z => nomatch z) fun tk => ⟨.bl b, H, I.tok tk, rfl, q⟩
end
def rIsiU (K : PySem.W.Frag) : List V → Hp → VK → Prop := fun xs H Q => rIsi K xs H Q ∨ (rIsiT K xs H Q ∨ (rIsX K xs H Q ∨ rIsXT K xs H Q))
theorem call_isiA {X : Cx} {K : PySem.W.Frag} (e : X.K = K := by rfl) : CallR X (.builtin "isinstance") (rIsiU K) := by subst e; exact CallR.or call_isi (CallR.or call_isiT (CallR.or call_isX call_isXT))
/-- raise C('..') -/
theorem ps_raiseC {X : Cx} {W : WX} {C : Addr} {e : Expr} {pos : Pos} (hc : X.calm = true) (tk : Takes X W) (he : PMk X e (fun _ H Q => Q (.ref C) none H)) : PS X (.Raise (some e) none pos) (tRaise W C) := ps_raise hc tk he
end DL

namespace DL
open PySem L2

/-! ### operators and built-ins by what their operands came to -/
section
variable {K : PySem.W.Frag} {te ta tb tc : TE} {t u : TT} {env e e1 e2 e3 : Env} {r r1 r2 r3 : Res} {d d1 d2 : D} {o : OB} {i j k' : Int} {x y : Str} {c c1 c2 : Bool} {l m : List D} {rr : R2}
end

/-! ### defs -/
/-- a def that may be called by its name -/
structure Df (P : Program) (w : World) (K : PySem.W.Frag) (mg : Str → Option Value) (base : Heap) (k : Nat) (x : Str) (sp : Sp) : Prop where
  ex : ∃ (f : Addr) (fd : FuncData) (ps : List Str), FnOk P w K mg base CX0 k f fd ps sp ∧ mg x = some (.ref f) ∧ PySem.W.keepIn K (.ref f) = true ∧ Binds K fd ps []
section
variable {X : Cx} {k j : Nat} {x : Str} {sp : Sp} {p pos : Pos} {e : Expr} {es : List Expr} {t : TA}
end
/-- .. that may raise -/
structure Dx (P : Program) (w : World) (K : PySem.W.Frag) (mg : Str → Option Value) (base : Heap) (k : Nat) (x : Str) (sp : Sp) : Prop where
  ex : ∃ (f : Addr) (fd : FuncData) (ps : List Str), FnOk P w K mg base (L2.CX P w) k f fd ps sp ∧ mg x = some (.ref f) ∧ PySem.W.keepIn K (.ref f) = true ∧ Binds K fd ps []
section
variable {X : Cx} {W : WX} {k j : Nat} {x : Str} {sp : Sp} {p pos : Pos} {e : Expr} {es : List Expr} {t : TA}
theorem pe_dx (c : Dx X.prog X.w X.K X.mg X.base k x sp) (tk : Takes X W) (hr : Room j X.A) (hk : k ≤ j) (hg : Gl X x) (ha : PA X (e :: es) t)
    (hdb : (x == ("__debug__" : Str)) = false := by decide) (he : starEach (e :: es) X.env = (false, eval e X.env) :: starEach es X.env := by rfl) (hpl : (backTo pos (starEach es X.env)).any (·.1) = false := by rfl) :
    PE X (.Call (.Name x p) (e :: es) [] pos) (tCallS sp (WE W) t) := by
  obtain ⟨f, fd, ps, F, hm, kp, b⟩ := c.ex
  exact pe_callS F (hr.mono hk) hg hm kp b (fun σ => passAt tk σ) ha hdb he hpl
/-- .. and does not, where it is called -/
theorem pe_dx0 (c : Dx X.prog X.w X.K X.mg X.base k x sp) (hr : Room j X.A) (hk : k ≤ j) (hg : Gl X x) (ha : PA X (e :: es) t)
    (hdb : (x == ("__debug__" : Str)) = false := by decide) (he : starEach (e :: es) X.env = (false, eval e X.env) :: starEach es X.env := by rfl) (hpl : (backTo pos (starEach es X.env)).any (·.1) = false := by rfl) :
    PE X (.Call (.Name x p) (e :: es) [] pos) (tCall sp [] E0 t) := by
  obtain ⟨f, fd, ps, F, hm, kp, b⟩ := c.ex
  exact pe_call F (hr.mono hk) hg hm kp b .nil passL ha hdb he hpl
end
theorem vals_noOwn {ds : List D} {i : Nat} {o : OB} : (ds.map AV.val)[i]? ≠ some (AV.own o) := by
  rw [List.getElem?_map]
  cases ds[i]? <;> simp
section
variable {K : PySem.W.Frag} {env e1 : Env} {f : List D → D → Prop} {g : List D → OB → Prop} {rs : List Res} {ds : List D} {d : D} {o : OB} {ta : TA} {E : XK}
end
section
variable {K : PySem.W.Frag} {env e1 : Env} {f : List D → Ret → Prop} {rs : List Res} {ds : List D} {d : D} {o : OB} {ta : TA} {W : WX} {C : Addr} {E : XK}
end
section
variable {P : Program} {w : World} {K : PySem.W.Frag} {mg : Str → Option Value} {base : Heap} {x qn : Str} {st : Stmt} {fa : Addr} {fd : FuncData} {N ps : List Str} {k : Nat}
theorem spG_len {Pr : List AV → Ret → List AV → Prop} {n : Nat} (hn : ∀ as r as', Pr as r as' → as.length = n) {vs : List V} {H : Hp} {Q : VK} {E : XK} (h : SpG K Pr vs H Q E) : vs.length = n := by
  obtain ⟨F, as, r, as', _, ar, p, _⟩ := h
  rw [ar.len, hn as r as' p]
theorem Fn.ofG {Pr : List AV → Ret → List AV → Prop} (F : Fun K x qn st fa fd) (S : FnScope N ps (defScope st)) (hn : ∀ as r as', Pr as r as' → as.length = ps.length)
    (body : ∀ (cdv : Value) (A : Around) (outer : List PySem.Env) (s : Shared) (H : Hp) (E : XK), Room k (A.deeper (PyProof.Rows.envOfC qn (defScope st) s.heap.objs.size fa cdv)) →
      ∃ t, PSs (cxOf CX0 P w K mg base N qn (defScope st) fa cdv A outer s H E).nox (defBody st) t ∧ ∀ as r as', Pr as r as' → ∃ pr : List Nat, (∀ (i : Nat) (o : OB), as[i]? = some (AV.own o) → i ∈ pr) ∧ Exec K pr (fun cls d _ H => E cls d H) t (as.map AV.ev ++ List.replicate (N.length - ps.length) .any)
      (fun e => r = .val .non ∧ Held as as' e) (fun _ => False) (fun _ => False) (fun q e => q = r ∧ Held as as' e)) : FnOk P w K mg base CX0 (k + 1) fa fd ps (SpG K Pr) :=
  F.ok S (fun vs H Q E h => spG_len hn h) (fun cdv A outer s H vs Q E hr h => by
    obtain ⟨t, h1, h2⟩ := body cdv A outer s H E hr
    have hpl : ps.length ≤ N.length := by have := congrArg List.length S.pre; rw [List.length_take] at this; omega
    exact ⟨t, h1, run_SpG h (fun as r as' p => ⟨hn as r as' p, hpl⟩) h2⟩)
theorem Dx.of {sp : Sp} (h : FnOk P w K mg base (L2.CX P w) k fa fd ps sp) (F : Fun K x qn st fa fd) (hm : mg x = some (.ref fa)) (b : Binds K fd ps []) : Dx P w K mg base k x sp := ⟨fa, fd, ps, h, hm, F.kp, b⟩
theorem Df.of {sp : Sp} (h : FnOk P w K mg base CX0 k fa fd ps sp) (F : Fun K x qn st fa fd) (hm : mg x = some (.ref fa)) (b : Binds K fd ps []) : Df P w K mg base k x sp := ⟨fa, fd, ps, h, hm, F.kp, b⟩
end
end DL

namespace DL
open PySem L2
/-! ### == of data, by a plain function -/
mutual
def pl : Nat → D → Bool
  | _, .non => true
  | _, .bl _ => true
  | _, .int _ => true
  | _, .str x => PyData.canLay0 (.str x)
  | n + 1, .tup l => plL n l
  | n + 1, .lst l => plL n l
  | _, _ => false
def plL : Nat → List D → Bool
  | _, [] => true
  | n, d :: r => pl n d && plL n r
end
/-- x == y of data -/
def eqB (d e : D) : Bool := match py d, py e with
  | some p, some q => PyData.eqv p q
  | _, _ => false
/-! ### items -/
/-! ### comprehensions over one name, the slots left as they are -/
section
variable {K : PySem.W.Frag} {te : TE} {t : TT} {env e1 : Env} {wi : TI} {j : Nat}
end
/-! ### isinstance of data -/
end DL

namespace DL
open PySem L2
section
variable {K : PySem.W.Frag} {pr : List Nat} {W : WX} {s : TS} {env e1 : Env} {i j : Nat} {N B C : Env → Prop} {R : Ret → Env → Prop} {wi : TI} {ds : List D}
theorem small_of {n : Int} (c : Int) (h0 : 0 ≤ n) (h1 : n ≤ 70) (hc : c = 1 ∨ c = 2 ∨ c = 3 ∨ c = 8) : Builtin.Range.small 0 n c = true := by
  have k1 : ∀ m : Nat, m < 71 → Builtin.Range.small 0 (m : Int) 1 = true := by decide
  have k2 : ∀ m : Nat, m < 71 → Builtin.Range.small 0 (m : Int) 2 = true := by decide
  have k3 : ∀ m : Nat, m < 71 → Builtin.Range.small 0 (m : Int) 3 = true := by decide
  have k8 : ∀ m : Nat, m < 71 → Builtin.Range.small 0 (m : Int) 8 = true := by decide
  have e : n = ((n.toNat : Nat) : Int) := by omega
  rw [e]
  rcases hc with h | h | h | h <;> subst h
  · exact k1 _ (by omega)
  · exact k2 _ (by omega)
  · exact k3 _ (by omega)
  · exact k8 _ (by omega)
theorem rg_of {n c : Int} (h : Builtin.Range.small 0 n c = true) (hc : 0 < c ∧ c < 1000) : RgC 0 n c (if 0 < n then (n - 1) / c + 1 else 0).toNat := by
  refine ⟨by omega, by omega, h, ?_⟩
  unfold Builtin.Range.rangeSize
  rw [if_pos (show c > 0 from hc.1)]
  by_cases q : 0 < n
  · rw [if_pos q, if_pos q]
    have : 0 ≤ (n - 1) / c := Int.ediv_nonneg (by omega) (by omega)
    rw [show n - 0 - 1 = n - 1 by omega]
    omega
  · rw [if_neg q, if_neg q]; rfl
/-- range(0, n, 3) for n to 70 -/
theorem rg3 {n : Int} (h0 : 0 ≤ n) (h1 : n ≤ 70) : RgC 0 n 3 (if 0 < n then (n - 1) / 3 + 1 else 0).toNat := rg_of (small_of 3 h0 h1 (by omega)) (by omega)
theorem log2_lt {n : Int} {k : Nat} (h0 : 0 < n) (h : n < 2 ^ k) (hk : k < 9000) : 0 < n ∧ n.natAbs.log2 < 9000 := by
  refine ⟨h0, ?_⟩
  have e : ((2 ^ k : Nat) : Int) = 2 ^ k := by simp
  have a : n.natAbs < 2 ^ k := by omega
  have := (Nat.log2_lt (n := n.natAbs) (k := k) (by omega)).mpr a
  omega
end
end DL

/-! ### methods of data by what their operands came to -/
namespace L2
open PySem PySem.Spec PyProof.Rows
end L2
namespace DL
open PySem L2
section
variable {K : PySem.W.Frag} {te tb : TE} {ta : TA} {env e e1 e2 : Env} {r r' : Res} {rs : List Res} {d : D} {l : List D} {i j : Nat} {n : Int} {x y : Str}
end
end DL

namespace DL
open PySem L2
/-! ### more statements and operators -/
section
variable {K : PySem.W.Frag} {pr : List Nat} {W : WX} {te ta tb : TE} {env e1 e2 e : Env} {r r1 r2 : Res} {i j : Nat} {l m : List D} {N B C : Env → Prop} {R : Ret → Env → Prop} {n k : Int} {d d1 d2 : D} {c : Bool}
end
end DL
namespace DL
open PySem L2
end DL

/-! ### a tuple times any small number -/
namespace L2
open PySem PySem.Spec PyProof.Rows
theorem mulT_same (l : Addr) (items : Array Value) (n : Nat) (dd : Option Addr) (sl : Array (Option Value)) (x : Int) (u : Tok) (c0 : (decide (x < -(2 ^ 63)) || decide (x ≥ 2 ^ 63)) = false) (c1 : (items.isEmpty || x == 1) = true) :
    Meets (Builtin.«tuple.__mul__» ⟨[.ref l, .int x u], []⟩) (fun _ R s => s.heap.get? l = some { cls := .type "tuple", dict := dd, data := .seq items n, slots := sl } ∧ R (.ok (.ret (.ref l))) s) := .of_wp fun prog w A R s h => by
  obtain ⟨hp, g, d, tk, os⟩ := s
  obtain ⟨hl, h⟩ := h
  have g1 := AutoSeq1.idx_int
  wp_walk using wpAny_loadPart' hl
  repeat (first
    | (refine wpAny_ite_false (decide_eq_false (by rw [c0]; decide)) ?_; wp_walk using wpAny_loadPart' hl)
    | (refine wpAny_ite_true (decide_eq_true c1) ?_; wp_walk using wpAny_loadPart' hl))
  exact ⟨_, rfl, h⟩
theorem mulT_none (l : Addr) (items : Array Value) (n : Nat) (dd : Option Addr) (sl : Array (Option Value)) (x : Int) (u : Tok) (c0 : (decide (x < -(2 ^ 63)) || decide (x ≥ 2 ^ 63)) = false) (c1 : (items.isEmpty || x == 1) = false) (c2 : (decide (x ≤ 0) || items.isEmpty) = true) :
    Meets (Builtin.«tuple.__mul__» ⟨[.ref l, .int x u], []⟩) (fun _ R s => s.heap.get? l = some { cls := .type "tuple", dict := dd, data := .seq items n, slots := sl } ∧
      R (.ok (.ret (.ref s.heap.objs.size))) { s with heap := s.heap.push { cls := .type "tuple", data := .seq #[] }, toks := s.toks }) := .of_wp fun prog w A R s h => by
  obtain ⟨hp, g, d, tk, os⟩ := s
  obtain ⟨hl, h⟩ := h
  have g1 := AutoSeq1.idx_int
  wp_walk using wpAny_loadPart' hl
  repeat (first
    | (refine wpAny_ite_false (decide_eq_false (by rw [c0]; decide)) ?_; wp_walk using wpAny_loadPart' hl)
    | (refine wpAny_ite_false (decide_eq_false (by rw [c1]; decide)) ?_; wp_walk using wpAny_loadPart' hl)
    | (refine wpAny_ite_true (decide_eq_true c2) ?_; wp_walk using wpAny_loadPart' hl))
  exact ⟨_, rfl, h⟩
/-- a tuple times k, a new one: up to 4000000 items -/
theorem rep_new {X : Cx} {pins : List (Addr × Obj)} {s : Shared} {σ : L2.St} {H : Hp} {l : Addr} {k : Int} {t : Tok} {xs : List V} {Q : VK} (I : Inv X pins σ H s) (hT : SqT X.K H l xs) (hne : xs ≠ []) (h1 : 2 ≤ k) (h2 : k ≤ 4000) (hz : xs.length ≤ 1000)
    (q : ∀ p, H p = none → Q (.ref p) (upd H p (.tup (List.replicate k.toNat xs).flatten))) : wpAny (model X.prog X.w) X.A (binaryOp .Mult (.ref l) (.int k t)) (EP X pins σ Q) X.xe s := by
  obtain ⟨its, r, ⟨⟨_, dd, _, sl⟩, ho, rfl, n, rfl⟩, hs⟩ := I.tuple hT
  have le : its.length = xs.length := r.length.symm
  have size : its.toArray.size = xs.length := le
  have full : its.toArray.isEmpty = false := by
    cases its with
    | nil => exact absurd (List.eq_nil_of_length_eq_zero le.symm) hne
    | cons _ _ => rfl
  have most : k.toNat * xs.length ≤ 4000 * 1000 := Nat.mul_le_mul (by omega) hz
  have mosti : ((its.toArray.size : Nat) : Int) * k ≤ 4000000 := by
    have e : ((its.toArray.size : Nat) : Int) * k = ((k.toNat * xs.length : Nat) : Int) := by
      rw [size, Int.natCast_mul, Int.toNat_of_nonneg (by omega), Int.mul_comm]
    rw [e]; omega
  have c0 : (decide (k < -(2 ^ 63)) || decide (k ≥ 2 ^ 63)) = false := by simp; omega
  have c1 : (its.toArray.isEmpty || k == 1) = false := by rw [full]; simp; omega
  have c2 : (decide (k ≤ 0) || its.toArray.isEmpty) = false := by rw [full]; simp; omega
  have c4 : Builtin.Tuple.tupleTooMany (((its.toArray.size : Nat) : Int) * k) = false := by
    unfold Builtin.Tuple.tupleTooMany
    rw [sizeLine_eq]
    exact decide_eq_false (by omega)
  have fit : ∀ {α : Type} (ys : List α), ys.length = xs.length → (List.replicate k.toNat ys).flatten.length ≤ sizeLine := fun ys e => by
    rw [PyProof.Rows.lm_len_rep_flat, e, sizeLine_eq]; omega
  have mul := tuple_mulW l its.toArray n dd sl k t c0 c1 c2 (by omega) c4 (by rw [size_rep, List.size_toArray]; exact fit its le)
  rw [size_rep] at mul
  refine wpAny_binaryOp_repeat_ref (T := "tuple") (U := "int") (by decide) ⟨_, ho, rfl⟩ (fun s' => typeIs_int s' k t) noFill_tuple_mul F.fills_int_mul F.slot_int_rmul repeat_tuple F.slot_int_index.lookup
    (call_meets F.slot_int_rmul (typeIs_int s k t) F.entry_int_rmul (F.args_int_rmul_2 _ _) (int_rmul_tuple k t l its.toArray n dd sl)
      ⟨ho, rfl, ⟨_, ho, rfl⟩, call_meets F.slot_tuple_mul ⟨_, ho, rfl⟩ F.entry_tuple_mul (F.args_tuple_mul_2 _ _) mul ⟨ho, ?_⟩⟩)
  exact ⟨.ref s.heap.objs.size, _, I.laid (t' := s.toks) (o := .tup (List.replicate k.toNat xs).flatten) (fun b ob q => Heap.get?_push_of_some _ q) (Nat.le_refl _) ⟨fit xs rfl, _, r.rep k.toNat, IsTup.new _ _⟩, rfl, q _ (I.hok.fresh (Nat.le_refl _))⟩
/-- a tuple times any k to 100000: itself, or a new one -/
def rMulT (K : PySem.W.Frag) : R2 := fun x y H Q => ∃ l k xs, x = .ref l ∧ y = .int k ∧ SqT K H l xs ∧ k ≤ 4000 ∧ -1000 ≤ k ∧ xs.length ≤ 1000 ∧ (xs = [] → Q (.ref l) H) ∧ (k = 1 → Q (.ref l) H) ∧ (xs ≠ [] → k ≠ 1 → ∀ p, H p = none → Q (.ref p) (upd H p (.tup (List.replicate k.toNat xs).flatten)))
theorem op_mulT {X : Cx} : OpR X (binaryOp .Mult) (rMulT X.K) := by
  intro pins s σ H x y v u Q I rx ry h
  obtain ⟨l, k, xs, rfl, rfl, hT, h2, h1, hz, q0, q1, q2⟩ := h
  by_cases big : xs ≠ [] ∧ 2 ≤ k
  · cases rx
    obtain ⟨t, rfl⟩ := ry
    exact rep_new I hT big.1 big.2 h2 hz (q2 big.1 (by omega))
  · cases rx
    obtain ⟨t, rfl⟩ := ry
    obtain ⟨its, r, ⟨⟨cls, dd, data, sl⟩, ho, hc, n, hd⟩, hs⟩ := I.tuple hT
    simp only at hc hd
    subst hc hd
    have hle : its.length = xs.length := r.length.symm
    have c0 : (decide (k < -(2 ^ 63)) || decide (k ≥ 2 ^ 63)) = false := by
      rw [decide_eq_false (by omega), decide_eq_false (by omega)]; rfl
    by_cases one : xs = [] ∨ k = 1
    · have c1 : (its.toArray.isEmpty || k == 1) = true := by
        rcases one with e | e
        · have : its = [] := List.eq_nil_of_length_eq_zero (by rw [hle, e]; rfl)
          rw [this]; rfl
        · rw [e]; simp
      refine wpAny_binaryOp_repeat_ref (T := "tuple") (U := "int") (by decide) ⟨_, ho, rfl⟩ (fun s' => typeIs_int s' k t) noFill_tuple_mul F.fills_int_mul F.slot_int_rmul repeat_tuple F.slot_int_index.lookup
        (call_meets F.slot_int_rmul (typeIs_int s k t) F.entry_int_rmul (F.args_int_rmul_2 _ _) (int_rmul_tuple k t l its.toArray n dd sl)
          ⟨ho, rfl, ⟨_, ho, rfl⟩, call_meets F.slot_tuple_mul ⟨_, ho, rfl⟩ F.entry_tuple_mul (F.args_tuple_mul_2 _ _) (mulT_same l its.toArray n dd sl k t c0 c1) ⟨ho, ?_⟩⟩)
      refine ⟨.ref l, H, I, rfl, ?_⟩
      rcases one with e | e
      · exact q0 e
      · exact q1 e
    · have n1 : xs ≠ [] := fun e => one (.inl e)
      have n2 : k ≠ 1 := fun e => one (.inr e)
      have k0 : k ≤ 0 := by
        by_cases z : 2 ≤ k
        · exact absurd ⟨n1, z⟩ big
        · omega
      have hi : its.toArray.isEmpty = false := by
        cases its with
        | nil => exact absurd (List.eq_nil_of_length_eq_zero hle.symm) n1
        | cons a b => rfl
      have c1 : (its.toArray.isEmpty || k == 1) = false := by
        rw [hi, Bool.false_or]
        exact beq_eq_false_iff_ne.mpr n2
      have c2 : (decide (k ≤ 0) || its.toArray.isEmpty) = true := by rw [decide_eq_true k0]; rfl
      have e0 : k.toNat = 0 := by omega
      have q := q2 n1 n2
      rw [e0] at q
      refine wpAny_binaryOp_repeat_ref (T := "tuple") (U := "int") (by decide) ⟨_, ho, rfl⟩ (fun s' => typeIs_int s' k t) noFill_tuple_mul F.fills_int_mul F.slot_int_rmul repeat_tuple F.slot_int_index.lookup
        (call_meets F.slot_int_rmul (typeIs_int s k t) F.entry_int_rmul (F.args_int_rmul_2 _ _) (int_rmul_tuple k t l its.toArray n dd sl)
          ⟨ho, rfl, ⟨_, ho, rfl⟩, call_meets F.slot_tuple_mul ⟨_, ho, rfl⟩ F.entry_tuple_mul (F.args_tuple_mul_2 _ _) (mulT_none l its.toArray n dd sl k t c0 c1 c2) ⟨ho, ?_⟩⟩)
      refine ⟨.ref s.heap.objs.size, _, I.laid (t' := s.toks) (o := .tup []) (fun b ob q => Heap.get?_push_of_some _ q) (Nat.le_refl _) ?_, rfl, q _ (I.hok.fresh (Nat.le_refl _))⟩
      exact ⟨by decide, [], .nil, IsTup.new _ _⟩
end L2
namespace DL
open PySem L2
def rMulA (K : PySem.W.Frag) : R2 := fun x y H Q => rMulU x y H Q ∨ rMulT K x y H Q
theorem op_mulA {X : Cx} {K : PySem.W.Frag} (e : X.K = K := by rfl) : OpR X (binaryOp .Mult) (rMulA K) := by subst e; exact OpR.or op_mulU op_mulT
section
variable {K : PySem.W.Frag} {te ta tb : TE} {env e e1 e2 : Env} {r r1 r2 r' : Res} {i j : Int} {d d1 d2 : D} {l m : List D} {o o' : OB} {n : Nat}
/-- enumerate(xs) -/
def enumD (l : List D) : List D := (List.range l.length).map fun i => .tup [.int (i : Nat), l.getD i .non]
theorem enumD_len : (enumD l).length = l.length := by simp [enumD]
theorem enumD_get {i : Nat} (h : (enumD l)[i]? = some d) : ∃ x, l[i]? = some x ∧ d = .tup [.int (i : Nat), x] := by
  unfold enumD at h
  rw [List.getElem?_map] at h
  obtain ⟨k, hk, rfl⟩ := Option.map_eq_some_iff.mp h
  obtain ⟨h1, h2⟩ := List.getElem?_eq_some_iff.mp hk
  rw [List.length_range] at h1
  rw [List.getElem_range] at h2
  subst h2
  exact ⟨l[i], by simp [h1], by rw [List.getD_eq_getElem?_getD, List.getElem?_eq_getElem h1]; rfl⟩
def zipD (l m : List D) : List D := (l.zip m).map fun p => .tup [p.1, p.2]
end
/-! ### defs whose first argument is an object that they change -/
def PO (f : OB → List D → Ret → OB → Prop) : List AV → Ret → List AV → Prop := fun as r as' => ∃ o ds o', as = .own o :: ds.map AV.val ∧ as' = .own o' :: ds.map AV.val ∧ f o ds r o'
section
variable {K : PySem.W.Frag} {ta : TA} {env e1 : Env} {rs : List Res} {ds : List D} {d : D} {o o' ob : OB} {i : Nat} {f : OB → List D → Ret → OB → Prop} {E : XK}
end
section
variable {P : Program} {w : World} {K : PySem.W.Frag} {mg : Str → Option Value} {base : Heap} {x qn : Str} {st : Stmt} {fa : Addr} {fd : FuncData} {N ps : List Str} {k : Nat}
theorem Fn.ofO {f : OB → List D → Ret → OB → Prop} (F : Fun K x qn st fa fd) (S : FnScope N ps (defScope st)) (hn : ∀ o ds r o', f o ds r o' → ds.length + 1 = ps.length)
    (body : ∀ (cdv : Value) (A : Around) (outer : List PySem.Env) (s : Shared) (H : Hp) (E : XK), Room k (A.deeper (PyProof.Rows.envOfC qn (defScope st) s.heap.objs.size fa cdv)) →
      ∃ t, PSs (cxOf CX0 P w K mg base N qn (defScope st) fa cdv A outer s H E).nox (defBody st) t ∧ ∀ o ds r o', f o ds r o' → Exec K [0] (fun cls d _ H => E cls d H) t (EV.own o :: ds.map EV.val ++ List.replicate (N.length - ps.length) .any)
      (fun e => r = .val .non ∧ e[0]? = some (.own o')) (fun _ => False) (fun _ => False) (fun q e => q = r ∧ e[0]? = some (.own o'))) : FnOk P w K mg base CX0 (k + 1) fa fd ps (SpG K (PO f)) :=
  Fn.ofG F S (fun as r as' ⟨o, ds, o', h1, _, h4⟩ => by rw [h1, List.length_cons, List.length_map]; exact hn o ds r o' h4) fun cdv A outer s H E hr => by
    obtain ⟨t, h1, h2⟩ := body cdv A outer s H E hr
    refine ⟨t, h1, fun as r as' ⟨o, ds, o', e1, e2, hf⟩ => ⟨[0], fun i ob h => ?_, ?_⟩⟩
    · subst e1
      cases i with
      | zero => exact List.mem_cons_self
      | succ i => rw [List.getElem?_cons_succ] at h; exact absurd h vals_noOwn
    subst e1 e2
    have held : ∀ e : Env, e[0]? = some (.own o') → Held (.own o :: ds.map AV.val) (.own o' :: ds.map AV.val) e := fun e he i ob h => by
      cases i with
      | zero => exact ⟨o', rfl, he⟩
      | succ i => rw [List.getElem?_cons_succ] at h; exact absurd h vals_noOwn
    have em : (AV.own o :: ds.map AV.val).map AV.ev = EV.own o :: ds.map EV.val := by rw [List.map_cons, List.map_map]; rfl
    rw [em]
    exact x_mono (h2 o ds r o' hf) (fun e h => ⟨h.1, held e h.2⟩) (fun _ h => h) (fun _ h => h) fun q e h => ⟨h.1, held e h.2⟩
end
end DL

namespace DL
open PySem L2
/-! ### a comprehension whose part changes the object in the first slot -/
section
variable {K : PySem.W.Frag} {te : TE} {wi : TI} {env R : Env} {k : Nat} {ds : List D}
end
end DL

/-! ### xs.insert, a list times n, isinstance of several classes -/
namespace L2
open PySem
end L2
namespace DL
open PySem L2
section
variable {K : PySem.W.Frag} {pr : List Nat} {W : WX} {te ta tb : TE} {ts : TA} {env e1 e2 e : Env} {r : Res} {i : Nat} {l m : List D} {N B C : Env → Prop} {R : Ret → Env → Prop} {n j : Int} {d : D} {c : Bool}
end
end DL
namespace DL
open PySem L2
theorem ixN_nat {n i : Nat} (h : i < n) : ixN n (i : Int) = some i := by
  unfold ixN
  rw [if_pos (by omega), if_pos (by omega)]; rfl
end DL
namespace DL
open PySem L2
end DL

/-! ### len(set(xs)), xs.pop(i), xs.remove(x), xs[::-1], objects lent to a call -/
namespace L2
open PySem PySem.Spec PyProof.Rows
/-- how many unlike ones -/
def unlike (ns : List Int) : Nat := (PyProof.Rows.firstMet (fun i => ns.getD i 0) ns.length).length
end L2
namespace DL
open PySem L2
section
variable {K : PySem.W.Frag} {pr : List Nat} {W : WX} {te ta tb : TE} {ts : TA} {env e1 e2 e : Env} {r : Res} {i : Nat} {l m : List D} {N B C : Env → Prop} {R : Ret → Env → Prop} {n j : Int} {d : D} {c : Bool} {ns : List Int} {o : OB} {ds : List D} {rs : List Res}
theorem RepL.eraseIdx {F : Hp} : ∀ {vs : List V} {ds : List D} (n : Nat), RepL K F vs ds → RepL K F (vs.eraseIdx n) (ds.eraseIdx n)
  | _, _, _, .nil => .nil
  | _, _, 0, .cons _ r => r
  | _, _, n + 1, .cons q r => .cons q (RepL.eraseIdx n r)
/-- what each argument reads -/
inductive Rds (env : Env) : List Res → List D → Prop
  | nil : Rds env [] []
  | cons {r : Res} {d : D} {rs : List Res} {ds : List D} : Rd env r d → Rds env rs ds → Rds env (r :: rs) (d :: ds)
theorem Rds.rep {b : Bs} {F : Hp} {oa : Nat → Addr} {σ : L2.St} {H : Hp} (S : Sig K b F oa σ H env) : ∀ {vs : List V} {rs : List Res} {ds : List D}, RRs K F oa vs rs → Rds env rs ds → vs.length = ds.length ∧ ∀ (i : Nat) (d : D), ds[i]? = some d → ∃ v, vs[i]? = some v ∧ Rep K H v d
  | [], _, _, h, .nil => ⟨rfl, fun i d hi => by simp at hi⟩
  | _ :: _, _, _, h, .nil => h.elim
  | [], _, _, h, .cons _ _ => h.elim
  | v :: vs, _, _, h, .cons q t => by
    obtain ⟨h1, h2⟩ := Rds.rep S h.2 t
    refine ⟨by rw [List.length_cons, List.length_cons, h1], fun i d hi => ?_⟩
    cases i with
    | zero => simp at hi; subst hi; exact ⟨v, rfl, q.rep S h.1⟩
    | succ i => simp at hi; exact h2 i d hi
end
end DL

/-! ### xs[k] += n; in, of data of any depth; more that raises -/
namespace L2
open PySem PySem.Spec PyProof.Rows
end L2
namespace DL
open PySem L2
section
variable {X : Cx} {k j : Nat} {x : Str} {sp : Sp} {p pos : Pos}
end
theorem room65 {k : Nat} {A : Around} (r : Room k A) : A.units + 65 < cLine := by have := r.un; omega
def inB (d : D) (l : List D) : Bool := l.any fun z => eqB z d
section
variable {K : PySem.W.Frag} {pr : List Nat} {W : WX} {te ta tb to : TE} {ts : TA} {env e1 e2 e : Env} {r r1 r2 : Res} {i : Nat} {l m : List D} {N B C : Env → Prop} {R : Ret → Env → Prop} {n j k0 : Int} {d : D} {c : Bool} {X : Addr} {t u : TT}
/-! raising in parts -/
end
end DL

/-! ### instances of own classes: made, read, written -/
namespace DL
open PySem L2
section
variable {K : PySem.W.Frag} {F : Hp}
end
section
variable {K : PySem.W.Frag} {pr : List Nat} {W : WX} {te ta tv : TE} {ts : TA} {env e1 e2 e : Env} {r : Res} {rs : List Res} {i : Nat} {N B C : Env → Prop} {R : Ret → Env → Prop} {d : D} {ds : List D} {Cc : Addr} {fs : List (Str × D)} {f : Str} {o : OB}
end
/-- a class whose instances are made by a call of its name -/
structure Mf (P : Program) (w : World) (K : PySem.W.Frag) (mg : Str → Option Value) (base : Heap) (k : Nat) (x : Str) (C : Addr) (sp : Sp) : Prop where
  ex : ∃ (f : Addr) (fd : FuncData) (ps : List Str), Mk K C f ∧ FnOk P w K mg base CX0 k f fd ps sp ∧ mg x = some (.ref C) ∧ Binds K fd ps []
section
variable {X : Cx} {k j : Nat} {x : Str} {C : Addr} {sp : Sp} {p pos : Pos} {e : Expr} {es : List Expr} {t : TA}
end
theorem Mf.of {P : Program} {w : World} {K : PySem.W.Frag} {mg : Str → Option Value} {base : Heap} {k : Nat} {x : Str} {C fa : Addr} {fd : FuncData} {ps : List Str} {sp : Sp} (M : Mk K C fa) (h : FnOk P w K mg base CX0 k fa fd ps sp) (hm : mg x = some (.ref C)) (b : Binds K fd ps []) : Mf P w K mg base k x C sp := ⟨fa, fd, ps, M, h, hm, b⟩
end DL
namespace DL
open PySem L2
/-! ### try: .. except C: .. -/
def tTryO (K : PySem.W.Frag) (c : Value) (ts : TS) (tb : WX → TS) : TS := fun D σ H => tb (wOnly K c (fun _ _ _ => ts) (fun _ _ _ _ => False) D) D σ H
section
variable {K : PySem.W.Frag} {pr : List Nat} {W : WX} {env : Env} {N B C M : Env → Prop} {R : Ret → Env → Prop} {c : Value} {tb : WX → TS} {ts : TS}
end
end DL
namespace L2
open PySem PySem.Spec PyProof.Rows
section
variable {prog : Program} {w : World} {A : Around} {E : Value → Shared → Prop} {s : Shared}
end
end L2
namespace DL
open PySem L2
section
variable {K : PySem.W.Frag} {pr : List Nat} {W : WX} {te : TE} {env e1 : Env} {i : Nat} {l m : List D} {N B C : Env → Prop} {R : Ret → Env → Prop}
end
end DL

/-! ### repr of tuples, where nothing is under way: in the law's own def, called from the top -/
namespace L2
open PySem PySem.Spec PyProof.Rows
/-- what a def promises where it is called from the top -/
structure RunC (P : Program) (w : World) (K : PySem.W.Frag) (mg : Str → Option Value) (base : Heap) (CX : CXT) (f : Addr) (fd : FuncData) (ps : List Str) (sp : Sp) : Prop where
  run : ∀ (outer : List Env) (s : Shared) (H : Hp) (args : Args) (us : List Value) (vs : List V) (Q : VK) (E : XK), Env0 P w K mg base callerA outer s H → BindsTo s fd args (ps.zip us) → Vals vs us → sp vs H Q E →
    codeAny (model P w) callerA (.call (.ref f) args) (CR CX outer P w H s Q E) s
theorem RunC.imp {P : Program} {w : World} {K : PySem.W.Frag} {mg : Str → Option Value} {base : Heap} {CX : CXT} {f : Addr} {fd : FuncData} {ps : List Str} {sp sp' : Sp} (R : RunC P w K mg base CX f fd ps sp) (h : ∀ vs H Q E, sp' vs H Q E → sp vs H Q E) : RunC P w K mg base CX f fd ps sp' :=
  ⟨fun outer s H args us vs Q E e b r q => R.run outer s H args us vs Q E e b r (h _ _ _ _ q)⟩
end L2

namespace DL
open PySem L2
/-! ### what repr shows of data -/
section
variable {K : PySem.W.Frag} {e : Env} {r : Res} {l : List D}
end
section
variable {P : Program} {w : World} {K : PySem.W.Frag} {mg : Str → Option Value} {base : Heap} {x qn : Str} {st : Stmt} {fa : Addr} {fd : FuncData} {N ps : List Str} {k : Nat}
end
end DL

/-! ### methods of own classes that only read; isinstance of an instance -/
namespace DL
open PySem L2
/-- a method -/
structure Mt (P : Program) (w : World) (K : PySem.W.Frag) (mg : Str → Option Value) (base : Heap) (k : Nat) (C : Addr) (m : Str) (sp : Sp) : Prop where
  ex : ∃ (f : Addr) (fd : FuncData) (ps : List Str), Meth K C m f ∧ FnOk P w K mg base CX0 k f fd ps sp ∧ Binds K fd ps []
theorem Mt.of {P : Program} {w : World} {K : PySem.W.Frag} {mg : Str → Option Value} {base : Heap} {k : Nat} {m : Str} {C fa : Addr} {fd : FuncData} {ps : List Str} {sp : Sp} (M : Meth K C m fa) (h : FnOk P w K mg base CX0 k fa fd ps sp) (b : Binds K fd ps []) : Mt P w K mg base k C m sp := ⟨fa, fd, ps, M, h, b⟩
section
variable {X : Cx} {k j : Nat} {m : Str} {C : Addr} {sp : Sp} {apos pos : Pos} {o e : Expr} {es : List Expr} {t : TA} {ta : TE}
end
theorem look_none : ∀ {ks : List Str} {vs : List V} {ds : List D} {f : Str}, ks.length = ds.length → vs.length = ds.length → (ks.zip ds).lookup f = none → (ks.zip vs).lookup f = none
  | [], _, _, _, _, _, _ => rfl
  | k :: ks, [], _, _, _, _, _ => rfl
  | k :: ks, v :: vs, [], f, h, _, _ => by simp at h
  | k :: ks, v :: vs, d :: ds, f, h, h2, l => by
    rw [List.zip_cons_cons, List.lookup_cons] at l ⊢
    cases q : (f == k) with
    | true => rw [q] at l; cases l
    | false =>
      rw [q] at l
      exact look_none (by simpa using h) (by simpa using h2) l
section
variable {K : PySem.W.Frag} {env e e1 e2 : Env} {f : List D → D → Prop} {rs : List Res} {ds : List D} {d : D} {ta : TE} {ts : TA} {E : XK} {Cc : Addr} {m : Str} {fs : List (Str × D)}
/-- what isinstance asks of an own class -/
structure InC (K : PySem.W.Frag) (C : Addr) : Prop where
  cl : Cls K C
  ha : PySem.W.findIn K (.ref C) "__class__" = some (some (.builtin "object.__class__"))
  hn : PySem.W.specialIn K (.builtin "object.__class__") "__get__" = some (some (.builtin "getset_descriptor.__get__"))
  ht : PySem.W.takesIn K (.builtin "object.__class__") = some true
  hm : PySem.W.mroIn K C (.type "object") = some true
end
end DL
/-! ### repr of tuples, ints and texts, at the top -/
namespace DL
open PySem L2
section
variable {K : PySem.W.Frag} {e : Env} {r : Res} {l : List D} {i : Int} {x : Str}
end
end DL

/-! ### instances made by an __init__ that may raise -/
namespace L2
open PySem PySem.Spec PyProof.Rows
section
variable {X : Cx} {CX : CXT} {k : Nat} {f C : Addr} {fd : FuncData} {ps : List Str} {sp : Sp} {E : St → XK} {x : Str} {p pos : Pos} {e : Expr} {es : List Expr} {t : TA}
theorem run_makeS {pins : List (Addr × Obj)} {σ : St} {H : Hp} {s : Shared} {Q : VK} {us : List Value} {vs : List V} (M : Mk X.K C f) (F : FnOk X.prog X.w X.K X.mg X.base CX k f fd ps sp) (hr : Room (k + 1) X.A) (hb : Binds X.K fd ps [])
    (hx : PassesAt CX X σ (E σ)) (I : Inv X pins σ H s) (r : Vals vs us)
    (h : ∀ x dx, H x = none → H dx = none → dx ≠ x → sp (.ref x :: vs) (upd (upd H dx (.own x)) x (.ins C dx [])) (fun v H2 => v = .non ∧ Q (.ref x) H2) (E σ)) :
    wpAny (model X.prog X.w) X.A (call (.ref C) us) (EP X pins σ Q) X.xe s := by
  have hq := h (s.heap.objs.size + 1) s.heap.objs.size (I.hok.fresh (Nat.le_succ _)) (I.hok.fresh (Nat.le_refl _)) (Nat.ne_of_lt (Nat.lt_succ_self _))
  have I2 := Inv.made (C := C) I
  have r2 : Vals (V.ref (s.heap.objs.size + 1) :: vs) (Value.ref (s.heap.objs.size + 1) :: us) := .cons rfl r
  have hl : (Value.ref (s.heap.objs.size + 1) :: us).length = ps.length := by
    have e := r2.length
    rw [F.len _ _ _ _ hq] at e
    exact e.symm
  have b := hb _ (Value.ref (s.heap.objs.size + 1) :: us) I2.kIn (by rw [List.append_nil]; exact hl)
  rw [List.append_nil] at b
  refine wpAny_call (make_map (f := f) I.kIn M.makes M.init (beq_iff_eq.mp M.fn) (codeAny_mono (F.run _ X.stack _ _ ⟨Value.ref (s.heap.objs.size + 1) :: us, []⟩ (Value.ref (s.heap.objs.size + 1) :: us) _ _ (E σ) (hr.make C us [])
    (I2.env0.make C us []) b r2 hq) fun r s' hq' => ?_))
  cases r with
  | error e => exact hx pins _ _ e s' I2 hq'
  | ok fl =>
    cases fl with
    | ret u =>
      obtain ⟨v, H', I3, rv, ev, q3⟩ := I2.after hq'
      subst ev
      exact ⟨rv, ⟨V.ref (s.heap.objs.size + 1), H', I3, rfl, q3⟩⟩
    | next => exact False.elim hq'
    | brk => exact False.elim hq'
    | cont => exact False.elim hq'
def tMakeS (C : Addr) (sp : Sp) (E : St → XK) (t : TA) : TE := fun σ H Q => t σ H fun vs H1 => ∀ x dx, H1 x = none → H1 dx = none → dx ≠ x →
  sp (.ref x :: vs) (upd (upd H1 dx (.own x)) x (.ins C dx [])) (fun v H2 => v = .non ∧ Q (.ref x) H2) (E σ)
theorem pe_makeS (M : Mk X.K C f) (F : FnOk X.prog X.w X.K X.mg X.base CX k f fd ps sp) (hr : Room (k + 1) X.A) (hg : Gl X x) (hm : X.mg x = some (.ref C)) (hb : Binds X.K fd ps []) (hx : ∀ σ, PassesAt CX X σ (E σ))
    (ha : PA X (e :: es) t) (hdb : (x == ("__debug__" : Str)) = false := by decide) (he : starEach (e :: es) X.env = (false, eval e X.env) :: starEach es X.env := by rfl) (hpl : (backTo pos (starEach es X.env)).any (·.1) = false := by rfl) :
    PE X (.Call (.Name x p) (e :: es) [] pos) (tMakeS C sp E t) := by
  refine ⟨fun pins s σ H Q I h => ?_⟩
  refine wpAny_Call_Name_kw (ld_glob I hg hm ?_ hdb)
  refine PySem.W.callWith_K (h₀ := X.base) I.ok.mod.kin M.kp (thn (ha.run pos pins s σ H _ I h) fun us s1 ⟨vs, H1, I1, r, q⟩ => ⟨I1.kIn, ?_⟩) he hpl
  exact run_makeS M F hr hb (hx σ) I1 r q
end
end L2
namespace DL
open PySem L2
structure Mx (P : Program) (w : World) (K : PySem.W.Frag) (mg : Str → Option Value) (base : Heap) (k : Nat) (x : Str) (C : Addr) (sp : Sp) : Prop where
  ex : ∃ (f : Addr) (fd : FuncData) (ps : List Str), Mk K C f ∧ FnOk P w K mg base (L2.CX P w) k f fd ps sp ∧ mg x = some (.ref C) ∧ Binds K fd ps []
theorem Mx.of {P : Program} {w : World} {K : PySem.W.Frag} {mg : Str → Option Value} {base : Heap} {k : Nat} {x : Str} {C fa : Addr} {fd : FuncData} {ps : List Str} {sp : Sp} (M : Mk K C fa) (h : FnOk P w K mg base (L2.CX P w) k fa fd ps sp) (hm : mg x = some (.ref C)) (b : Binds K fd ps []) : Mx P w K mg base k x C sp := ⟨fa, fd, ps, M, h, hm, b⟩
section
variable {X : Cx} {W : WX} {k j : Nat} {x : Str} {C : Addr} {sp : Sp} {p pos : Pos} {e : Expr} {es : List Expr} {t : TA}
theorem pe_mx (c : Mx X.prog X.w X.K X.mg X.base k x C sp) (tk : Takes X W) (hr : Room j X.A) (hk : k + 1 ≤ j) (hg : Gl X x) (ha : PA X (e :: es) t)
    (hdb : (x == ("__debug__" : Str)) = false := by decide) (he : starEach (e :: es) X.env = (false, eval e X.env) :: starEach es X.env := by rfl) (hpl : (backTo pos (starEach es X.env)).any (·.1) = false := by rfl) :
    PE X (.Call (.Name x p) (e :: es) [] pos) (tMakeS C sp (WE W) t) := by
  obtain ⟨f, fd, ps, M, F, hm, b⟩ := c.ex
  exact pe_makeS M F (hr.mono hk) hg hm b (fun σ => passAt tk σ) ha hdb he hpl
/-- .. and does not raise, where it is made -/
theorem pe_mx0 (c : Mx X.prog X.w X.K X.mg X.base k x C sp) (hr : Room j X.A) (hk : k + 1 ≤ j) (hg : Gl X x) (ha : PA X (e :: es) t)
    (hdb : (x == ("__debug__" : Str)) = false := by decide) (he : starEach (e :: es) X.env = (false, eval e X.env) :: starEach es X.env := by rfl) (hpl : (backTo pos (starEach es X.env)).any (·.1) = false := by rfl) :
    PE X (.Call (.Name x p) (e :: es) [] pos) (tMake C sp [] E0 t) := by
  obtain ⟨f, fd, ps, M, F, hm, b⟩ := c.ex
  exact pe_make M F (hr.mono hk) hg hm b .nil passL ha hdb he hpl
end
section
variable {K : PySem.W.Frag} {pr : List Nat} {W : WX} {ts : TA} {env e1 : Env} {rs : List Res} {ds : List D} {Cc Ce : Addr} {fs : List (Str × D)} {b : Bs} {F1 H1 : Hp} {oa : Nat → Addr} {σ : L2.St} {vs : List V} {x dx : Addr}
end
section
variable {P : Program} {w : World} {K : PySem.W.Frag} {mg : Str → Option Value} {base : Heap} {x qn : Str} {st : Stmt} {fa : Addr} {fd : FuncData} {N ps : List Str} {k : Nat}
end
end DL

namespace DL
open PySem L2
/-! ### rows of bits, in plain Lean -/
def gathA (a : Int) (l : List Int) : Int := l.foldl (fun n b => 2 * n + b) a
def gath (l : List Int) : Int := gathA 0 l
def Bits (l : List Int) : Prop := ∀ b, b ∈ l → b = 0 ∨ b = 1
theorem Bits.nil : Bits [] := fun _ h => by cases h
theorem Bits.append {l m : List Int} (h1 : Bits l) (h2 : Bits m) : Bits (l ++ m) := fun b h => by
  rcases List.mem_append.mp h with q | q
  · exact h1 b q
  · exact h2 b q
/-! bytes in bits -/
def Bytes (l : List Int) : Prop := ∀ b, b ∈ l → 0 ≤ b ∧ b ≤ 255
def val (l : List Int) : Int := l.foldl (fun n b => n * 256 + b) 0
end DL
namespace DL
open PySem L2
theorem sIx_some {n d : Nat} {v : Int} (h : 0 ≤ v) : HT.sIx n d (some v) = min v.toNat n := by
  show (if v < 0 then (v + (n : Int)).toNat else min v.toNat n) = _
  rw [if_neg (by omega)]
end DL

/-! ### texts: one sign in a text, join, index; a written dict; reversed(range(n)) -/
namespace DL
open PySem L2
def rSign (neg : Bool) : R2 := fun x y H Q => ∃ (c : Nat) (z : Str), x = .str ⟨#[c]⟩ ∧ y = .str z ∧ Q (.bl (if neg then !decide (c ∈ z.cps.toList) else decide (c ∈ z.cps.toList))) H
def rJoin (K : PySem.W.Frag) : V → List V → Hp → VK → Prop := fun x xs H Q => ∃ a p, ∃ ys : List Str, x = .str a ∧ xs = [.ref p] ∧ (SqL K H p (ys.map V.str) ∨ SqT K H p (ys.map V.str)) ∧
    (ys.map (·.length)).sum + ys.length * a.length ≤ 16777216 ∧ Q (.str (Txt.join a ys)) H
def rIdxS : V → List V → Hp → VK → Prop := fun x xs H Q => ∃ (a b : Str) (k : Nat), x = .str a ∧ xs = [.str b] ∧ Txt.index0 a b = some k ∧ Q (.int (k : Nat)) H
section
variable {X : Cx} {o e : Expr} {to te : TE} {apos pos : Pos}
end
section
variable {K : PySem.W.Frag} {e env e1 e2 : Env} {to te : TE} {r : Res} {a b z : Str} {ys : List Str} {k : Nat} {c : Nat} {neg : Bool} {da : Addr} {w : World} {d : D} {n : Int}
end
end DL

/-! ## plain functions for the defs (no program in sight) -/
namespace SM
open PySem L2

/-- data; an object that may change is told by its place in a plain heap -/
inductive D where
  | non | bl (b : Bool) | int (i : Int) | str (x : Str) | ty (n : String)
  | tup (l : List D) | wt (l : List D) | scr (l : List D) | ref (i : Nat) | nm (x : String) | exc (C : String)
instance : Inhabited D := ⟨.non⟩
inductive O where
  | lst (l : List D)
  /-- t: its keys are tuples; lk: a loop walks it -/
  | dic (t lk : Bool) (kvs : List (D × D))
  | obj (C : String) (fs : List (String × D))
abbrev Hs := List O
abbrev Sl := List (Option D)
inductive RE (α : Type) where
  | ok (a : α) (A : Hs) | exc (C : String) (A : Hs) | stuck
def RE.bind {α β : Type} (r : RE α) (f : α → Hs → RE β) : RE β := match r with
  | .ok a A => f a A
  | .exc C A => .exc C A
  | .stuck => .stuck
/-- an exception has no road from here -/
def RE.noX {α : Type} : RE α → RE α
  | .ok a A => .ok a A
  | _ => .stuck
abbrev E := Sl → Hs → RE D
abbrev Tt := Sl → Hs → RE Bool
abbrev As := Sl → Hs → RE (List D)
abbrev Fn := List D → Hs → RE D
inductive RS where
  | nx (σ : Sl) (A : Hs) | bk (σ : Sl) (A : Hs) | ct (σ : Sl) (A : Hs) | rt (d : D) (A : Hs) | exc (C : String) (σ : Sl) (A : Hs) | stuck
abbrev S := Sl → Hs → RS
/-- a new object -/
def alloc (A : Hs) (o : O) : RE D := .ok (.ref A.length) (A ++ [o])

def eVar (i : Nat) : E := fun env A => match env[i]? with
  | some (some d) => .ok d A
  | _ => .stuck
def eC (d : D) : E := fun _ A => .ok d A
def eOp (o : D → D → Hs → RE D) (a b : E) : E := fun env A => (a env A).bind fun x A1 => (b env A1).bind fun y A2 => o x y A2
def eUn (o : D → Hs → RE D) (a : E) : E := fun env A => (a env A).bind fun x A1 => o x A1
def aNil : As := fun _ A => .ok [] A
def aCons (a : E) (as : As) : As := fun env A => (a env A).bind fun x A1 => (as env A1).bind fun xs A2 => .ok (x :: xs) A2
def eCB (f : List D → Hs → RE D) (as : As) : E := fun env A => (as env A).bind fun ds A1 => f ds A1
/-- a call where nothing that is raised has a road -/
def eCall0 (f : Fn) (as : As) : E := fun env A => (as env A).bind fun ds A1 => (f ds A1).noX
def eCall (f : Fn) (as : As) : E := fun env A => (as env A).bind fun ds A1 => f ds A1
def make (C : String) (f : Fn) (ds : List D) (A1 : Hs) : RE D := match f (.ref A1.length :: ds) (A1 ++ [.obj C []]) with
    | .ok .non A2 => .ok (.ref A1.length) A2
    | .exc X A2 => .exc X A2
    | _ => .stuck
def eMake0 (C : String) (f : Fn) (as : As) : E := fun env A => (as env A).bind fun ds A1 => (make C f ds A1).noX
def eMake (C : String) (f : Fn) (as : As) : E := fun env A => (as env A).bind fun ds A1 => make C f ds A1
/-- the class of an object, its fields -/
def objAt (A : Hs) : D → Option (String × List (String × D))
  | .ref i => match A[i]? with
    | some (.obj C fs) => some (C, fs)
    | _ => none
  | _ => none
/-- what holds of all -/
def AllC (P : String → Prop) : List String → Prop
  | [] => True
  | c :: r => P c ∧ AllC P r
theorem AllC.of {P : String → Prop} {c : String} : ∀ {l : List String}, AllC P l → c ∈ l → P c
  | _ :: r, h, q => by
    rcases List.mem_cons.mp q with z | z
    · rw [z]; exact h.1
    · exact AllC.of h.2 z
def methOf (m : String) (tbl : List (String × Fn)) (A : Hs) (x : D) : Option Fn := match objAt A x with
  | some (C, fs) => if (fs.lookup m).isSome then none else tbl.lookup C
  | none => none
def eMeth (m : String) (tbl : List (String × Fn)) (o : E) (as : As) : E := fun env A => (o env A).bind fun x A1 => match methOf m tbl A1 x with
  | some f => (as env A1).bind fun ds A2 => f (x :: ds) A2
  | none => .stuck
def eMeth0 (m : String) (tbl : List (String × Fn)) (o : E) (as : As) : E := fun env A => (o env A).bind fun x A1 => match methOf m tbl A1 x with
  | some f => (as env A1).bind fun ds A2 => (f (x :: ds) A2).noX
  | none => .stuck
/-- o.f, o of one of the classes cs -/
def getFld (cs : List String) (f : String) (A : Hs) (x : D) : Option D := match objAt A x with
  | some (C, fs) => if C ∈ cs then fs.lookup f else none
  | none => none
def eFld (cs : List String) (f : String) (o : E) : E := fun env A => (o env A).bind fun x A1 => match getFld cs f A1 x with
  | some d => .ok d A1
  | none => .stuck
def eAnd (a b : E) : E := fun env A => (a env A).bind fun x A1 => match x with
  | .bl true => b env A1
  | .bl false => .ok (.bl false) A1
  | _ => .stuck
def eOr (a b : E) : E := fun env A => (a env A).bind fun x A1 => match x with
  | .bl false => b env A1
  | .bl true => .ok (.bl true) A1
  | _ => .stuck
def eNot (a : E) : E := fun env A => (a env A).bind fun x A1 => match x with
  | .bl c => .ok (.bl (!c)) A1
  | _ => .stuck
/-- a < b < c -/
def eCh (o o' : D → D → Hs → RE D) (a b c : E) : E := fun env A => (a env A).bind fun x A1 => (b env A1).bind fun y A2 => (o x y A2).bind fun z A3 => match z with
  | .bl false => .ok (.bl false) A3
  | .bl true => (c env A3).bind fun w A4 => o' y w A4
  | _ => .stuck
def tOf (a : E) : Tt := fun env A => (a env A).bind fun x A1 => match x with
  | .bl c => .ok c A1
  | _ => .stuck
def tAn (a b : Tt) : Tt := fun env A => (a env A).bind fun c A1 => if c = true then b env A1 else .ok false A1
def tOo (a b : Tt) : Tt := fun env A => (a env A).bind fun c A1 => if c = true then .ok true A1 else b env A1
def tNo (a : Tt) : Tt := fun env A => (a env A).bind fun c A1 => .ok (!c) A1
def tYe : Tt := fun _ A => .ok true A
def eIf (t : Tt) (a b : E) : E := fun env A => (t env A).bind fun c A1 => if c = true then a env A1 else b env A1
def eTup (as : As) : E := fun env A => (as env A).bind fun ds A1 => if ds.length ≤ sizeLine then .ok (.tup ds) A1 else .stuck
def eLst (as : As) : E := fun env A => (as env A).bind fun ds A1 => if ds.length ≤ sizeLine then alloc A1 (.lst ds) else .stuck
def eDNew (t : Bool) : E := fun _ A => alloc A (.dic t false [])
def oNo : Sl → Hs → RE (Option Int) := fun _ A => .ok none A
def oSo (a : E) : Sl → Hs → RE (Option Int) := fun env A => (a env A).bind fun x A1 => match x with
  | .int i => .ok (some i) A1
  | _ => .stuck
def eSl (o : D → Option Int → Option Int → Hs → RE D) (a : E) (l h : Sl → Hs → RE (Option Int)) : E := fun env A => (a env A).bind fun x A1 => (l env A1).bind fun lo A2 => (h env A2).bind fun hi A3 => o x lo hi A3

/-! ### statements -/
def sSeq (a b : S) : S := fun env A => match a env A with
  | .nx env' A' => b env' A'
  | r => r
def sNx : S := fun env A => .nx env A
def sBk : S := fun env A => .bk env A
def sCt : S := fun env A => .ct env A
def ofE (env : Sl) (r : RE D) (k : D → Hs → RS) : RS := match r with
  | .ok d A => k d A
  | .exc C A => .exc C env A
  | .stuck => .stuck
def ofT (env : Sl) (r : RE Bool) (k : Bool → Hs → RS) : RS := match r with
  | .ok d A => k d A
  | .exc C A => .exc C env A
  | .stuck => .stuck
def sDrop (a : E) : S := fun env A => ofE env (a env A) fun _ A1 => .nx env A1
def sRet (a : E) : S := fun env A => ofE env (a env A) fun d A1 => .rt d A1
def sRetN : S := fun _ A => .rt .non A
def sIf (t : Tt) (a b : S) : S := fun env A => ofT env (t env A) fun c A1 => if c = true then a env A1 else b env A1
/-- targets -/
abbrev G := D → Sl → Hs → Option Sl
def gN (i : Nat) : G := fun d env _ => some (env.set i (some d))
def gAll : List G → List D → Sl → Hs → Option Sl
  | [], [], env, _ => some env
  | g :: gs, d :: ds, env, A => match g d env A with
    | some env' => gAll gs ds env' A
    | none => none
  | _, _, _, _ => none
def gT (gs : List G) : G := fun d env A => match d with
  | .tup ds => gAll gs ds env A
  | _ => none
def sAsg (a : E) (g : G) : S := fun env A => ofE env (a env A) fun d A1 => match g d env A1 with
  | some env' => .nx env' A1
  | none => .stuck
def sSet (i : Nat) (a : E) : S := fun env A => ofE env (a env A) fun d A1 => .nx (env.set i (some d)) A1
/-- a, b = x, y -/
def sPar (i j : Nat) (as : As) : S := fun env A => match as env A with
  | .ok [x, y] A1 => .nx ((env.set i (some x)).set j (some y)) A1
  | .exc C A1 => .exc C env A1
  | _ => .stuck
def sAug (i : Nat) (o : D → D → Hs → RE D) (a : E) : S := fun env A => match env[i]? with
  | some (some x) => ofE env (a env A) fun y A1 => ofE env (o x y A1) fun z A2 => .nx (env.set i (some z)) A2
  | _ => .stuck
def putF (f : String) (d : D) : List (String × D) → List (String × D)
  | [] => [(f, d)]
  | (g, e) :: r => if g = f then (g, d) :: r else (g, e) :: putF f d r
def setFld (cs : List String) (A : Hs) (x : D) (f : String) (d : D) : Option Hs := match x with
  | .ref i => match A[i]? with
    | some (.obj C fs) => if C ∈ cs ∧ fs.length < 999 then some (A.set i (.obj C (putF f d fs))) else none
    | _ => none
  | _ => none
/-- o.f = e -/
def sFl (cs : List String) (f : String) (o a : E) : S := fun env A => ofE env (a env A) fun d A1 => ofE env (o env A1) fun x A2 => match setFld cs A2 x f d with
  | some A3 => .nx env A3
  | none => .stuck
/-- o.f op= e -/
def sFlAug (cs : List String) (f : String) (op : D → D → Hs → RE D) (o a : E) : S := fun env A => ofE env (o env A) fun x A1 => match getFld cs f A1 x with
  | some v => ofE env (a env A1) fun y A2 => ofE env (op v y A2) fun z A3 => match setFld cs A3 x f z with
    | some A4 => .nx env A4
    | none => .stuck
  | none => .stuck
/-- what is walked: the items; what must stand for the walk to go on -/
structure Wk where
  ds : List D
  gd : Hs → Prop
open Classical in
noncomputable def forL (g : G) (b : S) (gd : Hs → Prop) : List D → S
  | [], env, A => if gd A then .nx env A else .stuck
  | d :: ds, env, A => if gd A then match g d env A with
    | some env1 => match b env1 A with
      | .nx env2 A2 => forL g b gd ds env2 A2
      | .ct env2 A2 => forL g b gd ds env2 A2
      | .bk env2 A2 => .nx env2 A2
      | r => r
    | none => .stuck
    else .stuck
noncomputable def sFor (w : Sl → Hs → RE Wk) (g : G) (b : S) : S := fun env A => match w env A with
  | .ok k A1 => forL g b k.gd k.ds env A1
  | .exc C A1 => .exc C env A1
  | .stuck => .stuck
/-- some turns of a while -/
def whN (t : Tt) (b : S) : Nat → S
  | 0, _, _ => .stuck
  | n + 1, env, A => ofT env (t env A) fun c A1 => if c = true then match b env A1 with
      | .nx env2 A2 => whN t b n env2 A2
      | .ct env2 A2 => whN t b n env2 A2
      | .bk env2 A2 => .nx env2 A2
      | r => r
    else .nx env A1
open Classical in
noncomputable def sWh (t : Tt) (b : S) : S := fun env A => if h : ∃ n, whN t b n env A ≠ .stuck then whN t b h.choose env A else .stuck
/-- the slots of a block's own names, not known -/
def wipeS (env : Sl) : List Nat → Sl
  | [] => env
  | v :: vs => (wipeS env vs).set v none
open Classical in
noncomputable def lcL (g : G) (t : Tt) (a : E) (gd : Hs → Prop) (env : Sl) : List D → List D → Hs → RE (List D)
  | [], acc, A => if gd A then .ok acc A else .stuck
  | d :: ds, acc, A => if gd A then match g d env A with
    | some env1 => match t env1 A with
      | .ok true A1 => match a env1 A1 with
        | .ok x A2 => if acc.length < sizeLine then lcL g t a gd env ds (acc ++ [x]) A2 else .stuck
        | _ => .stuck
      | .ok false A1 => lcL g t a gd env ds acc A1
      | _ => .stuck
    | none => .stuck
    else .stuck
/-- a list comprehension; vs: the block's own slots -/
noncomputable def eLc (w : Sl → Hs → RE Wk) (g : G) (t : Tt) (a : E) (vs : List Nat) : E := fun env A => (w env A).bind fun k A1 => match lcL g t a k.gd (wipeS env vs) k.ds [] A1 with
  | .ok l A2 => alloc A2 (.lst l)
  | _ => .stuck
/-- a def by its body: n parameters, m names -/
def mkFn (n m : Nat) (b : S) : Fn := fun ds A => if ds.length = n then match b (ds.map some ++ List.replicate (m - n) none) A with
    | .nx _ A' => .ok .non A'
    | .rt d A' => .ok d A'
    | .exc C _ A' => .exc C A'
    | _ => .stuck
  else .stuck
/-- raise C('..') -/
def sRaise (C : String) : S := fun env A => .exc C env A
/-- try: b / except (catches) as i: slot j = it -/
def sTryK (catches : List String) (i j : Nat) (b : S) : S := fun env A => match b env A with
  | .exc C env1 A1 => if C ∈ catches then .nx (((env1.set i (some (.exc C))).set j (some (.exc C))).set i none) A1 else .stuck
  | r => r
/-- try: b / except (catches): s -/
def sTryO (catches : List String) (b s : S) : S := fun env A => match b env A with
  | .exc C env1 A1 => if C ∈ catches then s env1 A1 else .stuck
  | r => r

theorem whN_mono {t : Tt} {b : S} : ∀ {n : Nat} {env : Sl} {A : Hs}, whN t b n env A ≠ .stuck → whN t b (n + 1) env A = whN t b n env A := by
  intro n
  induction n with
  | zero => intro env A h; exact absurd rfl h
  | succ n ih =>
    intro env A h
    unfold whN at h ⊢
    cases ht : t env A with
    | stuck => rw [ht] at h; rfl
    | exc C A1 => rfl
    | ok c A1 =>
      rw [ht] at h
      cases c with
      | false => rfl
      | true =>
        simp only [ofT, if_true] at h ⊢
        cases hb : b env A1 with
        | nx e2 A2 => rw [hb] at h; exact ih h
        | ct e2 A2 => rw [hb] at h; exact ih h
        | bk _ _ => rfl
        | rt _ _ => rfl
        | exc _ _ _ => rfl
        | stuck => rfl
theorem whN_le {t : Tt} {b : S} {env : Sl} {A : Hs} {n k : Nat} (h : whN t b n env A ≠ .stuck) : whN t b (n + k) env A = whN t b n env A := by
  induction k with
  | zero => rfl
  | succ k ih => rw [← ih, ← Nat.add_assoc]; exact whN_mono (by rw [ih]; exact h)
theorem sWh_eq {t : Tt} {b : S} {env : Sl} {A : Hs} {n : Nat} (h : whN t b n env A ≠ .stuck) : sWh t b env A = whN t b n env A := by
  have hx : ∃ n, whN t b n env A ≠ .stuck := ⟨n, h⟩
  unfold sWh
  rw [dif_pos hx]
  have h2 := hx.choose_spec
  rcases Nat.le_total hx.choose n with q | q
  · have := whN_le (k := n - hx.choose) h2
    rw [show hx.choose + (n - hx.choose) = n by omega] at this
    exact this.symm
  · have := whN_le (k := hx.choose - n) h
    rw [show n + (hx.choose - n) = hx.choose by omega] at this
    exact this
/-- one turn -/
theorem sWh_turn {t : Tt} {b : S} {env : Sl} {A : Hs} : sWh t b env A = ofT env (t env A) fun c A1 => if c = true then match b env A1 with
      | .nx env2 A2 => sWh t b env2 A2
      | .ct env2 A2 => sWh t b env2 A2
      | .bk env2 A2 => .nx env2 A2
      | r => r
    else .nx env A1 := by
  have back : ∀ {env : Sl} {A : Hs}, sWh t b env A ≠ .stuck → ∃ n, whN t b n env A ≠ .stuck := fun {env A} h => by
    unfold sWh at h
    split at h
    · assumption
    · exact absurd rfl h
  have stk : ∀ {env : Sl} {A : Hs}, (∀ n, whN t b n env A = .stuck) → sWh t b env A = .stuck := fun {env A} h => by
    unfold sWh
    rw [dif_neg]
    rintro ⟨n, hn⟩
    exact hn (h n)
  cases ht : t env A with
  | stuck =>
    rw [stk fun n => by cases n with
      | zero => rfl
      | succ n => unfold whN; rw [ht]; rfl]
    rfl
  | exc C A1 =>
    have e : whN t b 1 env A = .exc C env A1 := by unfold whN; rw [ht]; rfl
    rw [sWh_eq (n := 1) (by rw [e]; simp), e]
    rfl
  | ok c A1 =>
    cases c with
    | false =>
      have e : whN t b 1 env A = .nx env A1 := by unfold whN; rw [ht]; rfl
      rw [sWh_eq (n := 1) (by rw [e]; simp), e]
      rfl
    | true =>
      simp only [ofT, if_true]
      have e : ∀ n, whN t b (n + 1) env A = match b env A1 with
        | .nx env2 A2 => whN t b n env2 A2
        | .ct env2 A2 => whN t b n env2 A2
        | .bk env2 A2 => .nx env2 A2
        | r => r := fun n => by
        conv => lhs; unfold whN
        rw [ht]; rfl
      have fin : ∀ r, r ≠ .stuck → (∀ n, whN t b (n + 1) env A = r) → sWh t b env A = r := fun r hr h => by rw [sWh_eq (n := 1) (by rw [h 0]; exact hr), h 0]
      have again : ∀ e2 A2, (∀ n, whN t b (n + 1) env A = whN t b n e2 A2) → sWh t b env A = sWh t b e2 A2 := fun e2 A2 h => by
        by_cases q : ∃ n, whN t b n e2 A2 ≠ .stuck
        · obtain ⟨n, hn⟩ := q
          rw [sWh_eq hn, sWh_eq (n := n + 1) (by rw [h n]; exact hn), h n]
        · have q' : ∀ n, whN t b n e2 A2 = .stuck := fun n => Classical.byContradiction fun z => q ⟨n, z⟩
          rw [stk q', stk fun n => by cases n with
            | zero => rfl
            | succ n => rw [h n, q' n]]
      cases hb : b env A1 with
      | nx e2 A2 => exact again e2 A2 fun n => by rw [e, hb]
      | ct e2 A2 => exact again e2 A2 fun n => by rw [e, hb]
      | bk e2 A2 => exact fin _ (by simp) fun n => by rw [e, hb]
      | rt d A2 => exact fin _ (by simp) fun n => by rw [e, hb]
      | exc C e2 A2 => exact fin _ (by simp) fun n => by rw [e, hb]
      | stuck => exact stk fun n => by cases n with
          | zero => rfl
          | succ n => rw [e, hb]
end SM

/-! ## how the plain functions stand to the program: the relation of the heaps -/
namespace SM
open PySem L2
open DL (Ex ExK)

/-- where the names' things stand; T: the tables of code objects, the names in them -/
structure CaT where
  fn : String → Addr
  T : List (Addr × Str)
instance : CoeFun CaT (fun _ => String → Addr) := ⟨CaT.fn⟩
/-- free, or a table of code objects -/
def Fr1 (H : Hp) (a : Addr) : Prop := ∀ u, H a = some u → ∃ ps, u = .tbl ps
theorem Fr1.none {H : Hp} {a : Addr} (h : H a = none) : Fr1 H a := fun u e => by rw [h] at e; cases e
theorem Fr1.back {H H' : Hp} {a : Addr} (h : Fr1 H' a) (k : ∀ u, H a = some u → H' a = some u) : Fr1 H a := fun u e => h u (k u e)
/-- no table, no code object -/
def Ordy : HO → Prop
  | .lst _ => True
  | .dK _ => True
  | .dT _ => True
  | .ins _ _ _ => True
  | .frz _ _ => True
  | .tup _ => True
  | _ => False
theorem Ordy.tbl {u : HO} (o : Ordy u) (ps : Array Value) : u ≠ .tbl ps := fun z => by rw [z] at o; exact o
theorem Ordy.code {u : HO} (o : Ordy u) (c : Addr) (q : Str) : u ≠ LamX.CodeO c q := fun z => by
  rw [z] at o
  unfold LamX.CodeO at o
  exact o
theorem Fr1.no {H : Hp} {a : Addr} {u : HO} (h : Fr1 H a) (e : H a = some u) (o : Ordy u) : False := by
  obtain ⟨ps, z⟩ := h u e
  exact o.tbl ps z
theorem tabs_upd {T : List (Addr × Str)} {H : Hp} {a : Addr} {u w : HO} (h : LamX.Tabs T H) (e : H a = some w) (o : Ordy w) : LamX.Tabs T (upd H a u) := fun p hp => by
  obtain ⟨ps, h1, h2, h3⟩ := h p hp
  refine ⟨ps, ?_, h2, fun pos cv hc => ?_⟩
  · rw [upd_ne fun z => by rw [z, e] at h1; exact o.tbl ps (Option.some.inj h1)]; exact h1
  · obtain ⟨c, e1, e2⟩ := h3 pos cv hc
    exact ⟨c, e1, by rw [upd_ne fun z => by rw [z, e] at e2; exact o.code _ _ (Option.some.inj e2)]; exact e2⟩
/-- m begins m' -/
abbrev Pre (m m' : List Addr) : Prop := ∃ r, m' = m ++ r
theorem Pre.refl (m : List Addr) : Pre m m := ⟨[], by simp⟩
theorem Pre.trans {a b c : List Addr} (x : Pre a b) (y : Pre b c) : Pre a c := by
  obtain ⟨r, rfl⟩ := x; obtain ⟨s, rfl⟩ := y; exact ⟨r ++ s, by simp⟩
theorem Pre.get {m m' : List Addr} {i : Nat} {a : Addr} (x : Pre m m') (h : m[i]? = some a) : m'[i]? = some a := by
  obtain ⟨r, rfl⟩ := x
  rw [List.getElem?_append_left (List.getElem?_eq_some_iff.mp h).1]; exact h
theorem Pre.mem {m m' : List Addr} {a : Addr} (x : Pre m m') (h : a ∈ m) : a ∈ m' := by
  obtain ⟨r, rfl⟩ := x; exact List.mem_append_left _ h

mutual
inductive Rep (K : PySem.W.Frag) (ca : CaT) (F : Hp) (m : List Addr) : V → D → Prop
  | non : Rep K ca F m .non .non
  | bl (b : Bool) : Rep K ca F m (.bl b) (.bl b)
  | int (i : Int) : Rep K ca F m (.int i) (.int i)
  | str (x : Str) : Rep K ca F m (.str x) (.str x)
  | ty (n : String) : Rep K ca F m (.ty n) (.ty n)
  | tup {a : Addr} {vs : List V} {l : List D} : F a = some (.tup vs) → RepL K ca F m vs l → Rep K ca F m (.ref a) (.tup l)
  | wt {a : Addr} {vs : List V} {l : List D} : SqT K F a vs → RepL K ca F m vs l → Rep K ca F m (.ref a) (.wt l)
  | scr {a : Addr} {vs : List V} {l : List D} : SqL K F a vs → RepL K ca F m vs l → Rep K ca F m (.ref a) (.scr l)
  | ref {a : Addr} {i : Nat} : m[i]? = some a → Rep K ca F m (.ref a) (.ref i)
  | nm (x : String) : Rep K ca F m (.ref (ca x)) (.nm x)
  | exc {a : Addr} {C : String} : F a = some (ExK (ca C) a) → Rep K ca F m (.ref a) (.exc C)
inductive RepL (K : PySem.W.Frag) (ca : CaT) (F : Hp) (m : List Addr) : List V → List D → Prop
  | nil : RepL K ca F m [] []
  | cons {v : V} {vs : List V} {d : D} {ds : List D} : Rep K ca F m v d → RepL K ca F m vs ds → RepL K ca F m (v :: vs) (d :: ds)
end
section
variable {K : PySem.W.Frag} {ca : CaT} {F F' : Hp} {m m' : List Addr}
mutual
theorem Rep.mono (e : Ex F F') (p : Pre m m') : ∀ {v : V} {d : D}, Rep K ca F m v d → Rep K ca F' m' v d
  | _, _, .non => .non
  | _, _, .bl b => .bl b
  | _, _, .int i => .int i
  | _, _, .str x => .str x
  | _, _, .ty n => .ty n
  | _, _, .tup h r => .tup (e _ _ h) (RepL.mono e p r)
  | _, _, .wt h r => .wt (e.t h) (RepL.mono e p r)
  | _, _, .scr h r => .scr (e.l h) (RepL.mono e p r)
  | _, _, .ref h => .ref (p.get h)
  | _, _, .nm x => .nm x
  | _, _, .exc h => .exc (e _ _ h)
theorem RepL.mono (e : Ex F F') (p : Pre m m') : ∀ {vs : List V} {ds : List D}, RepL K ca F m vs ds → RepL K ca F' m' vs ds
  | _, _, .nil => .nil
  | _, _, .cons h r => .cons (Rep.mono e p h) (RepL.mono e p r)
end
theorem RepL.length : ∀ {vs : List V} {ds : List D}, RepL K ca F m vs ds → vs.length = ds.length
  | _, _, .nil => rfl
  | _, _, .cons _ r => by rw [List.length_cons, List.length_cons, r.length]
theorem RepL.get : ∀ {vs : List V} {ds : List D} {i : Nat} {d : D}, RepL K ca F m vs ds → ds[i]? = some d → ∃ v, vs[i]? = some v ∧ Rep K ca F m v d
  | _, _, _, _, .nil, h => by simp at h
  | _, _, 0, _, .cons h _, e => by simp at e; subst e; exact ⟨_, rfl, h⟩
  | _, _, i + 1, _, .cons _ r, e => by
    obtain ⟨v, h1, h2⟩ := RepL.get (i := i) r (by simpa using e)
    exact ⟨v, by simpa using h1, h2⟩
theorem RepL.append : ∀ {vs ws : List V} {ds es : List D}, RepL K ca F m vs ds → RepL K ca F m ws es → RepL K ca F m (vs ++ ws) (ds ++ es)
  | _, _, _, _, .nil, s => s
  | _, _, _, _, .cons h r, s => .cons h (RepL.append r s)
theorem RepL.take : ∀ {vs : List V} {ds : List D} (n : Nat), RepL K ca F m vs ds → RepL K ca F m (vs.take n) (ds.take n)
  | _, _, 0, _ => .nil
  | _, _, _ + 1, .nil => .nil
  | _, _, n + 1, .cons h r => .cons h (RepL.take n r)
theorem RepL.drop : ∀ {vs : List V} {ds : List D} (n : Nat), RepL K ca F m vs ds → RepL K ca F m (vs.drop n) (ds.drop n)
  | _, _, 0, r => r
  | _, _, _ + 1, .nil => .nil
  | _, _, n + 1, .cons _ r => RepL.drop n r
theorem RepL.set {v : V} {d : D} (h : Rep K ca F m v d) : ∀ {vs : List V} {ds : List D} (n : Nat), RepL K ca F m vs ds → RepL K ca F m (vs.set n v) (ds.set n d)
  | _, _, _, .nil => .nil
  | _, _, 0, .cons _ r => .cons h r
  | _, _, n + 1, .cons q r => .cons q (RepL.set h n r)
theorem RepL.reverse : ∀ {vs : List V} {ds : List D}, RepL K ca F m vs ds → RepL K ca F m vs.reverse ds.reverse
  | _, _, .nil => .nil
  | _, _, .cons h r => by
    rw [List.reverse_cons, List.reverse_cons]
    exact (RepL.reverse r).append (.cons h .nil)
theorem RepL.eraseIdx : ∀ {vs : List V} {ds : List D} (n : Nat), RepL K ca F m vs ds → RepL K ca F m (vs.eraseIdx n) (ds.eraseIdx n)
  | _, _, _, .nil => .nil
  | _, _, 0, .cons _ r => r
  | _, _, n + 1, .cons q r => .cons q (RepL.eraseIdx n r)
theorem RepL.flatRep {vs : List V} {ds : List D} (h : RepL K ca F m vs ds) : ∀ n : Nat, RepL K ca F m (List.replicate n vs).flatten (List.replicate n ds).flatten
  | 0 => .nil
  | n + 1 => by
    rw [List.replicate_succ, List.replicate_succ, List.flatten_cons, List.flatten_cons]
    exact h.append (RepL.flatRep h n)
/-- ints, truths, texts: the values are those of the data -/
theorem RepL.ints : ∀ {vs : List V} {ns : List Int}, RepL K ca F m vs (ns.map D.int) → vs = ns.map V.int
  | _, [], h => by cases h; rfl
  | _, n :: r, h => by
    cases h with
    | cons q t => cases q; rw [RepL.ints t]; rfl
theorem RepL.bools : ∀ {vs : List V} {ns : List Bool}, RepL K ca F m vs (ns.map D.bl) → vs = ns.map V.bl
  | _, [], h => by cases h; rfl
  | _, n :: r, h => by
    cases h with
    | cons q t => cases q; rw [RepL.bools t]; rfl
theorem RepL.of_ints : ∀ {ns : List Int}, RepL K ca F m (ns.map V.int) (ns.map D.int)
  | [] => .nil
  | n :: _ => .cons (.int n) RepL.of_ints
end
/-- keys -/
def kD : Key → D
  | .inl i => .int i
  | .inr x => .str x
def kT (l : List Key) : D := .tup (l.map kD)
inductive KvR (K : PySem.W.Frag) (ca : CaT) (F : Hp) (m : List Addr) {κ δ : Type} (kd : κ → δ) : List (κ × V) → List (δ × D) → Prop
  | nil : KvR K ca F m kd [] []
  | cons {k : κ} {v : V} {d : D} {r : List (κ × V)} {s : List (δ × D)} : Rep K ca F m v d → KvR K ca F m kd r s → KvR K ca F m kd ((k, v) :: r) ((kd k, d) :: s)
theorem KvR.mono {K : PySem.W.Frag} {ca : CaT} {F F' : Hp} {m m' : List Addr} {κ δ : Type} {kd : κ → δ} (e : Ex F F') (p : Pre m m') : ∀ {l : List (κ × V)} {s : List (δ × D)}, KvR K ca F m kd l s → KvR K ca F' m' kd l s
  | _, _, .nil => .nil
  | _, _, .cons h r => .cons (h.mono e p) (KvR.mono e p r)
theorem KvR.length {K : PySem.W.Frag} {ca : CaT} {F : Hp} {m : List Addr} {κ δ : Type} {kd : κ → δ} : ∀ {l : List (κ × V)} {s : List (δ × D)}, KvR K ca F m kd l s → l.length = s.length
  | _, _, .nil => rfl
  | _, _, .cons _ r => by rw [List.length_cons, List.length_cons, KvR.length r]
/-- the object u stands at a, locked or not -/
def At (H : Hp) (a : Addr) : Bool → HO → Prop
  | false, u => H a = some u
  | true, u => ∃ od, H a = some (.frz od u)
def fS (f : String) : Str := ⟨(f.toList.map Char.toNat).toArray⟩
theorem fS_inj {f g : String} : fS f = fS g ↔ f = g := by
  refine ⟨fun h => ?_, fun h => by rw [h]⟩
  unfold fS at h
  injection h with h
  have h2 : f.toList.map Char.toNat = g.toList.map Char.toNat := by
    have := congrArg Array.toList h
    simpa using this
  have inj : ∀ a b : Char, a.toNat = b.toNat → a = b := fun a b e => Char.ext (UInt32.toNat_inj.mp e)
  have h3 : ∀ (l m : List Char), l.map Char.toNat = m.map Char.toNat → l = m := by
    intro l
    induction l with
    | nil => intro m h; cases m with
      | nil => rfl
      | cons _ _ => simp at h
    | cons a l ih =>
      intro m h
      cases m with
      | nil => simp at h
      | cons b m =>
        rw [List.map_cons, List.map_cons] at h
        injection h with h1 h2
        rw [inj a b h1, ih m h2]
  exact String.toList_inj.mp (h3 _ _ h2)
/-- fields by their names -/
inductive FdR (K : PySem.W.Frag) (ca : CaT) (F : Hp) (m : List Addr) : List (Str × V) → List (String × D) → Prop
  | nil : FdR K ca F m [] []
  | cons {f : String} {v : V} {d : D} {r : List (Str × V)} {s : List (String × D)} : Rep K ca F m v d → FdR K ca F m r s → FdR K ca F m ((fS f, v) :: r) ((f, d) :: s)
theorem FdR.mono {K : PySem.W.Frag} {ca : CaT} {F F' : Hp} {m m' : List Addr} (e : Ex F F') (p : Pre m m') : ∀ {l : List (Str × V)} {s : List (String × D)}, FdR K ca F m l s → FdR K ca F' m' l s
  | _, _, .nil => .nil
  | _, _, .cons h r => .cons (h.mono e p) (FdR.mono e p r)
theorem FdR.length {K : PySem.W.Frag} {ca : CaT} {F : Hp} {m : List Addr} : ∀ {l : List (Str × V)} {s : List (String × D)}, FdR K ca F m l s → l.length = s.length
  | _, _, .nil => rfl
  | _, _, .cons _ r => by rw [List.length_cons, List.length_cons, FdR.length r]
def ORep (K : PySem.W.Frag) (ca : CaT) (F : Hp) (m : List Addr) (H : Hp) (a : Addr) : O → Prop
  | .lst l => ∃ vs, H a = some (.lst vs) ∧ RepL K ca F m vs l
  | .dic false lk l => ∃ kvs, At H a lk (.dK kvs) ∧ KvR K ca F m kD kvs l
  | .dic true lk l => ∃ kvs, At H a lk (.dT kvs) ∧ KvR K ca F m kT kvs l
  | .obj C fs => ∃ dx kvs, H a = some (.ins (ca C) dx kvs) ∧ FdR K ca F m kvs fs
theorem At.mono {H H' : Hp} {a : Addr} {lk : Bool} {u : HO} (h : At H a lk u) (k : ∀ w, H a = some w → H' a = some w) : At H' a lk u := by
  cases lk with
  | false => exact k _ h
  | true => obtain ⟨od, h⟩ := h; exact ⟨od, k _ h⟩
section
variable {K : PySem.W.Frag} {ca : CaT} {F F' H H' : Hp} {m m' : List Addr} {a : Addr} {o : O}
theorem ORep.mono (h : ORep K ca F m H a o) (e : Ex F F') (p : Pre m m') (k : ∀ u, H a = some u → H' a = some u) : ORep K ca F' m' H' a o := by
  cases o with
  | lst l => obtain ⟨vs, x, r⟩ := h; exact ⟨vs, k _ x, r.mono e p⟩
  | dic t lk l =>
    cases t with
    | false => obtain ⟨kvs, x, r⟩ := h; exact ⟨kvs, x.mono k, r.mono e p⟩
    | true => obtain ⟨kvs, x, r⟩ := h; exact ⟨kvs, x.mono k, r.mono e p⟩
  | obj C fs => obtain ⟨dx, kvs, x, r⟩ := h; exact ⟨dx, kvs, k _ x, r.mono e p⟩
theorem ORep.ordy (h : ORep K ca F m H a o) : ∃ u, H a = some u ∧ Ordy u := by
  cases o with
  | lst l => obtain ⟨vs, x, r⟩ := h; exact ⟨_, x, trivial⟩
  | dic t lk l =>
    cases t with
    | false =>
      obtain ⟨kvs, x, r⟩ := h
      cases lk with
      | false => exact ⟨_, x, trivial⟩
      | true => obtain ⟨od, x⟩ := x; exact ⟨_, x, trivial⟩
    | true =>
      obtain ⟨kvs, x, r⟩ := h
      cases lk with
      | false => exact ⟨_, x, trivial⟩
      | true => obtain ⟨od, x⟩ := x; exact ⟨_, x, trivial⟩
  | obj C fs => obtain ⟨dx, kvs, x, _⟩ := h; exact ⟨_, x, trivial⟩
theorem ORep.ho (h : ORep K ca F m H a o) : ∃ u, H a = some u := by
  cases o with
  | lst l => obtain ⟨vs, x, r⟩ := h; exact ⟨_, x⟩
  | dic t lk l =>
    cases t with
    | false =>
      obtain ⟨kvs, x, r⟩ := h
      cases lk with
      | false => exact ⟨_, x⟩
      | true => obtain ⟨od, x⟩ := x; exact ⟨_, x⟩
    | true =>
      obtain ⟨kvs, x, r⟩ := h
      cases lk with
      | false => exact ⟨_, x⟩
      | true => obtain ⟨od, x⟩ := x; exact ⟨_, x⟩
  | obj C fs => obtain ⟨dx, kvs, x, _⟩ := h; exact ⟨_, x⟩
end
/-- the plain heap A is the heap H: m tells where its objects stand, F what never changes -/
structure Rl (K : PySem.W.Frag) (ca : CaT) (F : Hp) (m : List Addr) (A : Hs) (H : Hp) : Prop where
  fh : Ex F H
  len : m.length = A.length
  nd : m.Nodup
  fr : ∀ a ∈ m, F a = none
  ob : ∀ (i : Nat) (o : O) (a : Addr), A[i]? = some o → m[i]? = some a → ORep K ca F m H a o
  tb : LamX.Tabs ca.T H
  ft : ∀ a ps, F a ≠ some (.tbl ps)
/-- what a step leaves -/
structure Stp (F : Hp) (m : List Addr) (H F' : Hp) (m' : List Addr) (H' : Hp) : Prop where
  ff : Ex F F'
  mm : Pre m m'
  kp : ∀ a u, H a = some u → a ∉ m → (∀ ps, u ≠ .tbl ps) → H' a = some u
  gn : ∀ a, F' a ≠ none → F a ≠ none ∨ Fr1 H a ∨ ∃ xs, F' a = some (.tup xs)
  gm : ∀ a, a ∈ m' → a ∈ m ∨ Fr1 H a
  th : ∀ a, Fr1 H' a → Fr1 H a
  fz : ∀ a o u, H a = some (.frz o u) → H' a = some (.frz o u)
structure Slt (K : PySem.W.Frag) (ca : CaT) (F : Hp) (m : List Addr) (σ : L2.St) (env : Sl) : Prop where
  len : σ.length = env.length
  val : ∀ (i : Nat) (d : D), env[i]? = some (some d) → ∃ v : V, σ[i]? = some (some v) ∧ Rep K ca F m v d
section
variable {K : PySem.W.Frag} {ca : CaT} {F F1 F2 H H1 H2 : Hp} {m m1 m2 : List Addr} {A : Hs} {σ : L2.St} {env : Sl} {p : Addr} {u : HO} {o : O} {d : D} {v : V} {i : Nat}
theorem Stp.refl : Stp F m H F m H := ⟨Ex.refl _, Pre.refl _, fun _ _ h _ _ => h, fun a h => .inl h, fun a h => .inl h, fun _ h => h, fun _ _ _ h => h⟩
theorem Stp.trans (x : Stp F m H F1 m1 H1) (y : Stp F1 m1 H1 F2 m2 H2) : Stp F m H F2 m2 H2 := by
  refine ⟨x.ff.trans y.ff, x.mm.trans y.mm, fun a u h n nt => ?_, fun a h => ?_, fun a h => ?_, fun a h => x.th a (y.th a h), fun a o u h => y.fz a o u (x.fz a o u h)⟩
  · refine y.kp a u (x.kp a u h n nt) (fun hm => ?_) nt
    rcases x.gm a hm with q | q
    · exact n q
    · obtain ⟨ps, z⟩ := q u h
      exact nt ps z
  · rcases y.gn a h with q | q | q
    · rcases x.gn a q with z | z | ⟨xs, z⟩
      · exact .inl z
      · exact .inr (.inl z)
      · exact .inr (.inr ⟨xs, y.ff a _ z⟩)
    · exact .inr (.inl (x.th a q))
    · exact .inr (.inr q)
  · rcases y.gm a h with q | q
    · exact x.gm a q
    · exact .inr (x.th a q)
theorem Slt.mono (S : Slt K ca F m σ env) (e : Ex F F1) (p : Pre m m1) : Slt K ca F1 m1 σ env := ⟨S.len, fun i d h => by
  obtain ⟨v, h1, h2⟩ := S.val i d h
  exact ⟨v, h1, h2.mono e p⟩⟩
theorem Slt.stp (S : Slt K ca F m σ env) (x : Stp F m H F1 m1 H1) : Slt K ca F1 m1 σ env := S.mono x.ff x.mm
theorem Slt.set (S : Slt K ca F m σ env) (r : Rep K ca F m v d) : Slt K ca F m (σ.set i (some v)) (env.set i (some d)) := ⟨by simp [S.len], fun j e h => by
  by_cases q : i = j
  · subst q
    rw [List.getElem?_set] at h ⊢
    have l := S.len
    split at h
    · split at h
      · cases h
        refine ⟨v, ?_, r⟩
        simp_all
      · cases h
    · rename_i z; exact absurd rfl z
  · rw [List.getElem?_set_ne q] at h ⊢
    exact S.val j e h⟩
theorem Slt.unset (S : Slt K ca F m σ env) : Slt K ca F m (σ.set i none) (env.set i none) := ⟨by simp [S.len], fun j e h => by
  by_cases q : i = j
  · subst q
    rw [List.getElem?_set] at h
    split at h
    · split at h <;> cases h
    · rename_i z; exact absurd rfl z
  · rw [List.getElem?_set_ne q] at h ⊢
    exact S.val j e h⟩
theorem Rl.ordy (R : Rl K ca F m A H) {a : Addr} (ha : m[i]? = some a) : ∃ u, H a = some u ∧ Ordy u := by
  have il : i < A.length := by rw [← R.len]; exact (List.getElem?_eq_some_iff.mp ha).1
  exact (R.ob i A[i] a (List.getElem?_eq_getElem il) ha).ordy
theorem Rl.ne (R : Rl K ca F m A H) {a : Addr} (h : a ∈ m) : H a ≠ none := by
  obtain ⟨i, hi⟩ := List.getElem?_of_mem h
  have l : i < A.length := by rw [← R.len]; exact (List.getElem?_eq_some_iff.mp hi).1
  obtain ⟨u, hu⟩ := (R.ob i A[i] a (by simp [l]) hi).ho
  rw [hu]; simp
theorem Rl.out (R : Rl K ca F m A H) {a : Addr} (h : H a = none) : a ∉ m := fun q => R.ne q h
/-- a new thing that stands -/
theorem Rl.new (R : Rl K ca F m A H) (n : H p = none) (hu : ∀ ps, u ≠ HO.tbl ps := by intro _ h; cases h) : Rl K ca (upd F p u) m A (upd H p u) ∧ Stp F m H (upd F p u) m (upd H p u) := by
  have nf := R.fh.back n
  refine ⟨⟨R.fh.both, R.len, R.nd, fun a h => ?_, fun i o a h1 h2 => (R.ob i o a h1 h2).mono (Ex.new nf) (Pre.refl _) fun w hw => Ex.new n a w hw, R.tb.ext fun b o h => Ex.new n b o h, fun a ps => ?_⟩, Ex.new nf, Pre.refl _, fun a w h _ _ => Ex.new n a w h, fun a h => ?_, fun a h => .inl h, fun a h => h.back fun u hu => Ex.new n a u hu, fun a o w h => Ex.new n a _ h⟩
  · rw [upd_ne (fun z => R.out n (by rw [← z]; exact h))]; exact R.fr a h
  · by_cases q : a = p
    · subst q; rw [upd_same]; exact fun z => hu ps (Option.some.inj z)
    · rw [upd_ne q]; exact R.ft a ps
  · by_cases q : a = p
    · subst q; exact .inr (.inl (.none n))
    · rw [upd_ne q] at h; exact .inl h
/-- a tuple that stands is known from now on -/
theorem Rl.catch {vs : List V} (R : Rl K ca F m A H) (h : H p = some (.tup vs)) : ∃ F1, Rl K ca F1 m A H ∧ Stp F m H F1 m H ∧ F1 p = some (.tup vs) := by
  have nm : p ∉ m := fun hm => by
    obtain ⟨i, hi⟩ := List.getElem?_of_mem hm
    have l : i < A.length := by rw [← R.len]; exact (List.getElem?_eq_some_iff.mp hi).1
    have r := R.ob i A[i] p (by simp [l]) hi
    cases q : A[i] with
    | lst l => rw [q] at r; obtain ⟨vs, x, _⟩ := r; rw [h] at x; cases x
    | obj C fs => rw [q] at r; obtain ⟨dx, kvs, x, _⟩ := r; rw [h] at x; cases x
    | dic t lk l =>
      rw [q] at r
      cases t with
      | false =>
        obtain ⟨kvs, x, _⟩ := r
        cases lk with
        | false => have x : H p = some (.dK kvs) := x; rw [h] at x; cases x
        | true => obtain ⟨od, x⟩ := x; rw [h] at x; cases x
      | true =>
        obtain ⟨kvs, x, _⟩ := r
        cases lk with
        | false => have x : H p = some (.dT kvs) := x; rw [h] at x; cases x
        | true => obtain ⟨od, x⟩ := x; rw [h] at x; cases x
  have e : Ex F (upd F p (.tup vs)) := fun a o ha => by
    by_cases q : a = p
    · subst q
      have := R.fh a o ha
      rw [h] at this
      cases this
      exact upd_same
    · rw [upd_ne q]; exact ha
  refine ⟨upd F p (.tup vs), ⟨fun a o ha => ?_, R.len, R.nd, fun a ha => ?_, fun i o a h1 h2 => (R.ob i o a h1 h2).mono e (Pre.refl _) fun w hw => hw, R.tb, fun a ps => ?_⟩, ⟨e, Pre.refl _, fun a w h _ _ => h, fun a ha => ?_, fun a h => .inl h, fun a h => h, fun a o w h => h⟩, upd_same⟩
  · by_cases q : a = p
    · subst q; rw [upd_same] at ha; cases ha; exact h
    · rw [upd_ne q] at ha; exact R.fh a o ha
  · rw [upd_ne (fun z => nm (by rw [← z]; exact ha))]; exact R.fr a ha
  · by_cases q : a = p
    · subst q; rw [upd_same]; intro z; cases z
    · rw [upd_ne q]; exact R.ft a ps
  · by_cases q : a = p
    · subst q; exact .inr (.inr ⟨vs, upd_same⟩)
    · rw [upd_ne q] at ha; exact .inl ha
/-- a new thing that nobody tracks -/
theorem Rl.newH (R : Rl K ca F m A H) (n : H p = none) : Rl K ca F m A (upd H p u) ∧ Stp F m H F m (upd H p u) := by
  refine ⟨⟨R.fh.trans (Ex.new n), R.len, R.nd, R.fr, fun i o a h1 h2 => (R.ob i o a h1 h2).mono (Ex.refl _) (Pre.refl _) fun w hw => Ex.new n a w hw, R.tb.ext fun b o h => Ex.new n b o h, R.ft⟩, Ex.refl _, Pre.refl _, fun a w h _ _ => Ex.new n a w h, fun a h => .inl h, fun a h => .inl h, fun a h => h.back fun u hu => Ex.new n a u hu, fun a o w h => Ex.new n a _ h⟩
/-- what is there is taken into the plain heap -/
theorem Rl.take (R : Rl K ca F m A H) (n : p ∉ m) (nf : F p = none) (r : ORep K ca F (m ++ [p]) H p o) : Rl K ca F (m ++ [p]) (A ++ [o]) H := by
  refine ⟨R.fh, by simp [R.len], ?_, fun a h => ?_, fun i o' a h1 h2 => ?_, R.tb, R.ft⟩
  · rw [List.nodup_append]
    refine ⟨R.nd, by simp, fun a h b hb e => ?_⟩
    rw [List.mem_singleton] at hb
    exact n (by rw [← hb, ← e]; exact h)
  · rcases List.mem_append.mp h with q | q
    · exact R.fr a q
    · rw [List.mem_singleton] at q; rw [q]; exact nf
  · by_cases q : i < A.length
    · rw [List.getElem?_append_left q] at h1
      rw [List.getElem?_append_left (by rw [R.len]; exact q)] at h2
      exact (R.ob i o' a h1 h2).mono (Ex.refl _) ⟨[p], rfl⟩ fun _ h => h
    · rw [List.getElem?_append_right (Nat.le_of_not_lt q)] at h1
      rw [List.getElem?_append_right (by rw [R.len]; exact Nat.le_of_not_lt q)] at h2
      rw [R.len] at h2
      have e : i - A.length = 0 := by
        have := (List.getElem?_eq_some_iff.mp h1).1
        simp at this; omega
      rw [e] at h1 h2
      cases h1; cases h2; exact r
/-- a new object of the plain heap -/
theorem Rl.alloc (R : Rl K ca F m A H) (n : H p = none) (r : ORep K ca F (m ++ [p]) (upd H p u) p o) : Rl K ca F (m ++ [p]) (A ++ [o]) (upd H p u) ∧ Stp F m H F (m ++ [p]) (upd H p u) ∧ Rep K ca F (m ++ [p]) (.ref p) (.ref A.length) := by
  obtain ⟨R1, g1⟩ := R.newH (u := u) n
  refine ⟨R1.take (R.out n) (R.fh.back n) r, ⟨Ex.refl _, ⟨[p], rfl⟩, g1.kp, g1.gn, fun a h => ?_, g1.th, g1.fz⟩, .ref (by rw [List.getElem?_append_right (by rw [R.len]; exact Nat.le_refl _), R.len]; simp)⟩
  rcases List.mem_append.mp h with q | q
  · exact .inl q
  · rw [List.mem_singleton] at q; exact .inr (by rw [q]; exact .none n)
/-- an object of the plain heap is another one now -/
theorem Rl.put {a : Addr} {o' : O} (R : Rl K ca F m A H) (ha : m[i]? = some a) (nz : ∀ od w, H a ≠ some (.frz od w)) (r : ORep K ca F m (upd H a u) a o') : Rl K ca F m (A.set i o') (upd H a u) ∧ Stp F m H F m (upd H a u) := by
  have hm : a ∈ m := List.mem_of_getElem? ha
  have fa := R.fr a hm
  obtain ⟨w0, e0, o0⟩ := R.ordy ha
  refine ⟨⟨R.fh.right fa, by simp [R.len], R.nd, R.fr, fun j o b h1 h2 => ?_, tabs_upd R.tb e0 o0, R.ft⟩, Ex.refl _, Pre.refl _, fun b w h n _ => ?_, fun a h => .inl h, fun a h => .inl h, fun b h => ?_, fun b od w h => ?_⟩
  · by_cases q : i = j
    · subst q
      rw [ha] at h2; cases h2
      rw [List.getElem?_set] at h1
      split at h1
      · split at h1
        · cases h1; exact r
        · cases h1
      · rename_i z; exact absurd rfl z
    · rw [List.getElem?_set_ne q] at h1
      have nb : b ≠ a := fun z => q (by
        subst z
        exact (List.getElem?_inj (List.getElem?_eq_some_iff.mp ha).1 R.nd).mp (ha.trans h2.symm))
      exact (R.ob j o b h1 h2).mono (Ex.refl _) (Pre.refl _) fun w hw => by rw [upd_ne nb]; exact hw
  · rw [upd_ne fun z => n (by rw [z]; exact hm)]; exact h
  · by_cases q : b = a
    · subst q
      obtain ⟨w1, e1, o1⟩ := r.ordy
      exact (h.no e1 o1).elim
    · exact h.back fun u hu => by rw [upd_ne q]; exact hu
  · rw [upd_ne fun z => nz od w (by rw [← z]; exact h)]; exact h
theorem Rl.at (R : Rl K ca F m A H) (hA : A[i]? = some o) (r : Rep K ca F m v (.ref i)) : ∃ a, v = .ref a ∧ m[i]? = some a ∧ ORep K ca F m H a o := by
  cases r with
  | ref h => exact ⟨_, rfl, h, R.ob i o _ hA h⟩

/-! ### simulations -/
/-- what is wanted behind it, told of the plain end -/
def Po {α β : Type} (K : PySem.W.Frag) (ca : CaT) (Rr : Hp → List Addr → β → α → Prop) (F : Hp) (m : List Addr) (H : Hp) (W : WX) (σ : L2.St) (Q : β → Hp → Prop) : RE α → Prop
  | .ok a A' => ∀ v F' m' H', Rl K ca F' m' A' H' → Stp F m H F' m' H' → Rr F' m' v a → Q v H'
  | .exc C A' => ∀ F' m' H', Rl K ca F' m' A' H' → Stp F m H F' m' H' → W (.ref (ca C)) none σ H'
  | .stuck => False
def Sim {α β : Type} (K : PySem.W.Frag) (ca : CaT) (Rr : Hp → List Addr → β → α → Prop) (W : WX) (te : L2.St → Hp → (β → Hp → Prop) → Prop) (f : Sl → Hs → RE α) : Prop :=
  ∀ F m A σ H env Q, Rl K ca F m A H → Slt K ca F m σ env → Po K ca Rr F m H W σ Q (f env A) → te σ H Q
def ReqI {α : Type} : Hp → List Addr → α → α → Prop := fun _ _ b c => b = c
abbrev SimE (K : PySem.W.Frag) (ca : CaT) (W : WX) (te : TE) (f : E) : Prop := Sim K ca (Rep K ca) W te f
abbrev SimT (K : PySem.W.Frag) (ca : CaT) (W : WX) (te : TT) (f : Tt) : Prop := Sim K ca ReqI W te f
abbrev SimA (K : PySem.W.Frag) (ca : CaT) (W : WX) (te : TA) (f : As) : Prop := Sim K ca (RepL K ca) W te f
abbrev SimO (K : PySem.W.Frag) (ca : CaT) (W : WX) (te : TO) (f : Sl → Hs → RE (Option Int)) : Prop := Sim K ca ReqI W te f
end
section
variable {K : PySem.W.Frag} {ca : CaT} {F F1 F2 H H1 H2 : Hp} {m m1 m2 : List Addr} {A : Hs} {σ : L2.St} {env : Sl} {W : WX}
theorem Po.stp {α β : Type} {Rr : Hp → List Addr → β → α → Prop} {Q : β → Hp → Prop} {r : RE α} (h : Po K ca Rr F m H W σ Q r) (g : Stp F m H F1 m1 H1) : Po K ca Rr F1 m1 H1 W σ Q r := by
  cases r with
  | ok a A' => exact fun v F' m' H' R g' q => h v F' m' H' R (g.trans g') q
  | exc C A' => exact fun F' m' H' R g' => h F' m' H' R (g.trans g')
  | stuck => exact h
theorem Po.imp {α β : Type} {Rr : Hp → List Addr → β → α → Prop} {Q Q' : β → Hp → Prop} {r : RE α} (h : Po K ca Rr F m H W σ Q r) (k : ∀ v H, Q v H → Q' v H) : Po K ca Rr F m H W σ Q' r := by
  cases r with
  | ok a A' => exact fun v F' m' H' R g' q => k _ _ (h v F' m' H' R g' q)
  | exc C A' => exact h
  | stuck => exact h
/-- first f, then g -/
theorem Sim.bind {α β γ δ : Type} {Rr : Hp → List Addr → β → α → Prop} {Rs : Hp → List Addr → δ → γ → Prop} {te : L2.St → Hp → (β → Hp → Prop) → Prop} {f : Sl → Hs → RE α} (h : Sim K ca Rr W te f) (R : Rl K ca F m A H) (S : Slt K ca F m σ env) {g : α → Hs → RE γ}
    {Q : δ → Hp → Prop} {T : β → Hp → Prop} (p : Po K ca Rs F m H W σ Q ((f env A).bind g))
    (k : ∀ F1 m1 A1 H1 x a, Rl K ca F1 m1 A1 H1 → Stp F m H F1 m1 H1 → Slt K ca F1 m1 σ env → Rr F1 m1 x a → Po K ca Rs F1 m1 H1 W σ Q (g a A1) → T x H1) : te σ H T := by
  refine h F m A σ H env T R S ?_
  cases q : f env A with
  | ok a A1 =>
    rw [q] at p
    exact fun v F1 m1 H1 R1 g1 r => k F1 m1 A1 H1 v a R1 g1 (S.stp g1) r (Po.stp p g1)
  | exc C A1 => rw [q] at p; exact p
  | stuck => rw [q] at p; exact p
/-! ### expressions -/
variable {ta tb tc te : TE} {a b c : E} {i : Nat} {d : D} {t u : TT} {ft fu : Tt} {ts : TA} {as : As}
theorem se_var : SimE K ca W (tVar i) (eVar i) := fun F m A σ H env Q R S p => by
  unfold eVar at p
  cases q : env[i]? with
  | none => rw [q] at p; exact p.elim
  | some z =>
    cases z with
    | none => rw [q] at p; exact p.elim
    | some d =>
      rw [q] at p
      obtain ⟨v, h1, h2⟩ := S.val i d q
      exact ⟨v, h1, p v F m H R Stp.refl h2⟩
theorem se_c {v : V} (h : ∀ F m, Rep K ca F m v d) : SimE K ca W (tC v) (eC d) := fun F m A σ H env Q R S p => p v F m H R Stp.refl (h F m)
theorem se_int {n : Int} : SimE K ca W (tC (.int n)) (eC (.int n)) := se_c fun _ _ => .int n
theorem se_bl {c : Bool} : SimE K ca W (tC (.bl c)) (eC (.bl c)) := se_c fun _ _ => .bl c
theorem se_non : SimE K ca W (tC .non) (eC .non) := se_c fun _ _ => .non
theorem se_ty {x : String} : SimE K ca W (tC (.ty x)) (eC (.ty x)) := se_c fun _ _ => .ty x
theorem se_nm {x : String} {a : Addr} (h : ca x = a) : SimE K ca W (tC (.ref a)) (eC (.nm x)) := se_c fun _ _ => h ▸ .nm x
/-- an operator: two operands' values, their data -/
def OpS (K : PySem.W.Frag) (ca : CaT) (r : R2) (o : D → D → Hs → RE D) : Prop := ∀ F m A H x y dx dy W σ Q, Rl K ca F m A H → Rep K ca F m x dx → Rep K ca F m y dy → Po K ca (Rep K ca) F m H W σ Q (o dx dy A) → r x y H Q
theorem se_op {r : R2} {o : D → D → Hs → RE D} (h : OpS K ca r o) (ha : SimE K ca W ta a) (hb : SimE K ca W tb b) : SimE K ca W (tOp r ta tb) (eOp o a b) := fun F m A σ H env Q R S p =>
  ha.bind R S p fun F1 m1 A1 H1 x dx R1 g1 S1 rx p1 => hb.bind R1 S1 p1 fun F2 m2 A2 H2 y dy R2 g2 S2 ry p2 => h F2 m2 A2 H2 x y dx dy W σ Q R2 (rx.mono g2.ff g2.mm) ry p2
def UnS (K : PySem.W.Frag) (ca : CaT) (r : V → Hp → VK → Prop) (o : D → Hs → RE D) : Prop := ∀ F m A H x dx W σ Q, Rl K ca F m A H → Rep K ca F m x dx → Po K ca (Rep K ca) F m H W σ Q (o dx A) → r x H Q
theorem se_un {r : V → Hp → VK → Prop} {o : D → Hs → RE D} (h : UnS K ca r o) (ha : SimE K ca W ta a) : SimE K ca W (tUn r ta) (eUn o a) := fun F m A σ H env Q R S p =>
  ha.bind R S p fun F1 m1 A1 H1 x dx R1 g1 S1 rx p1 => h F1 m1 A1 H1 x dx W σ Q R1 rx p1
theorem sa_nil : SimA K ca W tNil aNil := fun F m A σ H env Q R S p => p [] F m H R Stp.refl .nil
theorem sa_cons (ha : SimE K ca W ta a) (hs : SimA K ca W ts as) : SimA K ca W (tCons ta ts) (aCons a as) := fun F m A σ H env Q R S p =>
  ha.bind R S p fun F1 m1 A1 H1 x dx R1 g1 S1 rx p1 => hs.bind R1 S1 p1 fun F2 m2 A2 H2 xs ds R2 g2 S2 rs p2 => p2 (x :: xs) F2 m2 H2 R2 Stp.refl (.cons (rx.mono g2.ff g2.mm) rs)
def CbS (K : PySem.W.Frag) (ca : CaT) (r : List V → Hp → VK → Prop) (o : List D → Hs → RE D) : Prop := ∀ F m A H xs ds W σ Q, Rl K ca F m A H → RepL K ca F m xs ds → Po K ca (Rep K ca) F m H W σ Q (o ds A) → r xs H Q
theorem se_cb {r : List V → Hp → VK → Prop} {o : List D → Hs → RE D} (h : CbS K ca r o) (hs : SimA K ca W ts as) : SimE K ca W (tCB r ts) (eCB o as) := fun F m A σ H env Q R S p =>
  hs.bind R S p fun F1 m1 A1 H1 xs ds R1 g1 S1 rx p1 => h F1 m1 A1 H1 xs ds W σ Q R1 rx p1
theorem se_and (ha : SimE K ca W ta a) (hb : SimE K ca W tb b) : SimE K ca W (tAndV ta tb) (eAnd a b) := fun F m A σ H env Q R S p =>
  ha.bind R S p fun F1 m1 A1 H1 x dx R1 g1 S1 rx p1 => by
    cases rx with
    | bl c =>
      refine ⟨c, rfl, ?_⟩
      cases c with
      | true => exact hb F1 m1 A1 σ H1 env Q R1 S1 p1
      | false => exact p1 _ F1 m1 H1 R1 Stp.refl (.bl false)
    | _ => exact p1.elim
theorem se_or (ha : SimE K ca W ta a) (hb : SimE K ca W tb b) : SimE K ca W (tOrV ta tb) (eOr a b) := fun F m A σ H env Q R S p =>
  ha.bind R S p fun F1 m1 A1 H1 x dx R1 g1 S1 rx p1 => by
    cases rx with
    | bl c =>
      refine ⟨c, rfl, ?_⟩
      cases c with
      | false => exact hb F1 m1 A1 σ H1 env Q R1 S1 p1
      | true => exact p1 _ F1 m1 H1 R1 Stp.refl (.bl true)
    | _ => exact p1.elim
theorem se_not (ha : SimE K ca W ta a) : SimE K ca W (tNotV ta) (eNot a) := fun F m A σ H env Q R S p =>
  ha.bind R S p fun F1 m1 A1 H1 x dx R1 g1 S1 rx p1 => by
    cases rx with
    | bl c => exact ⟨c, rfl, p1 _ F1 m1 H1 R1 Stp.refl (.bl _)⟩
    | _ => exact p1.elim
theorem se_ch {q q' : R2} {o o' : D → D → Hs → RE D} (h : OpS K ca q o) (h' : OpS K ca q' o') (ha : SimE K ca W ta a) (hb : SimE K ca W tb b) (hc : SimE K ca W tc c) : SimE K ca W (tChain q q' ta tb tc) (eCh o o' a b c) := fun F m A σ H env Q R S p =>
  ha.bind R S p fun F1 m1 A1 H1 x dx R1 g1 S1 rx p1 => hb.bind R1 S1 p1 fun F2 m2 A2 H2 y dy R2 g2 S2 ry p2 => by
    refine h F2 m2 A2 H2 x y dx dy W σ _ R2 (rx.mono g2.ff g2.mm) ry ?_
    cases w : o dx dy A2 with
    | stuck => rw [w] at p2; exact p2
    | exc C A3 => rw [w] at p2; exact p2
    | ok z A3 =>
      rw [w] at p2
      intro v F3 m3 H3 R3 g3 rz
      have p3 := Po.stp p2 g3
      cases rz with
      | bl k =>
        refine ⟨k, rfl, ?_⟩
        cases k with
        | false => exact p3 _ F3 m3 H3 R3 Stp.refl (.bl false)
        | true => exact hc.bind R3 (S2.stp g3) p3 fun F4 m4 A4 H4 w dw R4 g4 S4 rw' p4 => h' F4 m4 A4 H4 y w dy dw W σ Q R4 (ry.mono (g3.ff.trans g4.ff) (g3.mm.trans g4.mm)) rw' p4
      | _ => exact p3.elim
theorem st_test (ha : SimE K ca W ta a) : SimT K ca W (tTest ta) (tOf a) := fun F m A σ H env Q R S p =>
  ha.bind R S p fun F1 m1 A1 H1 x dx R1 g1 S1 rx p1 => by
    cases rx with
    | bl c => exact ⟨c, rfl, p1 _ F1 m1 H1 R1 Stp.refl rfl⟩
    | _ => exact p1.elim
theorem st_b (ha : SimE K ca W ta a) : SimT K ca W (tB ta) (tOf a) := fun F m A σ H env Q R S p =>
  ha.bind R S p fun F1 m1 A1 H1 x dx R1 g1 S1 rx p1 => by
    cases rx with
    | bl c => exact ⟨c, rfl, p1 _ F1 m1 H1 R1 Stp.refl rfl⟩
    | _ => exact p1.elim
theorem st_not (ht : SimT K ca W t ft) : SimT K ca W (tNot t) (tNo ft) := fun F m A σ H env Q R S p =>
  ht.bind R S p fun F1 m1 A1 H1 x dx R1 g1 S1 rx p1 => by
    cases (show x = dx from rx)
    exact p1 _ F1 m1 H1 R1 Stp.refl rfl
theorem st_and (ht : SimT K ca W t ft) (hu : SimT K ca W u fu) : SimT K ca W (tAnd t u) (tAn ft fu) := fun F m A σ H env Q R S p =>
  ht.bind R S p fun F1 m1 A1 H1 x dx R1 g1 S1 rx p1 => by
    cases (show x = dx from rx)
    cases x with
    | true => exact hu F1 m1 A1 σ H1 env Q R1 S1 p1
    | false => exact p1 _ F1 m1 H1 R1 Stp.refl rfl
theorem st_or (ht : SimT K ca W t ft) (hu : SimT K ca W u fu) : SimT K ca W (tOr t u) (tOo ft fu) := fun F m A σ H env Q R S p =>
  ht.bind R S p fun F1 m1 A1 H1 x dx R1 g1 S1 rx p1 => by
    cases (show x = dx from rx)
    cases x with
    | false => exact hu F1 m1 A1 σ H1 env Q R1 S1 p1
    | true => exact p1 _ F1 m1 H1 R1 Stp.refl rfl
theorem st_yes : SimT K ca W tYes tYe := fun F m A σ H env Q R S p => p _ F m H R Stp.refl rfl
theorem se_tup (hs : SimA K ca W ts as) : SimE K ca W (tTup ts) (eTup as) := fun F m A σ H env Q R S p =>
  hs.bind R S p fun F1 m1 A1 H1 xs ds R1 g1 S1 rs p1 => by
    split at p1
    · rename_i hl
      refine ⟨by rw [rs.length]; exact hl, fun q hq => ?_⟩
      obtain ⟨R2, g2⟩ := R1.new (u := .tup xs) hq
      exact p1 _ _ _ _ R2 g2 (.tup upd_same (rs.mono g2.ff g2.mm))
    · exact p1.elim
theorem po_alloc {Q : VK} {p : Addr} {u : HO} {o : O} (R : Rl K ca F m A H) (n : H p = none) (r : ORep K ca F (m ++ [p]) (upd H p u) p o) (h : Po K ca (Rep K ca) F m H W σ Q (alloc A o)) : Q (.ref p) (upd H p u) := by
  obtain ⟨R2, g2, q⟩ := R.alloc n r
  exact h _ _ _ _ R2 g2 q
theorem se_lst (hs : SimA K ca W ts as) : SimE K ca W (tLst ts) (eLst as) := fun F m A σ H env Q R S p =>
  hs.bind R S p fun F1 m1 A1 H1 xs ds R1 g1 S1 rs p1 => by
    split at p1
    · rename_i hl
      exact ⟨by rw [rs.length]; exact hl, fun q hq => po_alloc (o := .lst ds) R1 hq ⟨xs, upd_same, rs.mono (Ex.refl _) ⟨_, rfl⟩⟩ p1⟩
    · exact p1.elim
theorem se_dnewK : SimE K ca W tDNewK (eDNew false) := fun F m A σ H env Q R S p q hq => po_alloc (o := .dic false false []) R hq ⟨[], upd_same, .nil⟩ p
theorem se_dnewT : SimE K ca W tDNewT (eDNew true) := fun F m A σ H env Q R S p q hq => po_alloc (o := .dic true false []) R hq ⟨[], upd_same, .nil⟩ p
theorem so_none : SimO K ca W tNoPart oNo := fun F m A σ H env Q R S p => p _ F m H R Stp.refl rfl
theorem so_some (ha : SimE K ca W ta a) : SimO K ca W (tPart ta) (oSo a) := fun F m A σ H env Q R S p =>
  ha.bind R S p fun F1 m1 A1 H1 x dx R1 g1 S1 rx p1 => by
    cases rx with
    | int i => exact ⟨i, rfl, p1 _ F1 m1 H1 R1 Stp.refl rfl⟩
    | _ => exact p1.elim
def SlS (K : PySem.W.Frag) (ca : CaT) (r : V → Option Int → Option Int → Hp → VK → Prop) (o : D → Option Int → Option Int → Hs → RE D) : Prop := ∀ F m A H x dx lo hi W σ Q, Rl K ca F m A H → Rep K ca F m x dx → Po K ca (Rep K ca) F m H W σ Q (o dx lo hi A) → r x lo hi H Q
theorem se_sl {r : V → Option Int → Option Int → Hp → VK → Prop} {o : D → Option Int → Option Int → Hs → RE D} {tl th : TO} {fl fh : Sl → Hs → RE (Option Int)} (h : SlS K ca r o) (ha : SimE K ca W ta a) (hl : SimO K ca W tl fl) (hh : SimO K ca W th fh) : SimE K ca W (tSl r ta tl th) (eSl o a fl fh) := fun F m A σ H env Q R S p =>
  ha.bind R S p fun F1 m1 A1 H1 x dx R1 g1 S1 rx p1 => hl.bind R1 S1 p1 fun F2 m2 A2 H2 lo lo' R2 g2 S2 rl p2 => hh.bind R2 S2 p2 fun F3 m3 A3 H3 hi hi' R3 g3 S3 rh p3 => by
    cases (show lo = lo' from rl)
    cases (show hi = hi' from rh)
    exact h F3 m3 A3 H3 x dx lo hi W σ Q R3 (rx.mono (g2.ff.trans g3.ff) (g2.mm.trans g3.mm)) p3

/-! ### promises -/
def PoF (K : PySem.W.Frag) (ca : CaT) (F : Hp) (m : List Addr) (H : Hp) (Q : VK) (E : XK) : RE D → Prop
  | .ok a A' => ∀ v F' m' H', Rl K ca F' m' A' H' → Stp F m H F' m' H' → Rep K ca F' m' v a → Q v H'
  | .exc C A' => ∀ F' m' H', Rl K ca F' m' A' H' → Stp F m H F' m' H' → E (.ref (ca C)) none H'
  | .stuck => False
/-- THE PROMISE: it does what the plain function does -/
def SpF (K : PySem.W.Frag) (ca : CaT) (f : Fn) : Sp := fun vs H Q E => ∃ F m A ds, Rl K ca F m A H ∧ RepL K ca F m vs ds ∧ PoF K ca F m H Q E (f ds A)
theorem pof_po {Q : VK} {r : RE D} (h : Po K ca (Rep K ca) F m H W σ Q r) : PoF K ca F m H Q (WE W σ) r := by
  cases r <;> exact h
theorem pof_noX {Q : VK} {X : XK} {r : RE D} (h : Po K ca (Rep K ca) F m H W σ Q r.noX) : PoF K ca F m H Q X r := by
  cases r with
  | ok a A => exact h
  | exc C A => exact h.elim
  | stuck => exact h.elim
theorem se_call {f : Fn} (hs : SimA K ca W ts as) : SimE K ca W (tCallS (SpF K ca f) (WE W) ts) (eCall f as) := fun F m A σ H env Q R S p =>
  hs.bind R S p fun F1 m1 A1 H1 xs ds R1 g1 S1 rs p1 => ⟨F1, m1, A1, ds, R1, rs, pof_po p1⟩
theorem se_call0 {f : Fn} {X : XK} (hs : SimA K ca W ts as) : SimE K ca W (tCall (SpF K ca f) [] X ts) (eCall0 f as) := fun F m A σ H env Q R S p =>
  hs.bind R S p fun F1 m1 A1 H1 xs ds R1 g1 S1 rs p1 => ⟨F1, m1, A1, ds, R1, by rw [List.append_nil]; exact rs, pof_noX p1⟩

/-! ### fields -/
theorem fS_look {f : String} : ∀ {l : List (Str × V)} {s : List (String × D)}, FdR K ca F m l s → (∀ d, s.lookup f = some d → ∃ v, l.lookup (fS f) = some v ∧ Rep K ca F m v d) ∧ (s.lookup f = none → l.lookup (fS f) = none)
  | _, _, .nil => ⟨fun d h => by simp at h, fun _ => rfl⟩
  | _, _, .cons (f := g) (v := v) (d := e) h r => by
    have ih := fS_look (f := f) r
    by_cases q : f = g
    · subst q
      refine ⟨fun d z => ?_, fun z => ?_⟩
      · rw [List.lookup_cons_self] at z; cases z
        exact ⟨v, by rw [List.lookup_cons_self], h⟩
      · rw [List.lookup_cons_self] at z; cases z
    · have q1 : (f == g) = false := by simpa using q
      have q2 : (fS f == fS g) = false := by
        rw [beq_eq_false_iff_ne]
        exact fun z => q (fS_inj.mp z)
      refine ⟨fun d z => ?_, fun z => ?_⟩
      · rw [List.lookup_cons, q1] at z
        obtain ⟨w, h1, h2⟩ := ih.1 d z
        exact ⟨w, by rw [List.lookup_cons, q2]; exact h1, h2⟩
      · rw [List.lookup_cons, q1] at z
        rw [List.lookup_cons, q2]; exact ih.2 z
end
end SM

/-! ## methods that may raise -/
namespace L2
open PySem PySem.Spec PyProof.Rows
def tMethX (C : Addr) (m : Str) (sp : Sp) (E : St → XK) (ta : TE) (t : TA) : TE := fun σ H Q => ta σ H fun x H1 => ∃ a dx fs, x = .ref a ∧ H1 a = some (.ins C dx fs) ∧ fs.lookup m = none ∧
  t σ H1 fun vs H2 => sp (x :: vs) H2 Q (E σ)
section
variable {X : Cx} {CX : CXT} {k : Nat} {f C : Addr} {fd : FuncData} {ps : List Str} {sp : Sp} {E : St → XK} {x m : Str} {p pos apos : Pos} {e o : Expr} {es : List Expr} {ta : TE} {t : TA}
theorem pe_methX {pl : Sem Bool} (he : PE X o ta) (c : Cls X.K C) (hm : Meth X.K C m f) (F : FnOk X.prog X.w X.K X.mg X.base CX k f fd ps sp) (hr : Room k X.A) (hb : Binds X.K fd ps []) (hx : ∀ σ, PassesAt CX X σ (E σ)) (ha : PA X (e :: es) t)
    (hst : starEach (e :: es) X.env = (false, eval e X.env) :: starEach es X.env := by rfl) (hpl : (backTo pos (starEach es X.env)).any (·.1) = false := by rfl)
    (ht : eval (.Call (.Attribute o m apos) (e :: es) [] pos) X.env = (do
      let ov ← eval o X.env
      standAt apos.atName
      let (f, first) ← holding [ov] (getMethod ov m pl)
      callWith pos f first (backTo pos (starEach (e :: es) X.env)) (backToKw pos (keywordEach [] X.env))) := by rfl) :
    PE X (.Call (.Attribute o m apos) (e :: es) [] pos) (tMethX C m sp E ta t) := by
  refine ⟨fun pins s σ H Q I h => ?_⟩
  refine PySem.W.methodCall_KW (pl := pl) (thn (he.run pins s σ H _ I h) fun u s1 ⟨x, H1, I1, rx, a, dx, fs, ex, ea, l, q⟩ => ?_) ht
  subst ex
  obtain rfl : u = Value.ref a := rx
  refine getmeth_ok I1 ea c hm l ?_
  refine PySem.W.callWith_K (first := [.ref a]) (h₀ := X.base) I.ok.mod.kin hm.kp (thn (ha.run pos pins s1 σ H1 _ I1 q) fun us s2 ⟨vs, H2, I2, r, q2⟩ => ⟨I2.kIn, ?_⟩) hst hpl
  exact run_fnS (us := .ref a :: us) (vs := .ref a :: vs) F hr hb (hx σ) I2 (.cons rfl r) q2
/-- o.m() -/
theorem pe_methX0 {pl : Sem Bool} (he : PE X o ta) (c : Cls X.K C) (hm : Meth X.K C m f) (F : FnOk X.prog X.w X.K X.mg X.base CX k f fd ps sp) (hr : Room k X.A) (hb : Binds X.K fd ps []) (hx : ∀ σ, PassesAt CX X σ (E σ))
    (ht : eval (.Call (.Attribute o m apos) [] [] pos) X.env = (do
      let ov ← eval o X.env
      standAt apos.atName
      let (f, first) ← holding [ov] (getMethod ov m pl)
      callWith pos f first (backTo pos (starEach [] X.env)) (backToKw pos (keywordEach [] X.env))) := by rfl) :
    PE X (.Call (.Attribute o m apos) [] [] pos) (tMethX C m sp E ta tNil) := by
  refine ⟨fun pins s σ H Q I h => ?_⟩
  refine PySem.W.methodCall_KW (pl := pl) (thn (he.run pins s σ H _ I h) fun u s1 ⟨x, H1, I1, rx, a, dx, fs, ex, ea, l, q⟩ => ?_) ht
  subst ex
  obtain rfl : u = Value.ref a := rx
  refine getmeth_ok I1 ea c hm l ?_
  exact PySem.W.callWith_K0 (first := [.ref a]) I1.kIn hm.kp (run_fnS (us := [.ref a]) (vs := [.ref a]) F hr hb (hx σ) I1 (.cons rfl .nil) q)
theorem PE.or {X : Cx} {e : Expr} {t u : TE} (h1 : PE X e t) (h2 : PE X e u) : PE X e (fun σ H Q => t σ H Q ∨ u σ H Q) := ⟨fun pins s σ H Q I h => by
  rcases h with h | h
  · exact h1.run pins s σ H Q I h
  · exact h2.run pins s σ H Q I h⟩
theorem PS.or {X : Cx} {st : Stmt} {t u : TS} (h1 : PS X st t) (h2 : PS X st u) : PS X st (fun D σ H => t D σ H ∨ u D σ H) := ⟨fun pins s σ H D I h => by
  rcases h with h | h
  · exact h1.run pins s σ H D I h
  · exact h2.run pins s σ H D I h⟩
end
end L2
/-! ## fields, calls, statements -/
namespace SM
open PySem L2
open DL (Ex ExK tRaise tTry tTryO)
section
variable {K : PySem.W.Frag} {ca : CaT} {F F1 F2 H H1 H2 : Hp} {m m1 m2 : List Addr} {A A1 A2 : Hs} {σ : L2.St} {env : Sl} {W : WX}
variable {ta tb tc te : TE} {a b c : E} {i : Nat} {d : D} {t u : TT} {ft fu : Tt} {ts : TA} {as : As} {x : V} {dx : D} {C : String} {fs : List (String × D)} {cs : List String}
theorem obj_at (R : Rl K ca F m A H) (r : Rep K ca F m x dx) (h : objAt A dx = some (C, fs)) : ∃ i a dxx kvs, dx = .ref i ∧ x = .ref a ∧ m[i]? = some a ∧ A[i]? = some (.obj C fs) ∧ H a = some (.ins (ca C) dxx kvs) ∧ FdR K ca F m kvs fs := by
  cases dx with
  | ref i =>
    unfold objAt at h
    cases q : A[i]? with
    | none => simp [q] at h
    | some o =>
      cases o with
      | obj C' fs' =>
        simp [q] at h
        obtain ⟨rfl, rfl⟩ := h
        obtain ⟨a, e, ha, dxx, kvs, h1, h2⟩ := R.at q r
        exact ⟨i, a, dxx, kvs, rfl, e, ha, q, h1, h2⟩
      | lst _ => simp [q] at h
      | dic _ _ _ => simp [q] at h
  | _ => simp [objAt] at h
/-- the classes cs, that know no name f -/
def NoF (K : PySem.W.Frag) (ca : CaT) (cs : List String) (f : Str) : Prop := AllC (fun C => Cls K (ca C) ∧ NoAttr K (ca C) f) cs
theorem getFld_at {f : String} {f' : Str} (hf : f' = fS f) (R : Rl K ca F m A H) (r : Rep K ca F m x dx) (kc : NoF K ca cs f') (h : getFld cs f A dx = some d) : ∃ a C dxx kvs v, C ∈ cs ∧ x = .ref a ∧ H a = some (.ins (ca C) dxx kvs) ∧ Cls K (ca C) ∧ NoAttr K (ca C) f' ∧ kvs.lookup f' = some v ∧ Rep K ca F m v d := by
  unfold getFld at h
  cases q : objAt A dx with
  | none => rw [q] at h; cases h
  | some z =>
    obtain ⟨C, fs⟩ := z
    rw [q] at h
    simp only at h
    split at h
    · rename_i hc
      obtain ⟨i, a, dxx, kvs, e1, e2, h1, h2, h3, h4⟩ := obj_at R r q
      obtain ⟨v, h5, h6⟩ := (fS_look (f := f) h4).1 d h
      have kk := AllC.of kc hc
      exact ⟨a, C, dxx, kvs, v, hc, e2, h3, kk.1, kk.2, by rw [hf]; exact h5, h6⟩
    · cases h
theorem se_fld {f : String} {f' : Str} (hf : f' = fS f) (kc : NoF K ca cs f') (ha : SimE K ca W ta a) : SimE K ca W (tFld K ta f') (eFld cs f a) := fun F m A σ H env Q R S p =>
  ha.bind R S p fun F1 m1 A1 H1 x dx R1 g1 S1 rx p1 => by
    cases q : getFld cs f A1 dx with
    | none => simp only [q] at p1; exact p1.elim
    | some d =>
      simp only [q] at p1
      obtain ⟨a, C, dxx, kvs, v, _, e, h1, h2, h3, h4, h5⟩ := getFld_at hf R1 rx kc q
      exact ⟨a, ca C, dxx, kvs, v, e, h1, h2, h3, h4, p1 v F1 m1 H1 R1 Stp.refl h5⟩
theorem putF_rep {f : String} {v : V} (hv : Rep K ca F m v d) : ∀ {kvs : List (Str × V)} {fs : List (String × D)}, FdR K ca F m kvs fs → FdR K ca F m (L2.putF (fS f) v kvs) (putF f d fs)
  | _, _, .nil => .cons hv .nil
  | _, _, .cons (f := g) h r => by
    unfold L2.putF SM.putF
    by_cases q : g = f
    · subst q; rw [if_pos rfl, if_pos rfl]; exact .cons hv r
    · rw [if_neg q, if_neg (fun z => q (fS_inj.mp z))]; exact .cons h (putF_rep hv r)
theorem setFld_at {f : String} {f' : Str} {v : V} (hf : f' = fS f) (R : Rl K ca F m A H) (r : Rep K ca F m x dx) (rv : Rep K ca F m v d) (kc : NoF K ca cs f') (h : setFld cs A dx f d = some A2) :
    ∃ a C dxx kvs, C ∈ cs ∧ x = .ref a ∧ H a = some (.ins (ca C) dxx kvs) ∧ Cls K (ca C) ∧ NoAttr K (ca C) f' ∧ kvs.length < 999 ∧ Rl K ca F m A2 (upd H a (.ins (ca C) dxx (L2.putF f' v kvs))) ∧ Stp F m H F m (upd H a (.ins (ca C) dxx (L2.putF f' v kvs))) := by
  unfold setFld at h
  cases dx with
  | ref i =>
    simp only at h
    cases q : A[i]? with
    | none => simp [q] at h
    | some o =>
      cases o with
      | obj C fs =>
        simp only [q] at h
        split at h
        · rename_i hc
          cases h
          obtain ⟨a, e, ha, dxx, kvs, h1, h2⟩ := R.at q r
          have kk := AllC.of kc hc.1
          obtain ⟨R2, g2⟩ := R.put (u := .ins (ca C) dxx (L2.putF f' v kvs)) (o' := .obj C (putF f d fs)) ha (fun od w z => by rw [h1] at z; cases z) ⟨dxx, _, upd_same, by rw [hf]; exact putF_rep rv h2⟩
          exact ⟨a, C, dxx, kvs, hc.1, e, h1, kk.1, kk.2, by rw [h2.length]; exact hc.2, R2, g2⟩
        · cases h
      | lst _ => simp [q] at h
      | dic _ _ _ => simp [q] at h
  | _ => simp at h

/-! ### statements -/
def PoS (K : PySem.W.Frag) (ca : CaT) (F : Hp) (m : List Addr) (H : Hp) (W : WX) (Dn : Ends) : RS → Prop
  | .nx e A' => ∀ F' m' σ' H', Rl K ca F' m' A' H' → Stp F m H F' m' H' → Slt K ca F' m' σ' e → Dn.nx σ' H'
  | .bk e A' => ∀ F' m' σ' H', Rl K ca F' m' A' H' → Stp F m H F' m' H' → Slt K ca F' m' σ' e → Dn.bk σ' H'
  | .ct e A' => ∀ F' m' σ' H', Rl K ca F' m' A' H' → Stp F m H F' m' H' → Slt K ca F' m' σ' e → Dn.ct σ' H'
  | .rt d A' => ∀ v F' m' H', Rl K ca F' m' A' H' → Stp F m H F' m' H' → Rep K ca F' m' v d → Dn.rt v H'
  | .exc C e A' => ∀ F' m' σ' H', Rl K ca F' m' A' H' → Stp F m H F' m' H' → Slt K ca F' m' σ' e → W (.ref (ca C)) none σ' H'
  | .stuck => False
def SimS (K : PySem.W.Frag) (ca : CaT) (W : WX) (t : TS) (f : S) : Prop := ∀ F m A σ H env Dn, Rl K ca F m A H → Slt K ca F m σ env → PoS K ca F m H W Dn (f env A) → t Dn σ H
variable {s1 s2 s : TS} {f1 f2 f : S} {Dn : Ends}
theorem PoS.stp {r : RS} (h : PoS K ca F m H W Dn r) (g : Stp F m H F1 m1 H1) : PoS K ca F1 m1 H1 W Dn r := by
  cases r with
  | nx e A' => exact fun F' m' σ' H' R g' q => h F' m' σ' H' R (g.trans g') q
  | bk e A' => exact fun F' m' σ' H' R g' q => h F' m' σ' H' R (g.trans g') q
  | ct e A' => exact fun F' m' σ' H' R g' q => h F' m' σ' H' R (g.trans g') q
  | rt d A' => exact fun v F' m' H' R g' q => h v F' m' H' R (g.trans g') q
  | exc C e A' => exact fun F' m' σ' H' R g' q => h F' m' σ' H' R (g.trans g') q
  | stuck => exact h
/-- the value of an expression, then a statement's rest -/
theorem ofE_bind {k : D → Hs → RS} {T : VK} (h : SimE K ca W te a) (R : Rl K ca F m A H) (S : Slt K ca F m σ env) (p : PoS K ca F m H W Dn (ofE env (a env A) k))
    (kk : ∀ F1 m1 A1 H1 x d, Rl K ca F1 m1 A1 H1 → Stp F m H F1 m1 H1 → Slt K ca F1 m1 σ env → Rep K ca F1 m1 x d → PoS K ca F1 m1 H1 W Dn (k d A1) → T x H1) : te σ H T := by
  refine h F m A σ H env T R S ?_
  cases q : a env A with
  | ok d A1 =>
    rw [q] at p
    exact fun v F1 m1 H1 R1 g1 r => kk F1 m1 A1 H1 v d R1 g1 (S.stp g1) r (PoS.stp p g1)
  | exc C A1 => rw [q] at p; exact fun F1 m1 H1 R1 g1 => p F1 m1 σ H1 R1 g1 (S.stp g1)
  | stuck => rw [q] at p; exact p
theorem ofT_bind {k : Bool → Hs → RS} {T : Bool → Hp → Prop} (h : SimT K ca W t ft) (R : Rl K ca F m A H) (S : Slt K ca F m σ env) (p : PoS K ca F m H W Dn (ofT env (ft env A) k))
    (kk : ∀ F1 m1 A1 H1 c, Rl K ca F1 m1 A1 H1 → Stp F m H F1 m1 H1 → Slt K ca F1 m1 σ env → PoS K ca F1 m1 H1 W Dn (k c A1) → T c H1) : t σ H T := by
  refine h F m A σ H env T R S ?_
  cases q : ft env A with
  | ok d A1 =>
    rw [q] at p
    intro v F1 m1 H1 R1 g1 r
    cases (show v = d from r)
    exact kk F1 m1 A1 H1 d R1 g1 (S.stp g1) (PoS.stp p g1)
  | exc C A1 => rw [q] at p; exact fun F1 m1 H1 R1 g1 => p F1 m1 σ H1 R1 g1 (S.stp g1)
  | stuck => rw [q] at p; exact p
theorem ss_seq (h1 : SimS K ca W s1 f1) (h2 : SimS K ca W s2 f2) : SimS K ca W (tSeq s1 s2) (sSeq f1 f2) := fun F m A σ H env Dn R S p => by
  refine h1 F m A σ H env { Dn with nx := s2 Dn } R S ?_
  unfold sSeq at p
  cases q : f1 env A with
  | nx e A1 =>
    rw [q] at p
    exact fun F' m' σ' H' R' g' S' => h2 F' m' A1 σ' H' e Dn R' S' (PoS.stp p g')
  | bk e A1 => rw [q] at p; exact p
  | ct e A1 => rw [q] at p; exact p
  | rt d A1 => rw [q] at p; exact p
  | exc C e A1 => rw [q] at p; exact p
  | stuck => rw [q] at p; exact p
theorem ss_next : SimS K ca W tNext sNx := fun F m A σ H env Dn R S p => p F m σ H R Stp.refl S
theorem ss_drop (h : SimE K ca W te a) : SimS K ca W (tDrop te) (sDrop a) := fun F m A σ H env Dn R S p => ofE_bind h R S p fun F1 m1 A1 H1 x d R1 g1 S1 rx p1 => p1 F1 m1 σ H1 R1 Stp.refl S1
theorem ss_ret (h : SimE K ca W te a) : SimS K ca W (tRet te) (sRet a) := fun F m A σ H env Dn R S p => ofE_bind h R S p fun F1 m1 A1 H1 x d R1 g1 S1 rx p1 => p1 x F1 m1 H1 R1 Stp.refl rx
theorem ss_if (ht : SimT K ca W t ft) (h1 : SimS K ca W s1 f1) (h2 : SimS K ca W s2 f2) : SimS K ca W (tIfS t s1 s2) (sIf ft f1 f2) := fun F m A σ H env Dn R S p => ofT_bind ht R S p fun F1 m1 A1 H1 c R1 g1 S1 p1 => by
  cases c with
  | true => exact h1 F1 m1 A1 σ H1 env Dn R1 S1 p1
  | false => exact h2 F1 m1 A1 σ H1 env Dn R1 S1 p1
theorem ss_set (h : SimE K ca W te a) : SimS K ca W (tAsg te (gName i)) (sSet i a) := fun F m A σ H env Dn R S p => ofE_bind h R S p fun F1 m1 A1 H1 x d R1 g1 S1 rx p1 => p1 F1 m1 _ H1 R1 Stp.refl (S1.set rx)
/-- targets: slots js alone change -/
def SimG (K : PySem.W.Frag) (ca : CaT) (g : TG) (f : G) (js : List Nat) : Prop := ∀ F m A σ H env v d env', Rl K ca F m A H → Slt K ca F m σ env → Rep K ca F m v d → f d env A = some env' → ∀ Q : L2.St → Hp → Prop,
  (∀ σ', Slt K ca F m σ' env' → σ'.length = σ.length → (∀ i : Nat, i ∉ js → σ'[i]? = σ[i]?) → Q σ' H) → g v σ H Q
def SimGs (K : PySem.W.Frag) (ca : CaT) (g : TGs) (f : List G) (js : List Nat) : Prop := ∀ F m A σ H env vs ds env', Rl K ca F m A H → Slt K ca F m σ env → RepL K ca F m vs ds → gAll f ds env A = some env' → ∀ Q : L2.St → Hp → Prop,
  (∀ σ', Slt K ca F m σ' env' → σ'.length = σ.length → (∀ i : Nat, i ∉ js → σ'[i]? = σ[i]?) → Q σ' H) → g vs σ H Q
theorem sg_name : SimG K ca (gName i) (gN i) [i] := fun F m A σ H env v d env' R S r h Q k => by
  cases h
  exact k _ (S.set r) (by simp) fun j hj => by rw [List.getElem?_set_ne (by intro z; exact hj (by simp [z]))]
theorem sgs_nil : SimGs K ca gNil [] [] := fun F m A σ H env vs ds env' R S r h Q k => by
  cases r with
  | nil => cases h; exact ⟨rfl, k σ S rfl fun _ _ => rfl⟩
  | cons _ _ => cases h
theorem sgs_cons {g : TG} {gs : TGs} {f : G} {fs : List G} {js ks : List Nat} (h : SimG K ca g f js) (hs : SimGs K ca gs fs ks) : SimGs K ca (gCons g gs) (f :: fs) (js ++ ks) := fun F m A σ H env vs ds env' R S r e Q k => by
  cases r with
  | nil => cases e
  | cons r1 r2 =>
    rename_i v vs d ds
    unfold gAll at e
    cases q : f d env A with
    | none => rw [q] at e; cases e
    | some env1 =>
      rw [q] at e
      refine ⟨v, vs, rfl, h F m A σ H env v d env1 R S r1 q _ fun σ1 S1 l1 k1 => hs F m A σ1 H env1 vs ds env' R S1 r2 e Q fun σ2 S2 l2 k2 => k σ2 S2 (l2.trans l1) fun i hi => ?_⟩
      rw [k2 i (fun z => hi (List.mem_append_right _ z)), k1 i (fun z => hi (List.mem_append_left _ z))]
theorem gAll_len : ∀ {fs : List G} {ds : List D} {env env' : Sl} {A : Hs}, gAll fs ds env A = some env' → ds.length = fs.length
  | [], [], _, _, _, _ => rfl
  | g :: gs, d :: ds, env, env', A, h => by
    unfold gAll at h
    cases q : g d env A with
    | none => rw [q] at h; cases h
    | some e => rw [q] at h; rw [List.length_cons, List.length_cons, gAll_len h]
  | [], _ :: _, _, _, _, h => by cases h
  | _ :: _, [], _, _, _, h => by cases h
theorem sg_tup {gs : TGs} {fs : List G} {js : List Nat} {n : Nat} (h : SimGs K ca gs fs js) (hn : fs.length = n) : SimG K ca (gTup K n gs) (gT fs) js := fun F m A σ H env v d env' R S r e Q k => by
  cases r with
  | tup s p =>
    have e' : gAll fs _ env A = some env' := e
    exact ⟨_, _, rfl, .inl (.inl (R.fh _ _ s)), by rw [p.length, gAll_len e', hn], h F m A σ H env _ _ env' R S p e' Q k⟩
  | _ => cases e
theorem ss_fl {f : String} {f' : Str} {tv : TE} (hf : f' = fS f) (kc : NoF K ca cs f') (ho : SimE K ca W ta a) (hv : SimE K ca W tv b) : SimS K ca W (sFld K ta tv f') (sFl cs f a b) := fun F m A σ H env Dn R S p =>
  ofE_bind hv R S p fun F1 m1 A1 H1 y dy R1 g1 S1 ry p1 => ofE_bind ho R1 S1 p1 fun F2 m2 A2 H2 x dx R2 g2 S2 rx p2 => by
    cases q : setFld cs A2 dx f dy with
    | none => simp only [q] at p2; exact p2.elim
    | some A3 =>
      simp only [q] at p2
      obtain ⟨a, C, dxx, kvs, _, e, h1, h2, h3, h4, R3, g3⟩ := setFld_at hf R2 rx (ry.mono g2.ff g2.mm) kc q
      exact ⟨a, ca C, dxx, kvs, e, h1, h2, h3, by omega, p2 F2 m2 σ _ R3 g3 S2⟩
theorem ss_raise {C : String} {Ca : Addr} (h : ca C = Ca) : SimS K ca W (tRaise W Ca) (sRaise C) := fun F m A σ H env Dn R S p => by
  subst h; exact p F m σ H R Stp.refl S
/-! ### loops -/
theorem ss_while (ht : SimT K ca W t ft) (h : SimS K ca W s f) : SimS K ca W (tWhile t s) (sWh ft f) := fun F m A σ H env Dn R S p => by
  have hx : ∃ n, whN ft f n env A ≠ .stuck := by
    by_cases q : ∃ n, whN ft f n env A ≠ .stuck
    · exact q
    · unfold sWh at p; rw [dif_neg q] at p; exact p.elim
  obtain ⟨n, hn⟩ := hx
  rw [sWh_eq hn] at p
  refine ⟨fun n σ' H' => ∃ F' m' A' env', Rl K ca F' m' A' H' ∧ Slt K ca F' m' σ' env' ∧ PoS K ca F' m' H' W Dn (whN ft f n env' A'), ⟨n, F, m, A, env, R, S, p⟩, ?_⟩
  rintro n σ' H' ⟨F', m', A', env', R', S', p'⟩
  cases n with
  | zero => exact p'.elim
  | succ n =>
    unfold whN at p'
    refine ofT_bind ht R' S' p' fun F1 m1 A1 H1 c R1 g1 S1 p1 => ?_
    cases c with
    | false => exact p1 F1 m1 σ' H1 R1 Stp.refl S1
    | true =>
      refine ⟨fun σ2 H2 => ∃ F2 m2 A2 env2, Rl K ca F2 m2 A2 H2 ∧ Slt K ca F2 m2 σ2 env2 ∧ PoS K ca F2 m2 H2 W Dn (whN ft f n env2 A2), fun σ2 H2 z => ⟨n, Nat.lt_succ_self n, z⟩, ?_⟩
      refine h F1 m1 A1 σ' H1 env' _ R1 S1 ?_
      simp only [if_true] at p1
      cases q : f env' A1 with
      | nx e A2 => rw [q] at p1; exact fun F2 m2 σ2 H2 R2 g2 S2 => ⟨F2, m2, A2, e, R2, S2, PoS.stp p1 g2⟩
      | ct e A2 => rw [q] at p1; exact fun F2 m2 σ2 H2 R2 g2 S2 => ⟨F2, m2, A2, e, R2, S2, PoS.stp p1 g2⟩
      | bk e A2 => rw [q] at p1; exact p1
      | rt d A2 => rw [q] at p1; exact p1
      | exc C e A2 => rw [q] at p1; exact p1
      | stuck => rw [q] at p1; exact p1
/-- what is walked -/
def PoW (K : PySem.W.Frag) (ca : CaT) (F : Hp) (m : List Addr) (H : Hp) (W : WX) (σ : L2.St) (R : It → Hp → Prop) : RE Wk → Prop
  | .ok k A' => ∀ J F' m' H', Rl K ca F' m' A' H' → Stp F m H F' m' H' → (∃ (G : Hp → Prop) (Y : Nat → Hp → V → Hp → Prop), Walk J k.ds.length G Y ∧
      (∀ F2 m2 A2 H2, k.gd A2 → Rl K ca F2 m2 A2 H2 → Stp F' m' H' F2 m2 H2 → G H2) ∧
      ∀ i d x F2 m2 A2 H2 H3, k.ds[i]? = some d → k.gd A2 → Rl K ca F2 m2 A2 H2 → Stp F' m' H' F2 m2 H2 → Y i H2 x H3 → (H3 = H2 ∧ Rep K ca F2 m2 x d) ∨ (∃ T vs l, d = .tup l ∧ x = .ref T ∧ H2 T = none ∧ H3 = upd H2 T (.tup vs) ∧ RepL K ca F2 m2 vs l) ∨ (∃ T vs l, d = .tup l ∧ x = .ref T ∧ H2 T = some (.tup vs) ∧ H3 = H2 ∧ RepL K ca F2 m2 vs l) ∨ (∃ F3, Rl K ca F3 m2 A2 H3 ∧ Stp F2 m2 H2 F3 m2 H3 ∧ Rep K ca F3 m2 x d)) → R J H'
  | .exc C A' => ∀ F' m' H', Rl K ca F' m' A' H' → Stp F m H F' m' H' → W (.ref (ca C)) none σ H'
  | .stuck => False
def SimI (K : PySem.W.Frag) (ca : CaT) (W : WX) (wi : TI) (f : Sl → Hs → RE Wk) : Prop := ∀ F m A σ H env R, Rl K ca F m A H → Slt K ca F m σ env → PoW K ca F m H W σ R (f env A) → wi σ H R
theorem ss_for {wi : TI} {w : Sl → Hs → RE Wk} {g : TG} {gf : G} {js : List Nat} (hi : SimI K ca W wi w) (hg : SimG K ca g gf js) (h : SimS K ca W s f) : SimS K ca W (tFor wi g s) (sFor w gf f) := fun F m A σ H env Dn R S p => by
  refine hi F m A σ H env _ R S ?_
  unfold sFor at p
  cases q : w env A with
  | stuck => rw [q] at p; exact p
  | exc C A1 => rw [q] at p; exact fun F1 m1 H1 R1 g1 => p F1 m1 σ H1 R1 g1 (S.stp g1)
  | ok k A1 =>
    rw [q] at p
    rintro J F1 m1 H1 R1 g1 ⟨G, Y, wk, hG, hY⟩
    refine for_it wk (fun i σ' H' => ∃ F' m' A' env', Rl K ca F' m' A' H' ∧ Slt K ca F' m' σ' env' ∧ Stp F1 m1 H1 F' m' H' ∧ PoS K ca F' m' H' W Dn (forL gf f k.gd (k.ds.drop i) env' A')) ⟨F1, m1, A1, env, R1, S.stp g1, Stp.refl, PoS.stp p g1⟩ ?_ ?_ ?_
    · rintro i σ' H' hi ⟨F', m', A', env', R', S', g', p'⟩
      refine hG F' m' A' H' ?_ R' g'
      cases z : k.ds.drop i with
      | nil => rw [z] at p'; unfold forL at p'; split at p'; assumption; exact p'.elim
      | cons d ds => rw [z] at p'; unfold forL at p'; split at p'; assumption; exact p'.elim
    · rintro i x σ2 H2 H3 hlt ⟨F2, m2, A2, env2, R2, S2, g2, p2⟩ y
      rw [List.drop_eq_getElem_cons hlt] at p2
      have gd2 : k.gd A2 := by
        by_cases z : k.gd A2
        · exact z
        · unfold forL at p2; rw [if_neg z] at p2; exact p2.elim
      have st3 : ∃ F3, Rl K ca F3 m2 A2 H3 ∧ Stp F2 m2 H2 F3 m2 H3 ∧ Rep K ca F3 m2 x k.ds[i] := by
        rcases hY i k.ds[i] x F2 m2 A2 H2 H3 (by simp [hlt]) gd2 R2 g2 y with ⟨e, rp⟩ | ⟨T, vs, l, q1, q2, q3, q4, q5⟩ | ⟨T, vs, l, q1, q2, q3, q4, q5⟩ | w3
        · subst e; exact ⟨F2, R2, Stp.refl, rp⟩
        · subst q4
          rw [q1, q2]
          obtain ⟨R3, g3⟩ := R2.new (u := .tup vs) q3
          exact ⟨_, R3, g3, .tup upd_same (q5.mono g3.ff g3.mm)⟩
        · subst q4
          rw [q1, q2]
          obtain ⟨F3, R3, g3, hT⟩ := R2.catch q3
          exact ⟨F3, R3, g3, .tup hT (q5.mono g3.ff g3.mm)⟩
        · exact w3
      obtain ⟨F3, R3, g3, rp⟩ := st3
      have p3 := PoS.stp p2 g3
      unfold forL at p3
      rw [if_pos gd2] at p3
      cases z : gf k.ds[i] env2 A2 with
      | none => rw [z] at p3; exact p3.elim
      | some env3 =>
        rw [z] at p3
        refine hg F3 m2 A2 σ2 H3 env2 x k.ds[i] env3 R3 (S2.stp g3) rp z _ fun σ3 S3 _ _ => ?_
        refine h F3 m2 A2 σ3 H3 env3 _ R3 S3 ?_
        cases y : f env3 A2 with
        | nx e A4 => simp only [y] at p3; exact fun F4 m4 σ4 H4 R4 g4 S4 => ⟨F4, m4, A4, e, R4, S4, (g2.trans g3).trans g4, PoS.stp p3 g4⟩
        | ct e A4 => simp only [y] at p3; exact fun F4 m4 σ4 H4 R4 g4 S4 => ⟨F4, m4, A4, e, R4, S4, (g2.trans g3).trans g4, PoS.stp p3 g4⟩
        | bk e A4 => simp only [y] at p3; exact p3
        | rt d A4 => simp only [y] at p3; exact p3
        | exc C e A4 => simp only [y] at p3; exact p3
        | stuck => simp only [y] at p3; exact p3
    · rintro σ' H' ⟨F', m', A', env', R', S', g', p'⟩
      rw [List.drop_length] at p'
      unfold forL at p'
      split at p'
      · exact p' F' m' σ' H' R' Stp.refl S'
      · exact p'.elim
end
end SM

/-! ## comprehensions, new instances, methods, defs -/
namespace SM
open PySem L2
open DL (Ex ExK)
section
variable {K : PySem.W.Frag} {ca : CaT} {F F1 F2 H H1 H2 : Hp} {m m1 m2 : List Addr} {A A1 A2 : Hs} {σ : L2.St} {env : Sl} {W : WX}
variable {ta tb tc te : TE} {a b c : E} {i : Nat} {d : D} {t u : TT} {ft fu : Tt} {ts : TA} {as : As} {x : V} {dx : D} {C : String} {fs : List (String × D)} {cs : List String}
theorem Slt.wiped (S : Slt K ca F m σ env) : ∀ vs : List Nat, Slt K ca F m (L2.wipe σ vs) (wipeS env vs)
  | [] => S
  | v :: vs => (Slt.wiped S vs).unset
theorem wipe_same {σ : L2.St} {σ2 : L2.St} {vs js : List Nat} (hj : ∀ j ∈ js, j ∈ vs) (l4 : σ2.length = (L2.wipe σ vs).length) (q4 : ∀ i : Nat, i ∉ js → σ2[i]? = (L2.wipe σ vs)[i]?) : L2.wipe σ2 vs = L2.wipe σ vs := by
  have len : ∀ (a : L2.St) (us : List Nat), (L2.wipe a us).length = a.length := fun a us => wipe_length a us
  have inn : ∀ (a : L2.St) (us : List Nat) (n : Nat), n ∈ us → n < a.length → (L2.wipe a us)[n]? = some none := fun a us => by
    induction us with
    | nil => intro n h _; simp at h
    | cons v us ih =>
      intro n h hl
      unfold L2.wipe
      by_cases z : v = n
      · subst z; rw [List.getElem?_set_self (by rw [len]; exact hl)]
      · rw [List.getElem?_set_ne z]
        exact ih n (by simp only [List.mem_cons] at h; rcases h with h | h; exact absurd h.symm z; exact h) hl
  apply List.ext_getElem?
  intro n
  by_cases z : n ∈ vs
  · by_cases hl : n < σ.length
    · rw [inn σ2 vs n z (by rw [l4, len]; exact hl), inn σ vs n z hl]
    · rw [List.getElem?_eq_none (by rw [len, l4, len]; omega), List.getElem?_eq_none (by rw [len]; omega)]
  · rw [DL.wipe_out z, q4 n (fun y => z (hj n y)), DL.wipe_out z]
theorem se_lc {wi : TI} {w : Sl → Hs → RE Wk} {g : TG} {gf : G} {js vs : List Nat} {W2 : WX} (hi : SimI K ca W wi w) (hg : SimG K ca g gf js) (hj : ∀ j ∈ js, j ∈ vs) (ht : SimT K ca W2 t ft) (ha : SimE K ca W2 ta a) : SimE K ca W (tLc wi g t ta vs) (eLc w gf ft a vs) := fun F m A σ H env Q R S p => by
  refine hi F m A σ H env _ R S ?_
  unfold eLc at p
  cases q : w env A with
  | stuck => rw [q] at p; exact p
  | exc C A1 => rw [q] at p; exact p
  | ok k A1 =>
    rw [q] at p
    rintro J F1 m1 H1 R1 g1 ⟨G, Y, wk, hG, hY⟩ Dl hD
    have p := Po.stp (r := match lcL gf ft a k.gd (wipeS env vs) k.ds [] A1 with
      | .ok l A2 => alloc A2 (.lst l)
      | _ => .stuck) p g1
    obtain ⟨R2, g2⟩ := R1.newH (u := .lst []) hD
    -- the plain run from turn i
    let run := fun (i : Nat) (acc : List D) (A' : Hs) => match lcL gf ft a k.gd (wipeS env vs) (k.ds.drop i) acc A' with
      | .ok l A2 => alloc A2 (.lst l)
      | _ => RE.stuck
    refine lc_it wk (fun i H' => ∃ F' m' A' acc ws, Rl K ca F' m' A' H' ∧ Stp F1 m1 H1 F' m' H' ∧ H' Dl = some (.lst ws) ∧ Dl ∉ m' ∧ F' Dl = none ∧ RepL K ca F' m' ws acc ∧ Po K ca (Rep K ca) F1 m1 H1 W σ Q (run i acc A')) ?_ ?_ ?_ ?_
    · exact ⟨F1, m1, A1, [], [], R2, g2, upd_same, R1.out hD, R1.fh.back hD, .nil, p⟩
    · rintro i H' hi ⟨F', m', A', acc, ws, R', g', d1, d2, d3, rs, p'⟩
      refine hG F' m' A' H' ?_ R' g'
      show k.gd A'
      dsimp only [run] at p'
      cases z : k.ds.drop i with
      | nil =>
        rw [z] at p'; unfold lcL at p'
        by_cases y : k.gd A'
        · exact y
        · rw [if_neg y] at p'; exact p'.elim
      | cons d ds =>
        rw [z] at p'; unfold lcL at p'
        by_cases y : k.gd A'
        · exact y
        · rw [if_neg y] at p'; exact p'.elim
    · rintro i x H2 H3 hlt ⟨F2, m2, A2, acc, ws, R2, g2, d1, d2, d3, rs, p2⟩ y
      have gd2 : k.gd A2 := by
        dsimp only [run] at p2
        rw [List.drop_eq_getElem_cons hlt] at p2
        by_cases z : k.gd A2
        · exact z
        · unfold lcL at p2; rw [if_neg z] at p2; exact p2.elim
      have st3 : ∃ F3, Rl K ca F3 m2 A2 H3 ∧ Stp F2 m2 H2 F3 m2 H3 ∧ Rep K ca F3 m2 x k.ds[i] ∧ H3 Dl = some (.lst ws) ∧ F3 Dl = none := by
        rcases hY i k.ds[i] x F2 m2 A2 H2 H3 (by simp [hlt]) gd2 R2 g2 y with ⟨e, rp⟩ | ⟨T, us, l, q1, q2, q3, q4, q5⟩ | ⟨T, us, l, q1, q2, q3, q4, q5⟩ | ⟨F3, R3, g3, rp⟩
        · subst e; exact ⟨F2, R2, Stp.refl, rp, d1, d3⟩
        · subst q4
          rw [q1, q2]
          obtain ⟨R3, g3⟩ := R2.new (u := .tup us) q3
          have nT : Dl ≠ T := fun z => by rw [← z, d1] at q3; cases q3
          exact ⟨_, R3, g3, .tup upd_same (q5.mono g3.ff g3.mm), by rw [upd_ne nT]; exact d1, by rw [upd_ne nT]; exact d3⟩
        · subst q4
          rw [q1, q2]
          obtain ⟨F3, R3, g3, hT⟩ := R2.catch q3
          refine ⟨F3, R3, g3, .tup hT (q5.mono g3.ff g3.mm), d1, ?_⟩
          cases w : F3 Dl with
          | none => rfl
          | some v => have := R3.fh Dl v w; rw [d1] at this; cases this; exact (g3.gn Dl (by rw [w]; simp)).elim (fun z => absurd d3 z) fun z => z.elim (fun z => (z.no d1 trivial).elim) fun ⟨xs, z⟩ => by rw [w] at z; cases z
        · have d1' : H3 Dl = some (.lst ws) := g3.kp Dl _ d1 d2 (fun ps z => by cases z)
          refine ⟨F3, R3, g3, rp, d1', ?_⟩
          cases w : F3 Dl with
          | none => rfl
          | some v => have := R3.fh Dl v w; rw [d1'] at this; cases this; exact (g3.gn Dl (by rw [w]; simp)).elim (fun z => absurd d3 z) fun z => z.elim (fun z => (z.no d1 trivial).elim) fun ⟨xs, z⟩ => by rw [w] at z; cases z
      obtain ⟨F3, R3, g3, rp, e1, e3⟩ := st3
      have rs3 := rs.mono g3.ff g3.mm
      have p3 := p2
      dsimp only [run] at p3
      rw [List.drop_eq_getElem_cons hlt] at p3
      unfold lcL at p3
      by_cases gd : k.gd A2
      · rw [if_pos gd] at p3
        cases z : gf k.ds[i] (wipeS env vs) A2 with
        | none => rw [z] at p3; exact p3.elim
        | some env3 =>
          rw [z] at p3
          have S3 := (((S.stp g1).stp g2).stp g3).wiped vs
          refine hg F3 m2 A2 (L2.wipe σ vs) H3 _ x k.ds[i] env3 R3 S3 rp z _ fun σ3 S4 l4 k4 => ?_
          refine ⟨wipe_same hj l4 k4, ?_⟩
          -- what a step keeps of the new list
          have keep : ∀ {F' m' A' H'}, Rl K ca F' m' A' H' → Stp F3 m2 H3 F' m' H' → H' Dl = some (.lst ws) ∧ Dl ∉ m' ∧ F' Dl = none := fun R' g' => by
            have h1 := g'.kp Dl _ e1 d2 (by intro _ z; cases z)
            refine ⟨h1, fun z => ?_, ?_⟩
            · rcases g'.gm Dl z with y | y
              · exact d2 y
              · exact y.no e1 trivial
            · rename_i F' m' A' H'
              cases w : F' Dl with
              | none => rfl
              | some v =>
                rcases g'.gn Dl (by rw [w]; simp) with y | y | ⟨xs, y⟩
                · exact absurd e3 y
                · exact (y.no e1 trivial).elim
                · have := R'.fh Dl _ y
                  rw [h1] at this; cases this
          refine ht F3 m2 A2 σ3 H3 env3 _ R3 S4 ?_
          cases y : ft env3 A2 with
          | stuck => simp only [y] at p3; exact p3.elim
          | exc C A4 => simp only [y] at p3; exact p3.elim
          | ok bb A4 =>
            intro v F4 m4 H4 R4 g4 ev
            cases (show v = bb from ev)
            cases bb with
            | false =>
              simp only [y] at p3
              obtain ⟨f1, f2, f3⟩ := keep R4 g4
              exact ⟨F4, m4, A4, acc, ws, R4, (g2.trans g3).trans g4, f1, f2, f3, rs3.mono g4.ff g4.mm, p3⟩
            | true =>
              simp only [y] at p3
              have p4 := p3
              refine ha F4 m4 A4 σ3 H4 env3 _ R4 (S4.stp g4) ?_
              cases y2 : a env3 A4 with
              | stuck => simp only [y2] at p4; exact p4.elim
              | exc C A5 => simp only [y2] at p4; exact p4.elim
              | ok dz A5 =>
                simp only [y2] at p4
                by_cases hl : acc.length < sizeLine
                · rw [if_pos hl] at p4
                  intro v F5 m5 H5 R5 g5 rv
                  obtain ⟨f1, f2, f3⟩ := keep R5 (g4.trans g5)
                  refine ⟨ws, f1, by rw [rs.length]; exact hl, ?_⟩
                  have rs5 := rs3.mono (g4.trans g5).ff (g4.trans g5).mm
                  -- the new list grows
                  have ne : ∀ a, a ∈ m5 → a ≠ Dl := fun a ha z => f2 (by rw [← z]; exact ha)
                  have R6 : Rl K ca F5 m5 A5 (upd H5 Dl (.lst (ws ++ [v]))) := ⟨R5.fh.right f3, R5.len, R5.nd, R5.fr, fun j o b h1 h2 => (R5.ob j o b h1 h2).mono (Ex.refl _) (Pre.refl _) fun w hw => by
                    rw [upd_ne (ne b (List.mem_of_getElem? h2))]; exact hw, tabs_upd R5.tb f1 trivial, R5.ft⟩
                  have nD0 : H1 Dl = none := hD
                  have gA : Stp F1 m1 H1 F5 m5 H5 := ((g2.trans g3).trans g4).trans g5
                  have gB : Stp F1 m1 H1 F5 m5 (upd H5 Dl (.lst (ws ++ [v]))) := ⟨gA.ff, gA.mm, fun b w h n nt => by
                      rw [upd_ne fun z => by rw [z, nD0] at h; cases h]; exact gA.kp b w h n nt, gA.gn, gA.gm, fun b h => by
                      by_cases w : b = Dl
                      · rw [w]; exact .none nD0
                      · exact gA.th b (h.back fun u hu => by rw [upd_ne w]; exact hu), fun b od w h => by
                      rw [upd_ne fun z => by rw [z, nD0] at h; cases h]; exact gA.fz b od w h⟩
                  refine ⟨F5, m5, A5, acc ++ [dz], ws ++ [v], R6, gB, upd_same, f2, f3, rs5.append (.cons rv .nil), p4⟩
                · rw [if_neg hl] at p4; exact p4.elim
      · rw [if_neg gd] at p3; exact p3.elim
    · rintro H' ⟨F', m', A', acc, ws, R', g', d1, d2, d3, rs, p'⟩
      dsimp only [run] at p'
      rw [List.drop_length] at p'
      unfold lcL at p'
      by_cases gd : k.gd A'
      · rw [if_pos gd] at p'
        have R2 := R'.take (o := .lst acc) d2 d3 ⟨ws, d1, rs.mono (Ex.refl _) ⟨_, rfl⟩⟩
        refine p' (.ref Dl) F' (m' ++ [Dl]) H' R2 ⟨g'.ff, g'.mm.trans ⟨_, rfl⟩, g'.kp, g'.gn, fun b h => ?_, g'.th, g'.fz⟩ (.ref (by rw [List.getElem?_append_right (by rw [R'.len]; exact Nat.le_refl _), R'.len]; simp))
        rcases List.mem_append.mp h with z | z
        · exact g'.gm b z
        · rw [List.mem_singleton] at z; rw [z]; exact .inr (.none hD)
      · rw [if_neg gd] at p'; exact p'.elim

/-! ### new instances -/
theorem make_sim {f : Fn} {vs : List V} {ds : List D} {Q : VK} {X : XK} {x dx : Addr} (R1 : Rl K ca F m A H) (rs : RepL K ca F m vs ds) (hx : H x = none) (hdx : H dx = none) (hne : dx ≠ x) (p : PoF K ca F m H Q X (make C f ds A)) :
    SpF K ca f (.ref x :: vs) (upd (upd H dx (.own x)) x (.ins (ca C) dx [])) (fun v H2 => v = .non ∧ Q (.ref x) H2) X := by
  obtain ⟨R2, g2⟩ := R1.newH (u := .own x) hdx
  have hx2 : (upd H dx (.own x)) x = none := by rw [upd_ne (Ne.symm hne)]; exact hx
  obtain ⟨R3, g3, r3⟩ := R2.alloc (u := .ins (ca C) dx []) (o := .obj C []) hx2 ⟨dx, [], upd_same, .nil⟩
  have g := g2.trans g3
  refine ⟨F, m ++ [x], A ++ [.obj C []], .ref A.length :: ds, R3, .cons r3 (rs.mono g.ff g.mm), ?_⟩
  unfold make at p
  cases q : f (.ref A.length :: ds) (A ++ [.obj C []]) with
  | stuck => rw [q] at p; exact p
  | exc Ce A2 => rw [q] at p; exact fun F' m' H' R' g' => p F' m' H' R' (g.trans g')
  | ok d A2 =>
    rw [q] at p
    intro v F' m' H' R' g' rv
    cases rv with
    | non => exact ⟨rfl, p (.ref x) F' m' H' R' (g.trans g') (r3.mono g'.ff g'.mm)⟩
    | _ => exact p.elim
theorem se_make {f : Fn} (hs : SimA K ca W ts as) : SimE K ca W (tMakeS (ca C) (SpF K ca f) (WE W) ts) (eMake C f as) := fun F m A σ H env Q R S p =>
  hs.bind R S p fun F1 m1 A1 H1 xs ds R1 g1 S1 rs p1 => fun x dx hx hdx hne => make_sim R1 rs hx hdx hne (pof_po p1)
theorem se_make0 {f : Fn} {X : XK} (hs : SimA K ca W ts as) : SimE K ca W (tMake (ca C) (SpF K ca f) [] X ts) (eMake0 C f as) := fun F m A σ H env Q R S p =>
  hs.bind R S p fun F1 m1 A1 H1 xs ds R1 g1 S1 rs p1 => fun x dx hx hdx hne => by
    rw [List.append_nil]
    exact make_sim R1 rs hx hdx hne (pof_noX p1)

/-! ### methods, by the classes at hand -/
theorem methX_sim {f : Fn} {mm : String} {mm' : Str} {Q : VK} {X : XK} (hf : mm' = fS mm) (R : Rl K ca F m A H) (S : Slt K ca F m σ env) (hs : SimA K ca W ts as) (rx : Rep K ca F m x dx) {fs : List (String × D)} (ho : objAt A dx = some (C, fs)) (hn : fs.lookup mm = none)
    {k : RE D → RE D} (hk : ∀ {F1 m1 H1 r}, Po K ca (Rep K ca) F1 m1 H1 W σ Q (k r) → PoF K ca F1 m1 H1 Q X r)
    (p : Po K ca (Rep K ca) F m H W σ Q ((as env A).bind fun ds A2 => k (f (dx :: ds) A2))) : ∃ a dxx kvs, x = .ref a ∧ H a = some (.ins (ca C) dxx kvs) ∧ kvs.lookup mm' = none ∧ ts σ H fun vs H2 => SpF K ca f (x :: vs) H2 Q X := by
  obtain ⟨i, a, dxx, kvs, e1, e2, h1, h2, h3, h4⟩ := obj_at R rx ho
  refine ⟨a, dxx, kvs, e2, h3, by rw [hf]; exact (fS_look (f := mm) h4).2 hn, ?_⟩
  exact hs.bind R S p fun F1 m1 A1 H1 xs ds R1 g1 S1 rs p1 => ⟨F1, m1, A1, dx :: ds, R1, .cons (rx.mono g1.ff g1.mm) rs, hk p1⟩
theorem methOf_one {mm : String} {C : String} {f f' : Fn} {A : Hs} {x : D} (q : methOf mm [(C, f)] A x = some f') : f' = f ∧ ∃ fs, objAt A x = some (C, fs) ∧ fs.lookup mm = none := by
  unfold methOf at q
  cases z : objAt A x with
  | none => rw [z] at q; cases q
  | some w =>
    obtain ⟨C', fs⟩ := w
    rw [z] at q
    simp only at q
    split at q
    · cases q
    · rename_i hn
      rw [List.lookup_cons] at q
      cases y : (C' == C) with
      | false => rw [y] at q; cases q
      | true =>
        rw [y] at q
        cases q
        have e := eq_of_beq y
        subst e
        exact ⟨rfl, fs, rfl, by cases w : fs.lookup mm with
          | none => rfl
          | some _ => rw [w] at hn; exact absurd rfl hn⟩
theorem meth_one {mm : String} {mm' : Str} {f : Fn} (hf : mm' = fS mm) (ho : SimE K ca W ta a) (hs : SimA K ca W ts as) : SimE K ca W (tMethX (ca C) mm' (SpF K ca f) (WE W) ta ts) (eMeth mm [(C, f)] a as) := fun F m A σ H env Q R S p =>
  ho.bind R S p fun F1 m1 A1 H1 x dx R1 g1 S1 rx p1 => by
    cases q : methOf mm [(C, f)] A1 dx with
    | none => simp only [q] at p1; exact p1.elim
    | some f' =>
      simp only [q] at p1
      obtain ⟨rfl, fs, z, hn⟩ := methOf_one q
      exact methX_sim (k := fun r => r) hf R1 S1 hs rx z hn pof_po p1
theorem meth0_one {mm : String} {mm' : Str} {f : Fn} {X : XK} (hf : mm' = fS mm) (ho : SimE K ca W ta a) (hs : SimA K ca W ts as) : SimE K ca W (tMeth (ca C) mm' (SpF K ca f) [] X ta ts) (eMeth0 mm [(C, f)] a as) := fun F m A σ H env Q R S p =>
  ho.bind R S p fun F1 m1 A1 H1 x dx R1 g1 S1 rx p1 => by
    cases q : methOf mm [(C, f)] A1 dx with
    | none => simp only [q] at p1; exact p1.elim
    | some f' =>
      simp only [q] at p1
      obtain ⟨rfl, fs, z, hn⟩ := methOf_one q
      obtain ⟨a', b', c', e, h1, h2, h3⟩ := methX_sim (X := X) (k := fun r => r.noX) hf R1 S1 hs rx z hn pof_noX p1
      refine ⟨a', b', c', e, h1, h2, ?_⟩
      simp only [List.append_nil]
      exact h3
end

/-! ### defs -/
section
variable {P : Program} {w : World} {K : PySem.W.Frag} {ca : CaT} {mg : Str → Option Value} {base : Heap} {x qn : Str} {st : Stmt} {fa : Addr} {fd : FuncData} {N ps : List Str} {k : Nat}
theorem spF_len {n mm : Nat} {b : S} {vs : List V} {H : Hp} {Q : VK} {E : XK} (h : SpF K ca (mkFn n mm b) vs H Q E) : vs.length = n := by
  obtain ⟨F, m, A, ds, R, rs, p⟩ := h
  rw [rs.length]
  unfold mkFn at p
  split at p
  · assumption
  · exact p.elim
theorem run_SpF {n : Nat} {b : S} {t : TS} {vs : List V} {H : Hp} {Q : VK} {E : XK} (h : SpF K ca (mkFn n N.length b) vs H Q E) (hb : SimS K ca (fun cls d _ H => E cls d H) t b) : t { nx := fun _ H' => Q .non H', rt := Q } (L2.start N vs) H := by
  have hl := spF_len h
  obtain ⟨F, m, A, ds, R, rs, p⟩ := h
  have hn : ds.length = n := by rw [← rs.length, hl]
  unfold mkFn at p
  rw [if_pos hn] at p
  have S : Slt K ca F m (L2.start N vs) (ds.map some ++ List.replicate (N.length - n) none) := by
    refine ⟨by unfold L2.start; simp [hl, hn], fun i d h => ?_⟩
    by_cases hi : i < ds.length
    · rw [List.getElem?_append_left (by simpa using hi), List.getElem?_map] at h
      cases z : ds[i]? with
      | none => rw [z] at h; cases h
      | some d' =>
        rw [z] at h; cases h
        obtain ⟨v, h1, h2⟩ := rs.get z
        refine ⟨v, ?_, h2⟩
        unfold L2.start
        have hv : i < vs.length := (List.getElem?_eq_some_iff.mp h1).1
        rw [List.getElem?_append_left (by simpa using hv), List.getElem?_map, h1]; rfl
    · rw [List.getElem?_append_right (by simpa using Nat.le_of_not_lt hi)] at h
      obtain ⟨h1, h2⟩ := List.getElem?_eq_some_iff.mp h
      rw [List.getElem_replicate] at h2
      cases h2
  refine hb F m A _ H _ _ R S ?_
  cases q : b (ds.map some ++ List.replicate (N.length - n) none) A with
  | nx e A' => rw [q] at p; exact fun F' m' σ' H' R' g' S' => p .non F' m' H' R' g' .non
  | rt d A' => rw [q] at p; exact p
  | exc C e A' => rw [q] at p; exact fun F' m' σ' H' R' g' S' => p F' m' H' R' g'
  | bk e A' => rw [q] at p; exact p.elim
  | ct e A' => rw [q] at p; exact p.elim
  | stuck => rw [q] at p; exact p.elim
/-- a def that may raise -/
theorem Fn.ofF {n : Nat} {b : S} (F : Fun K x qn st fa fd) (S : FnScope N ps (defScope st)) (hn : ps.length = n)
    (body : ∀ (cdv : Value) (A : Around) (outer : List PySem.Env) (s : Shared) (H : Hp) (E : XK), Room k (A.deeper (PyProof.Rows.envOfC qn (defScope st) s.heap.objs.size fa cdv)) →
      ∃ t, PSs (cxOf (L2.CX P w) P w K mg base N qn (defScope st) fa cdv A outer s H E) (defBody st) t ∧ SimS K ca (fun cls d _ H => E cls d H) t b) : FnOk P w K mg base (L2.CX P w) (k + 1) fa fd ps (SpF K ca (mkFn n N.length b)) :=
  F.okX S (fun vs H Q E h => by rw [hn]; exact spF_len h) fun cdv A outer s H vs Q E hr h => by
    obtain ⟨t, h1, h2⟩ := body cdv A outer s H E hr
    exact ⟨t, h1, run_SpF h h2⟩
/-- a def that lets nothing out -/
theorem Fn.ofF0 {n : Nat} {b : S} (F : Fun K x qn st fa fd) (S : FnScope N ps (defScope st)) (hn : ps.length = n)
    (body : ∀ (cdv : Value) (A : Around) (outer : List PySem.Env) (s : Shared) (H : Hp) (E : XK), Room k (A.deeper (PyProof.Rows.envOfC qn (defScope st) s.heap.objs.size fa cdv)) →
      ∃ t, PSs (cxOf CX0 P w K mg base N qn (defScope st) fa cdv A outer s H E).nox (defBody st) t ∧ SimS K ca (fun cls d _ H => E cls d H) t b) : FnOk P w K mg base CX0 (k + 1) fa fd ps (SpF K ca (mkFn n N.length b)) :=
  F.ok S (fun vs H Q E h => by rw [hn]; exact spF_len h) fun cdv A outer s H vs Q E hr h => by
    obtain ⟨t, h1, h2⟩ := body cdv A outer s H E hr
    exact ⟨t, h1, run_SpF h h2⟩
end
/-! ### methods by name -/
structure Mt (P : Program) (w : World) (K : PySem.W.Frag) (mg : Str → Option Value) (base : Heap) (k : Nat) (C : Addr) (mm : Str) (sp : Sp) : Prop where
  ex : ∃ (f : Addr) (fd : FuncData) (ps : List Str), Meth K C mm f ∧ FnOk P w K mg base (L2.CX P w) k f fd ps sp ∧ Binds K fd ps []
theorem Mt.of {P : Program} {w : World} {K : PySem.W.Frag} {mg : Str → Option Value} {base : Heap} {k : Nat} {C fa : Addr} {mm : Str} {fd : FuncData} {ps : List Str} {sp : Sp} (M : Meth K C mm fa) (h : FnOk P w K mg base (L2.CX P w) k fa fd ps sp) (b : Binds K fd ps []) : Mt P w K mg base k C mm sp := ⟨fa, fd, ps, M, h, b⟩
section
variable {X : Cx} {W : WX} {k j : Nat} {x mm : Str} {C : Addr} {sp : Sp} {p pos apos : Pos} {o e : Expr} {es : List Expr} {t : TA} {ta : TE}
theorem pe_mtX {pl : Sem Bool} (c : Mt X.prog X.w X.K X.mg X.base k C mm sp) (tk : Takes X W) (hr : Room j X.A) (hk : k ≤ j) (cl : Cls X.K C) (he : PE X o ta) (ha : PA X (e :: es) t)
    (hst : starEach (e :: es) X.env = (false, eval e X.env) :: starEach es X.env := by rfl) (hpl : (backTo pos (starEach es X.env)).any (·.1) = false := by rfl)
    (ht : eval (.Call (.Attribute o mm apos) (e :: es) [] pos) X.env = (do
      let ov ← eval o X.env
      standAt apos.atName
      let (f, first) ← holding [ov] (getMethod ov mm pl)
      callWith pos f first (backTo pos (starEach (e :: es) X.env)) (backToKw pos (keywordEach [] X.env))) := by rfl) :
    PE X (.Call (.Attribute o mm apos) (e :: es) [] pos) (tMethX C mm sp (WE W) ta t) := by
  obtain ⟨f, fd, ps, M, F, b⟩ := c.ex
  exact pe_methX he cl M F (hr.mono hk) b (fun σ => passAt tk σ) ha hst hpl ht
theorem pe_mtX0 {pl : Sem Bool} (c : Mt X.prog X.w X.K X.mg X.base k C mm sp) (tk : Takes X W) (hr : Room j X.A) (hk : k ≤ j) (cl : Cls X.K C) (he : PE X o ta)
    (ht : eval (.Call (.Attribute o mm apos) [] [] pos) X.env = (do
      let ov ← eval o X.env
      standAt apos.atName
      let (f, first) ← holding [ov] (getMethod ov mm pl)
      callWith pos f first (backTo pos (starEach [] X.env)) (backToKw pos (keywordEach [] X.env))) := by rfl) :
    PE X (.Call (.Attribute o mm apos) [] [] pos) (tMethX C mm sp (WE W) ta tNil) := by
  obtain ⟨f, fd, ps, M, F, b⟩ := c.ex
  exact pe_methX0 he cl M F (hr.mono hk) b (fun σ => passAt tk σ) ht
theorem pe_mtN {pl : Sem Bool} (c : Mt X.prog X.w X.K X.mg X.base k C mm sp) (hr : Room j X.A) (hk : k ≤ j) (cl : Cls X.K C) (he : PE X o ta) (ha : PA X (e :: es) t)
    (hst : starEach (e :: es) X.env = (false, eval e X.env) :: starEach es X.env := by rfl) (hpl : (backTo pos (starEach es X.env)).any (·.1) = false := by rfl)
    (ht : eval (.Call (.Attribute o mm apos) (e :: es) [] pos) X.env = (do
      let ov ← eval o X.env
      standAt apos.atName
      let (f, first) ← holding [ov] (getMethod ov mm pl)
      callWith pos f first (backTo pos (starEach (e :: es) X.env)) (backToKw pos (keywordEach [] X.env))) := by rfl) :
    PE X (.Call (.Attribute o mm apos) (e :: es) [] pos) (tMeth C mm sp [] E0 ta t) := by
  obtain ⟨f, fd, ps, M, F, b⟩ := c.ex
  exact pe_meth he cl M F (hr.mono hk) b .nil passL ha hst hpl ht
theorem pe_mtN0 {pl : Sem Bool} (c : Mt X.prog X.w X.K X.mg X.base k C mm sp) (hr : Room j X.A) (hk : k ≤ j) (cl : Cls X.K C) (he : PE X o ta)
    (ht : eval (.Call (.Attribute o mm apos) [] [] pos) X.env = (do
      let ov ← eval o X.env
      standAt apos.atName
      let (f, first) ← holding [ov] (getMethod ov mm pl)
      callWith pos f first (backTo pos (starEach [] X.env)) (backToKw pos (keywordEach [] X.env))) := by rfl) :
    PE X (.Call (.Attribute o mm apos) [] [] pos) (tMeth C mm sp [] E0 ta tNil) := by
  obtain ⟨f, fd, ps, M, F, b⟩ := c.ex
  exact pe_meth0 he cl M F (hr.mono hk) b .nil passL ht
open DL (Dx)
end
end SM

/-! ## == and in, of data of any texts -/
namespace L2
open PySem PySem.Spec PyProof.Rows
/-- two lists of different lengths -/
def UnL (H : Hp) (x y : V) : Prop := ∃ a b xs ys, x = .ref a ∧ y = .ref b ∧ H a = some (.lst xs) ∧ H b = some (.lst ys) ∧ xs.length ≠ ys.length
def rEqP (K : PySem.W.Frag) : R2 := fun x y H Q => (∃ d e, Dp K H x d ∧ Dp K H y e ∧ d.plain = true ∧ e.plain = true ∧ d.depth ≤ 60 ∧ Q (.bl (PyData.eqv d e)) H) ∨ (UnL H x y ∧ Q (.bl false) H)
def rNeP (K : PySem.W.Frag) : R2 := fun x y H Q => (∃ d e, Dp K H x d ∧ Dp K H y e ∧ d.plain = true ∧ e.plain = true ∧ d.depth ≤ 60 ∧ Q (.bl (!PyData.eqv d e)) H) ∨ (UnL H x y ∧ Q (.bl true) H)
theorem op_eqP {X : Cx} (hu : X.A.units + 64 < cLine) : OpR X (compareOp .Eq) (rEqP X.K) := by
  intro pins s σ H x y v u Q I rx ry h
  rcases h with ⟨d, e, hd, he, sd, se, dp, q⟩ | ⟨⟨a, b, xs, ys, rfl, rfl, ha, hb, hl⟩, q⟩
  · obtain ⟨as, r1⟩ := Dp.reads I d x v hd rx
    obtain ⟨bs, r2⟩ := Dp.reads I e y u he ry
    exact PySem.SeqAt.eq_plain r1 r2 sd se (by omega) ⟨.bl _, H, I, rfl, q⟩
  · cases (show v = Value.ref a from rx)
    cases (show u = Value.ref b from ry)
    obtain ⟨us, r1, p1, _⟩ := I.list (.inl (.inl ha))
    obtain ⟨ws, r2, p2, _⟩ := I.list (.inl (.inl hb))
    refine PySem.SeqAt.eq_list_lengthsAt p1.isList p2.isList ?_ (by omega) ⟨.bl _, H, I, rfl, q⟩
    rw [List.size_toArray, List.size_toArray, ← r1.length, ← r2.length]
    simpa using hl
theorem op_neP {X : Cx} (hu : X.A.units + 64 < cLine) : OpR X (compareOp .NotEq) (rNeP X.K) := by
  intro pins s σ H x y v u Q I rx ry h
  rcases h with ⟨d, e, hd, he, sd, se, dp, q⟩ | ⟨⟨a, b, xs, ys, rfl, rfl, ha, hb, hl⟩, q⟩
  · obtain ⟨as, r1⟩ := Dp.reads I d x v hd rx
    obtain ⟨bs, r2⟩ := Dp.reads I e y u he ry
    exact PySem.SeqAt.ne_plain r1 r2 sd se (by omega) ⟨.bl _, H, I, rfl, q⟩
  · cases (show v = Value.ref a from rx)
    cases (show u = Value.ref b from ry)
    obtain ⟨us, r1, p1, _⟩ := I.list (.inl (.inl ha))
    obtain ⟨ws, r2, p2, _⟩ := I.list (.inl (.inl hb))
    refine PySem.SeqAt.RcNeAt.lists_lengths p1.isList p2.isList ?_ (by omega) X.prog X.w _ _ ⟨.bl _, H, I, rfl, q⟩
    rw [List.size_toArray, List.size_toArray, ← r1.length, ← r2.length]
    simpa using hl
end L2
namespace SM
open PySem L2
open DL (Ex ExK rAddU rSubU rMulA rDivU rModU rPowU rShlU rShrU rAndU rOrU rXorU rLtU rLeU rGtU rGeU rIsU rNotU)

/-! ### data read as Python's -/
def allSome {α : Type} : List (Option α) → Option (List α)
  | [] => some []
  | some a :: r => (allSome r).map (a :: ·)
  | none :: _ => none
def pyA (A : Hs) : Nat → D → Option PyData
  | _, .non => some .none
  | _, .bl b => some (.bool b)
  | _, .int i => some (.int i)
  | _, .str x => some (.str x)
  | n + 1, .tup l => (allSome (l.map (pyA A n))).map .tuple
  | n + 1, .wt l => (allSome (l.map (pyA A n))).map .tuple
  | n + 1, .scr l => (allSome (l.map (pyA A n))).map .list
  | n + 1, .ref i => match A[i]? with
    | some (.lst l) => (allSome (l.map (pyA A n))).map .list
    | _ => none
  | _, _ => none

/-- two lists of different lengths -/
def unL (A : Hs) (x y : D) : Option Bool := match x, y with
  | .ref i, .ref j => match A[i]?, A[j]? with
    | some (.lst l), some (.lst k) => if l.length = k.length then none else some false
    | _, _ => none
  | _, _ => none
def eqA (A : Hs) (x y : D) : Option Bool := match pyA A 40 x, pyA A 40 y with
  | some p, some q => some (PyData.eqv p q)
  | _, _ => unL A x y
def oB (f : Hs → D → D → Option Bool) (x y : D) (A : Hs) : RE D := match f A x y with
  | some b => .ok (.bl b) A
  | none => .stuck
def oEq : D → D → Hs → RE D := oB eqA
def oNe : D → D → Hs → RE D := oB fun A x y => (eqA A x y).map (!·)
section
variable {K : PySem.W.Frag} {ca : CaT} {F F1 F2 H H1 H2 : Hp} {m m1 m2 : List Addr} {A A1 A2 : Hs} {σ : L2.St} {env : Sl} {W : WX} {Q : VK}
theorem dp_all {n : Nat} (R : Rl K ca F m A H) (ih : ∀ {v : V} {d : D} {p : PyData}, Rep K ca F m v d → pyA A n d = some p → Dp K H v p ∧ p.plain = true ∧ p.depth ≤ n) :
    ∀ {vs : List V} {l : List D} {ps : List PyData}, RepL K ca F m vs l → allSome (l.map (pyA A n)) = some ps → DpAll K H vs ps ∧ PyData.plainAll ps = true ∧ PyData.depthAll ps ≤ n
  | _, _, _, .nil, h => by cases h; exact ⟨.nil, rfl, Nat.zero_le _⟩
  | _, _, _, .cons (d := d) (ds := ds) r rs, h => by
    rw [List.map_cons] at h
    cases q : pyA A n d with
    | none => rw [q] at h; cases h
    | some p =>
      rw [q] at h
      unfold allSome at h
      cases q2 : allSome (ds.map (pyA A n)) with
      | none => rw [q2] at h; cases h
      | some ps =>
        rw [q2] at h
        cases h
        obtain ⟨h1, h2, h3⟩ := ih r q
        obtain ⟨g1, g2, g3⟩ := dp_all R ih rs q2
        exact ⟨.cons h1 g1, by unfold PyData.plainAll; rw [h2, g2]; rfl, by unfold PyData.depthAll; omega⟩
theorem dp_of (R : Rl K ca F m A H) : ∀ {n : Nat} {v : V} {d : D} {p : PyData}, Rep K ca F m v d → pyA A n d = some p → Dp K H v p ∧ p.plain = true ∧ p.depth ≤ n := by
  intro n
  induction n with
  | zero =>
    intro v d p r h
    cases r <;> simp [pyA] at h <;> subst h <;> exact ⟨by constructor, rfl, Nat.zero_le _⟩
  | succ n ih =>
    intro v d p r h
    cases r with
    | non => simp [pyA] at h; subst h; exact ⟨.non, rfl, Nat.zero_le _⟩
    | bl b => simp [pyA] at h; subst h; exact ⟨.bl b, rfl, Nat.zero_le _⟩
    | int i => simp [pyA] at h; subst h; exact ⟨.int i, rfl, Nat.zero_le _⟩
    | str x => simp [pyA] at h; subst h; exact ⟨.str x, rfl, Nat.zero_le _⟩
    | ty n => simp [pyA] at h
    | nm x => simp [pyA] at h
    | exc h' => simp [pyA] at h
    | tup s rs =>
      unfold pyA at h
      cases q : allSome (List.map (pyA A n) _) with
      | none => rw [q] at h; cases h
      | some ps =>
        rw [q] at h; cases h
        obtain ⟨h1, h2, h3⟩ := dp_all R ih rs q
        exact ⟨.tup (.inl (.inl (R.fh _ _ s))) h1, h2, by unfold PyData.depth; omega⟩
    | wt s rs =>
      unfold pyA at h
      cases q : allSome (List.map (pyA A n) _) with
      | none => rw [q] at h; cases h
      | some ps =>
        rw [q] at h; cases h
        obtain ⟨h1, h2, h3⟩ := dp_all R ih rs q
        exact ⟨.tup (R.fh.t s) h1, h2, by unfold PyData.depth; omega⟩
    | scr s rs =>
      unfold pyA at h
      cases q : allSome (List.map (pyA A n) _) with
      | none => rw [q] at h; cases h
      | some ps =>
        rw [q] at h; cases h
        obtain ⟨h1, h2, h3⟩ := dp_all R ih rs q
        exact ⟨.lst (R.fh.l s) h1, h2, by unfold PyData.depth; omega⟩
    | ref hm =>
      rename_i a i
      unfold pyA at h
      cases q0 : A[i]? with
      | none => simp [q0] at h
      | some o =>
        cases o with
        | lst l =>
          simp only [q0] at h
          obtain ⟨a', e, ha, vs, h1, h2⟩ := R.at (v := .ref a) q0 (.ref hm)
          cases e
          cases q : allSome (List.map (pyA A n) l) with
          | none => rw [q] at h; cases h
          | some ps =>
            rw [q] at h; cases h
            obtain ⟨h3, h4, h5⟩ := dp_all R ih h2 q
            exact ⟨.lst (.inl (.inl h1)) h3, h4, by unfold PyData.depth; omega⟩
        | dic _ _ _ => simp [q0] at h
        | obj _ _ => simp [q0] at h
theorem po_ok {α β : Type} {Rr : Hp → List Addr → β → α → Prop} {Q : β → Hp → Prop} {v : β} {d : α} (R : Rl K ca F m A H) (r : Rr F m v d) (p : Po K ca Rr F m H W σ Q (.ok d A)) : Q v H := p v F m H R Stp.refl r
theorem unL_of {x y : V} {dx dy : D} {b : Bool} (R : Rl K ca F m A H) (rx : Rep K ca F m x dx) (ry : Rep K ca F m y dy) (h : unL A dx dy = some b) : b = false ∧ UnL H x y := by
  unfold unL at h
  split at h
  · rename_i i j
    cases q1 : A[i]? with
    | none => simp [q1] at h
    | some o1 =>
      cases o1 with
      | lst l =>
        cases q2 : A[j]? with
        | none => simp [q1, q2] at h
        | some o2 =>
          cases o2 with
          | lst k =>
            simp only [q1, q2] at h
            split at h
            · cases h
            · rename_i hn
              obtain ⟨a, e, _, vs, h1, h2⟩ := R.at q1 rx
              obtain ⟨a', e', _, vs', h1', h2'⟩ := R.at q2 ry
              refine ⟨(Option.some.inj h).symm, a, a', vs, vs', e, e', h1, h1', ?_⟩
              rw [h2.length, h2'.length]
              exact hn
          | dic _ _ _ => simp [q1, q2] at h
          | obj _ _ => simp [q1, q2] at h
      | dic _ _ _ => simp [q1] at h
      | obj _ _ => simp [q1] at h
  · cases h
theorem os_eq : OpS K ca (rEqP K) oEq := fun F m A H x y dx dy W σ Q R rx ry p => by
  unfold oEq oB at p
  cases q : eqA A dx dy with
  | none => rw [q] at p; exact p.elim
  | some b =>
    rw [q] at p
    unfold eqA at q
    split at q
    · rename_i p1 p2 q1 q2
      obtain ⟨a1, a2, a3⟩ := dp_of R rx q1
      obtain ⟨b1, b2, b3⟩ := dp_of R ry q2
      cases q
      exact .inl ⟨p1, p2, a1, b1, a2, b2, by omega, po_ok R (.bl _) p⟩
    · obtain ⟨rfl, u⟩ := unL_of R rx ry q
      exact .inr ⟨u, po_ok R (.bl _) p⟩
theorem os_ne : OpS K ca (rNeP K) oNe := fun F m A H x y dx dy W σ Q R rx ry p => by
  unfold oNe oB at p
  cases q : eqA A dx dy with
  | none => simp only [q, Option.map] at p; exact p.elim
  | some b =>
    simp only [q, Option.map] at p
    unfold eqA at q
    split at q
    · rename_i p1 p2 q1 q2
      obtain ⟨a1, a2, a3⟩ := dp_of R rx q1
      obtain ⟨b1, b2, b3⟩ := dp_of R ry q2
      cases q
      exact .inl ⟨p1, p2, a1, b1, a2, b2, by omega, po_ok R (.bl _) p⟩
    · obtain ⟨rfl, u⟩ := unL_of R rx ry q
      exact .inr ⟨u, po_ok R (.bl _) p⟩

/-! ### operators on ints -/
def oII (f : Int → Int → Option D) (x y : D) (A : Hs) : RE D := match x, y with
  | .int i, .int j => match f i j with
    | some d => .ok d A
    | none => .stuck
  | _, _ => .stuck
theorem os_ii {r : R2} {f : Int → Int → Option D} (h : ∀ i j d, f i j = some d → ∃ z, (∀ F m, Rep K ca F m z d) ∧ ∀ H Q, Q z H → r (.int i) (.int j) H Q) : OpS K ca r (oII f) := fun F m A H x y dx dy W σ Q R rx ry p => by
  cases rx with
  | int i =>
    cases ry with
    | int j =>
      unfold oII at p
      simp only at p
      cases q : f i j with
      | none => rw [q] at p; exact p.elim
      | some d =>
        rw [q] at p
        obtain ⟨z, hz, k⟩ := h i j d q
        exact k H Q (po_ok R (hz F m) p)
    | _ => exact p.elim
  | _ => exact p.elim
def oSub := oII fun i j => some (.int (i - j))
def oDiv := oII fun i j => if 0 < j ∧ j.natAbs.log2 < 9000 then some (.int (i / j)) else none
def oMod := oII fun i j => if 0 < j then some (.int (i % j)) else none
open Classical in
noncomputable def oPow := oII fun i j => if CPow i j then some (.int (i ^ j.toNat)) else none
def oLt := oII fun i j => some (.bl (decide (i < j)))
def oLe := oII fun i j => some (.bl (decide (i ≤ j)))
def oGt := oII fun i j => some (.bl (decide (j < i)))
def oGe := oII fun i j => some (.bl (decide (j ≤ i)))
theorem os_sub : OpS K ca rSubU oSub := os_ii fun i j d h => by cases h; exact ⟨_, fun _ _ => .int _, fun H Q q => ⟨i, j, rfl, rfl, q⟩⟩
theorem os_div : OpS K ca rDivU oDiv := os_ii fun i j d h => by
  split at h
  · rename_i z; cases h; exact ⟨_, fun _ _ => .int _, fun H Q q => ⟨i, j, rfl, rfl, z, q⟩⟩
  · cases h
theorem os_mod : OpS K ca rModU oMod := os_ii fun i j d h => by
  split at h
  · rename_i z; cases h; exact ⟨_, fun _ _ => .int _, fun H Q q => ⟨i, j, rfl, rfl, z, q⟩⟩
  · cases h
theorem os_pow : OpS K ca rPowU oPow := os_ii fun i j d h => by
  split at h
  · rename_i z; cases h; exact ⟨_, fun _ _ => .int _, fun H Q q => ⟨i, j, rfl, rfl, z, q⟩⟩
  · cases h
theorem os_lt : OpS K ca rLtU oLt := os_ii fun i j d h => by cases h; exact ⟨_, fun _ _ => .bl _, fun H Q q => ⟨i, j, rfl, rfl, q⟩⟩
theorem os_le : OpS K ca rLeU oLe := os_ii fun i j d h => by cases h; exact ⟨_, fun _ _ => .bl _, fun H Q q => ⟨i, j, rfl, rfl, q⟩⟩
theorem os_gt : OpS K ca rGtU oGt := os_ii fun i j d h => by cases h; exact ⟨_, fun _ _ => .bl _, fun H Q q => ⟨i, j, rfl, rfl, q⟩⟩
theorem os_ge : OpS K ca rGeU oGe := os_ii fun i j d h => by cases h; exact ⟨_, fun _ _ => .bl _, fun H Q q => ⟨i, j, rfl, rfl, q⟩⟩
def oNeg (x : D) (A : Hs) : RE D := match x with
  | .int i => .ok (.int (-i)) A
  | _ => .stuck
theorem us_neg : UnS K ca (rU fun i => .int (-i)) oNeg := fun F m A H x dx W σ Q R rx p => by
  cases rx with
  | int i => exact ⟨i, rfl, po_ok R (.int _) p⟩
  | _ => exact p.elim
/-- a list that may be read -/
def seqL (A : Hs) : D → Option (List D)
  | .ref i => match A[i]? with
    | some (.lst l) => some l
    | _ => none
  | .scr l => some l
  | _ => none
def seqT : D → Option (List D)
  | .tup l => some l
  | .wt l => some l
  | _ => none
theorem seqL_at {x : V} {d : D} {l : List D} (R : Rl K ca F m A H) (r : Rep K ca F m x d) (h : seqL A d = some l) : ∃ a vs, x = .ref a ∧ SqL K H a vs ∧ RepL K ca F m vs l := by
  cases r with
  | ref hm =>
    rename_i a i
    unfold seqL at h
    simp only at h
    cases q : A[i]? with
    | none => simp [q] at h
    | some o =>
      cases o with
      | lst l' =>
        simp [q] at h; subst h
        obtain ⟨a', e, ha, vs, h1, h2⟩ := R.at (v := .ref a) q (.ref hm)
        cases e
        exact ⟨a, vs, rfl, .inl (.inl h1), h2⟩
      | dic _ _ _ => simp [q] at h
      | obj _ _ => simp [q] at h
  | scr s rs => cases h; exact ⟨_, _, rfl, R.fh.l s, rs⟩
  | _ => cases h
theorem seqT_at {x : V} {d : D} {l : List D} (R : Rl K ca F m A H) (r : Rep K ca F m x d) (h : seqT d = some l) : ∃ a vs, x = .ref a ∧ SqT K H a vs ∧ RepL K ca F m vs l := by
  cases r with
  | tup s rs => cases h; exact ⟨_, _, rfl, .inl (.inl (R.fh _ _ s)), rs⟩
  | wt s rs => cases h; exact ⟨_, _, rfl, R.fh.t s, rs⟩
  | _ => cases h
/-- a list of the plain heap -/
theorem lst_at {x : V} {i : Nat} {l : List D} (R : Rl K ca F m A H) (r : Rep K ca F m x (.ref i)) (h : A[i]? = some (.lst l)) : ∃ a vs, x = .ref a ∧ m[i]? = some a ∧ H a = some (.lst vs) ∧ RepL K ca F m vs l := by
  obtain ⟨a, e, ha, vs, h1, h2⟩ := R.at h r
  exact ⟨a, vs, e, ha, h1, h2⟩
theorem lst_put {i : Nat} {l' : List D} {vs' : List V} (R : Rl K ca F m A H) {a : Addr} {vs : List V} (ha : m[i]? = some a) (h1 : H a = some (.lst vs)) (r : RepL K ca F m vs' l') :
    Rl K ca F m (A.set i (.lst l')) (upd H a (.lst vs')) ∧ Stp F m H F m (upd H a (.lst vs')) :=
  R.put (o' := .lst l') ha (fun od w z => by rw [h1] at z; cases z) ⟨vs', upd_same, r⟩

/-! ### + -/
def oAdd (x y : D) (A : Hs) : RE D := match x, y with
  | .int i, .int j => .ok (.int (i + j)) A
  | .str a, .str b => if a.length + b.length ≤ sizeLine then .ok (.str (a ++ b)) A else .stuck
  | .tup l, .tup k => if l.length + k.length ≤ sizeLine then .ok (.tup (l ++ k)) A else .stuck
  | .wt l, .tup k => if l ≠ [] ∧ l.length + k.length ≤ sizeLine then .ok (if k.isEmpty then .wt l else .tup (l ++ k)) A else .stuck
  | .tup l, .wt k => if k ≠ [] ∧ l.length + k.length ≤ sizeLine then .ok (if l.isEmpty then .wt k else .tup (l ++ k)) A else .stuck
  | .ref i, .ref j => match A[i]?, A[j]? with
    | some (.lst l), some (.lst k) => if l.length + k.length ≤ sizeLine then alloc A (.lst (l ++ k)) else .stuck
    | _, _ => .stuck
  | _, _ => .stuck
theorem os_add : OpS K ca (rAddU K) oAdd := fun F m A H x y dx dy W σ Q R rx ry p => by
  cases rx with
  | int i =>
    cases ry with
    | int j => exact .inl ⟨i, j, rfl, rfl, po_ok R (.int _) p⟩
    | _ => exact p.elim
  | str a =>
    cases ry with
    | str b =>
      unfold oAdd at p
      simp only at p
      split at p
      · rename_i hl; exact .inr (.inl ⟨a, b, rfl, rfl, hl, po_ok R (.str _) p⟩)
      · exact p.elim
    | _ => exact p.elim
  | tup s rs =>
    cases ry with
    | tup s' rs' =>
      rename_i a vs l b ws k
      unfold oAdd at p
      simp only at p
      split at p
      · rename_i hl
        refine .inr (.inr (.inl ⟨a, b, vs, ws, rfl, rfl, .inl (.inl (R.fh _ _ s)), .inl (.inl (R.fh _ _ s')), by rw [rs.length, rs'.length]; exact hl, fun e => ?_, fun _ e => ?_, fun _ _ q hq => ?_⟩))
        · subst e; cases rs; exact po_ok R (.tup s' rs') p
        · subst e; cases rs'; rw [List.append_nil] at p; exact po_ok R (.tup s rs) p
        · obtain ⟨R2, g2⟩ := R.new (u := .tup (vs ++ ws)) hq
          exact p _ _ _ _ R2 g2 (.tup upd_same ((rs.append rs').mono g2.ff g2.mm))
      · exact p.elim
    | wt s' rs' =>
      rename_i a vs l b ws k
      unfold oAdd at p
      simp only at p
      split at p
      · rename_i hl
        refine .inr (.inr (.inl ⟨a, b, vs, ws, rfl, rfl, .inl (.inl (R.fh _ _ s)), R.fh.t s', by rw [rs.length, rs'.length]; exact hl.2, fun e => ?_, fun _ e => ?_, fun n1 _ q hq => ?_⟩))
        · subst e; cases rs; exact po_ok R (.wt s' rs') p
        · subst e; cases rs'; exact absurd rfl hl.1
        · obtain ⟨R2, g2⟩ := R.new (u := .tup (vs ++ ws)) hq
          have : l.isEmpty = false := by
            cases rs with
            | nil => exact absurd rfl n1
            | cons _ _ => rfl
          rw [this] at p
          exact p _ _ _ _ R2 g2 (.tup upd_same ((rs.append rs').mono g2.ff g2.mm))
      · exact p.elim
    | _ => exact p.elim
  | wt s rs =>
    cases ry with
    | tup s' rs' =>
      rename_i a vs l b ws k
      unfold oAdd at p
      simp only at p
      split at p
      · rename_i hl
        refine .inr (.inr (.inl ⟨a, b, vs, ws, rfl, rfl, R.fh.t s, .inl (.inl (R.fh _ _ s')), by rw [rs.length, rs'.length]; exact hl.2, fun e => ?_, fun _ e => ?_, fun _ n2 q hq => ?_⟩))
        · subst e; cases rs; exact absurd rfl hl.1
        · subst e; cases rs'; exact po_ok R (.wt s rs) p
        · obtain ⟨R2, g2⟩ := R.new (u := .tup (vs ++ ws)) hq
          have : k.isEmpty = false := by
            cases rs' with
            | nil => exact absurd rfl n2
            | cons _ _ => rfl
          rw [this] at p
          exact p _ _ _ _ R2 g2 (.tup upd_same ((rs.append rs').mono g2.ff g2.mm))
      · exact p.elim
    | _ => exact p.elim
  | ref hm =>
    cases ry with
    | ref hm' =>
      rename_i a i b j
      unfold oAdd at p
      simp only at p
      split at p
      · rename_i l k q1 q2
        split at p
        · rename_i hl
          obtain ⟨a', vs, e1, h1, h2, h3⟩ := lst_at R (.ref hm) q1
          obtain ⟨b', ws, e2, h4, h5, h6⟩ := lst_at R (.ref hm') q2
          refine .inr (.inr (.inr ⟨a', b', vs, ws, e1, e2, h2, h5, by rw [h3.length, h6.length]; exact hl, fun q hq => ?_⟩))
          exact po_alloc (o := .lst (l ++ k)) R hq ⟨_, upd_same, (h3.append h6).mono (Ex.refl _) ⟨_, rfl⟩⟩ p
        · exact p.elim
      · exact p.elim
    | _ => exact p.elim
  | _ => exact p.elim
/-! ### * -/
open Classical in
noncomputable def oMul (x y : D) (A : Hs) : RE D := match x, y with
  | .int i, .int j => if CMul i j ∨ CMulX i j then .ok (.int (i * j)) A else .stuck
  | .tup l, .int j => if l.length ≤ 1000 ∧ -1000 ≤ j ∧ j ≤ 4000 then .ok (.tup (List.replicate j.toNat l).flatten) A else .stuck
  | .ref i, .int j => match A[i]? with
    | some (.lst l) => if -(2 ^ 63) ≤ j ∧ j < 2 ^ 63 ∧ l.length * j.toNat ≤ sizeLine then alloc A (.lst (List.replicate j.toNat l).flatten) else .stuck
    | _ => .stuck
  | _, _ => .stuck
theorem os_mul : OpS K ca (rMulA K) oMul := fun F m A H x y dx dy W σ Q R rx ry p => by
  cases ry with
  | int j =>
    cases rx with
    | int i =>
      unfold oMul at p
      simp only at p
      split at p
      · rename_i hc
        refine .inl ?_
        rcases hc with hc | hc
        · exact .inl ⟨i, j, rfl, rfl, hc, po_ok R (.int _) p⟩
        · exact .inr (.inl ⟨i, j, rfl, rfl, hc, po_ok R (.int _) p⟩)
      · exact p.elim
    | tup s rs =>
      rename_i a vs l
      unfold oMul at p
      simp only at p
      split at p
      · rename_i hc
        have lv := rs.length
        refine .inr ⟨a, j, vs, rfl, rfl, .inl (.inl (R.fh _ _ s)), hc.2.2, hc.2.1, by omega, fun e => ?_, fun e => ?_, fun n1 n2 q hq => ?_⟩
        · subst e; cases rs
          have : (List.replicate j.toNat ([] : List D)).flatten = [] := by simp
          rw [this] at p
          exact po_ok R (.tup s .nil) p
        · subst e
          have : (List.replicate (1 : Int).toNat l).flatten = l := by simp
          rw [this] at p
          exact po_ok R (.tup s rs) p
        · obtain ⟨R2, g2⟩ := R.new (u := .tup (List.replicate j.toNat vs).flatten) hq
          exact p _ _ _ _ R2 g2 (.tup upd_same ((rs.flatRep _).mono g2.ff g2.mm))
      · exact p.elim
    | ref hm =>
      rename_i a i
      unfold oMul at p
      simp only at p
      split at p
      · rename_i l q1
        split at p
        · rename_i hc
          obtain ⟨a', vs, e1, h1, h2, h3⟩ := lst_at R (.ref hm) q1
          refine .inl (.inr (.inr ⟨a', j, vs, e1, rfl, h2, hc.1, hc.2.1, by rw [h3.length]; exact hc.2.2, fun q hq => ?_⟩))
          exact po_alloc (o := .lst (List.replicate j.toNat l).flatten) R hq ⟨_, upd_same, (h3.flatRep _).mono (Ex.refl _) ⟨_, rfl⟩⟩ p
        · exact p.elim
      · exact p.elim
    | _ => exact p.elim
  | _ => cases rx <;> exact p.elim
/-! ### is -/
def isNon : D → Bool
  | .non => true
  | _ => false
theorem rep_non {v : V} {d : D} (h : Rep K ca F m v d) : decide (v = V.non) = isNon d := by
  cases h <;> first | rfl | simp [isNon]
def oIs (x y : D) (A : Hs) : RE D := match y with
  | .non => .ok (.bl (isNon x)) A
  | .bl c => match x with
    | .bl b => .ok (.bl (decide (b = c))) A
    | _ => .stuck
  | _ => .stuck
def oIsNot (x y : D) (A : Hs) : RE D := match y with
  | .non => .ok (.bl (!isNon x)) A
  | .bl c => match x with
    | .bl b => .ok (.bl (!decide (b = c))) A
    | _ => .stuck
  | _ => .stuck
theorem os_is : OpS K ca rIsU oIs := fun F m A H x y dx dy W σ Q R rx ry p => by
  cases ry with
  | non => refine .inl ⟨rfl, ?_⟩; rw [rep_non rx]; exact po_ok R (.bl _) p
  | bl c =>
    cases rx with
    | bl b => exact .inr ⟨b, c, rfl, rfl, po_ok R (.bl _) p⟩
    | _ => exact p.elim
  | _ => exact p.elim
theorem os_isnot : OpS K ca rNotU oIsNot := fun F m A H x y dx dy W σ Q R rx ry p => by
  cases ry with
  | non => refine .inl ⟨rfl, ?_⟩; rw [rep_non rx]; exact po_ok R (.bl _) p
  | bl c =>
    cases rx with
    | bl b => exact .inr ⟨b, c, rfl, rfl, po_ok R (.bl _) p⟩
    | _ => exact p.elim
  | _ => exact p.elim
/-! ### subscripts -/
def oIx (x y : D) (A : Hs) : RE D := match y with
  | .int i => match seqL A x with
    | some l => match atI l i with
      | some d => .ok d A
      | none => .stuck
    | none => match seqT x with
      | some l => match atI l i with
        | some d => .ok d A
        | none => .stuck
      | none => match x with
        | .str z => if z.length ≤ sizeLine then match atI z.cps.toList i with
            | some c => .ok (.str ⟨#[c]⟩) A
            | none => .stuck
          else .stuck
        | _ => .stuck
  | _ => .stuck
theorem atI_rep {vs : List V} {l : List D} {i : Int} {d : D} (p : RepL K ca F m vs l) (h : atI l i = some d) : ∃ v, atI vs i = some v ∧ Rep K ca F m v d := by
  unfold atI at h ⊢
  obtain ⟨n, e, g⟩ := Option.bind_eq_some_iff.mp h
  obtain ⟨z, z1, z2⟩ := p.get g
  exact ⟨z, by rw [p.length, e]; exact z1, z2⟩
theorem os_ix : OpS K ca (rIx K) oIx := fun F m A H x y dx dy W σ Q R rx ry p => by
  cases ry with
  | int i =>
    unfold oIx at p
    simp only at p
    split at p
    · rename_i l hl
      split at p
      · rename_i d hd
        obtain ⟨a, vs, e, h1, h2⟩ := seqL_at R rx hl
        obtain ⟨v, h3, h4⟩ := atI_rep h2 hd
        exact .inl ⟨a, vs, i, v, e, rfl, h1, h3, po_ok R h4 p⟩
      · exact p.elim
    · split at p
      · rename_i l hl
        split at p
        · rename_i d hd
          obtain ⟨a, vs, e, h1, h2⟩ := seqT_at R rx hl
          obtain ⟨v, h3, h4⟩ := atI_rep h2 hd
          exact .inr (.inl ⟨a, vs, i, v, e, rfl, h1, h3, po_ok R h4 p⟩)
        · exact p.elim
      · cases rx with
        | str z =>
          simp only at p
          split at p
          · rename_i hz
            split at p
            · rename_i c hc
              exact .inr (.inr ⟨z, i, c, rfl, rfl, hz, hc, po_ok R (.str _) p⟩)
            · exact p.elim
          · exact p.elim
        | _ => exact p.elim
  | _ => exact p.elim
def cutD {α : Type} (xs : List α) (lo hi : Option Int) : List α := (xs.drop (HT.sIx xs.length 0 lo)).take (HT.sIx xs.length xs.length hi - HT.sIx xs.length 0 lo)
theorem cut_rep {vs : List V} {l : List D} {lo hi : Option Int} (h : RepL K ca F m vs l) : RepL K ca F m (cutV vs lo hi) (cutD l lo hi) := by
  unfold cutV cutD
  rw [h.length]
  exact (h.drop _).take _
def oSl (x : D) (lo hi : Option Int) (A : Hs) : RE D := match seqL A x with
  | some l => alloc A (.lst (cutD l lo hi))
  | none => match x with
    | .tup l => .ok (.tup (cutD l lo hi)) A
    | .str z => if z.length ≤ sizeLine then .ok (.str (cutS z lo hi)) A else .stuck
    | _ => .stuck
theorem sls_all : SlS K ca (DL.rSlU K) oSl := fun F m A H x dx lo hi W σ Q R rx p => by
  unfold oSl at p
  split at p
  · rename_i l hl
    obtain ⟨a, vs, e, h1, h2⟩ := seqL_at R rx hl
    exact .inl ⟨a, vs, e, h1, fun q hq => po_alloc (o := .lst (cutD l lo hi)) R hq ⟨_, upd_same, (cut_rep h2).mono (Ex.refl _) ⟨_, rfl⟩⟩ p⟩
  · cases rx with
    | @tup a vs l s rs =>
      refine .inr (.inl ⟨a, vs, rfl, .inl (.inl (R.fh _ _ s)), fun hw => ?_, fun _ q hq => ?_⟩)
      · have e : cutD l lo hi = l := by
          unfold cutD
          rw [← rs.length, hw.1, hw.2]
          simp [rs.length]
        simp only [e] at p
        exact po_ok R (.tup s rs) p
      · obtain ⟨R2, g2⟩ := R.new (u := .tup (cutV vs lo hi)) hq
        exact p _ _ _ _ R2 g2 (.tup upd_same ((cut_rep rs).mono g2.ff g2.mm))
    | str z =>
      simp only at p
      split at p
      · rename_i hz; exact .inr (.inr ⟨z, rfl, hz, po_ok R (.str _) p⟩)
      · exact p.elim
    | _ => exact p.elim
def oRev (x : D) (A : Hs) : RE D := match seqL A x with
  | some l => alloc A (.lst l.reverse)
  | none => .stuck
/-! ### which of two readings -/
theorem Sim.pick {α β : Type} {Rr : Hp → List Addr → β → α → Prop} {t u : L2.St → Hp → (β → Hp → Prop) → Prop} {f g h : Sl → Hs → RE α} (h1 : Sim K ca Rr W t g) (h2 : Sim K ca Rr W u h) (k : ∀ env A, f env A = g env A ∨ f env A = h env A) : Sim K ca Rr W (fun σ H Q => t σ H Q ∨ u σ H Q) f := fun F m A σ H env Q R S p => by
  rcases k env A with q | q
  · rw [q] at p; exact .inl (h1 F m A σ H env Q R S p)
  · rw [q] at p; exact .inr (h2 F m A σ H env Q R S p)
end
end SM

namespace L2
open PySem PySem.Spec PyProof.Rows
/-- x in a list or tuple of data -/
def rInP (K : PySem.W.Frag) (neg : Bool) : R2 := fun x y H Q => ∃ d ds, Dp K H x d ∧ (Dp K H y (.list ds) ∨ Dp K H y (.tuple ds)) ∧ d.plain = true ∧ PyData.plainAll ds = true ∧ d.depth ≤ 60 ∧ Q (.bl (if neg then !(ds.any fun z => PyData.eqv z d) else ds.any fun z => PyData.eqv z d)) H
theorem op_notInP {X : Cx} {K : PySem.W.Frag} (hu : X.A.units + 65 < cLine) (eK : X.K = K := by rfl) : OpR X (compareOp .NotIn) (rInP K true) := by
  subst eK
  intro pins s σ H x y v u Q I rx ry h
  obtain ⟨d, ds, hd, he, sd, se, dp, q⟩ := h
  obtain ⟨as, r1⟩ := Dp.reads I d x v hd rx
  rcases he with he | he
  · obtain ⟨bs, r2⟩ := Dp.reads I _ y u he ry
    exact PySem.SeqAt.notIn_list_data r2 r1 se sd (by omega) ⟨.bl _, H, I, rfl, q⟩
  · obtain ⟨bs, r2⟩ := Dp.reads I _ y u he ry
    exact PySem.SeqAt.notIn_tuple_data r2 r1 se sd (by omega) ⟨.bl _, H, I, rfl, q⟩
/-- y in d -/
def rDIn (neg : Bool) : R2 := fun y x H Q => ∃ a o, x = .ref a ∧ DGet H a y o ∧ Q (.bl (if neg then !o.isSome else o.isSome)) H
theorem op_dNotIn {X : Cx} (hu : X.A.units + 65 < cLine) : OpR X (compareOp .NotIn) (rDIn true) := by
  intro pins s σ H y x iv u Q I ry rx h
  obtain ⟨a, ov, ex, g, q2⟩ := h
  subst ex
  obtain rfl : u = Value.ref a := rx
  exact d_notIn (by omega) I g ry fun s3 I3 => ⟨.bl (!ov.isSome), H, I3, rfl, q2⟩
def rInAll (K : PySem.W.Frag) (neg : Bool) : R2 := fun x y H Q => rInP K neg x y H Q ∨ (DL.rSign neg x y H Q ∨ rDIn neg x y H Q)
theorem op_notInAll {X : Cx} {K : PySem.W.Frag} (hu : X.A.units + 65 < cLine) (e : X.K = K := by rfl) : OpR X (compareOp .NotIn) (rInAll K true) := DL.OpR.or (op_notInP hu e) (DL.OpR.or op_notIn_sign (op_dNotIn hu))
theorem op_eqPK {X : Cx} {K : PySem.W.Frag} (hu : X.A.units + 65 < cLine) (e : X.K = K := by rfl) : OpR X (compareOp .Eq) (rEqP K) := by subst e; exact op_eqP (by omega)
theorem op_nePK {X : Cx} {K : PySem.W.Frag} (hu : X.A.units + 65 < cLine) (e : X.K = K := by rfl) : OpR X (compareOp .NotEq) (rNeP K) := by subst e; exact op_neP (by omega)
end L2
namespace SM
open PySem L2
open DL (Ex ExK rLenU rAbs rMax2 rMin2 rInt1 rListOf rTupleOf iSeqU rIsiU InC)
section
variable {K : PySem.W.Frag} {ca : CaT} {F F1 F2 H H1 H2 : Hp} {m m1 m2 : List Addr} {A A1 A2 : Hs} {σ : L2.St} {env : Sl} {W : WX} {Q : VK}
variable {ta tb tc te : TE} {a b c : E} {i : Nat} {d : D} {ts : TA} {as : As} {x : V} {dx : D}
/-! ### dicts -/
def keyK : D → Option Key
  | .int i => some (.inl i)
  | .str x => some (.inr x)
  | _ => none
def keysK : List D → Option (List Key)
  | [] => some []
  | d :: r => match keyK d, keysK r with
    | some k, some ks => some (k :: ks)
    | _, _ => none
/-- whether two keys are one -/
def keq : D → D → Bool
  | .int i, .int j => decide (i = j)
  | .str x, .str y => decide (x = y)
  | .tup l, .tup k => keqL l k
  | _, _ => false
where keqL : List D → List D → Bool
  | [], [] => true
  | .int i :: r, .int j :: s => decide (i = j) && keqL r s
  | .str x :: r, .str y :: s => decide (x = y) && keqL r s
  | _, _ => false
def kget : List (D × D) → D → Option D
  | [], _ => none
  | (k, v) :: r, y => if keq k y then some v else kget r y
def khas (l : List (D × D)) (y : D) : Bool := l.any fun kv => keq kv.1 y
def kput (l : List (D × D)) (y v : D) : List (D × D) := if khas l y then l.map (fun kv => if keq kv.1 y then (kv.1, v) else kv) else l ++ [(y, v)]
def kdel (l : List (D × D)) (y : D) : List (D × D) := l.filter fun kv => !keq kv.1 y
/-- y may be a key of a dict of the kind t -/
def keyOk : Bool → D → Bool
  | false, y => (keyK y).isSome
  | true, .tup l => (keysK l).isSome
  | true, _ => false
theorem keyK_kD {y : D} {k : Key} (h : keyK y = some k) : y = kD k := by
  cases y <;> simp [keyK] at h <;> subst h <;> rfl
theorem keysK_kT : ∀ {l : List D} {ks : List Key}, keysK l = some ks → l = ks.map kD
  | [], ks, h => by cases h; rfl
  | d :: r, ks, h => by
    unfold keysK at h
    cases q : keyK d with
    | none => rw [q] at h; cases h
    | some k =>
      cases q2 : keysK r with
      | none => rw [q, q2] at h; cases h
      | some s => rw [q, q2] at h; cases h; rw [List.map_cons, ← keyK_kD q, ← keysK_kT q2]
theorem keq_kD (a b : Key) : keq (kD a) (kD b) = decide (a = b) := by
  cases a <;> cases b <;> simp [kD, keq]
theorem keqL_kT : ∀ (a b : List Key), keq.keqL (a.map kD) (b.map kD) = decide (a = b)
  | [], [] => by simp [keq.keqL]
  | [], y :: s => by cases y <;> simp [keq.keqL]
  | x :: r, [] => by cases x <;> simp [keq.keqL]
  | x :: r, y :: s => by
    have ih := keqL_kT r s
    cases x <;> cases y <;> simp [kD, keq.keqL, ih]
theorem keq_kT (a b : List Key) : keq (kT a) (kT b) = decide (a = b) := by
  unfold kT keq; exact keqL_kT a b
section
variable {κ : Type} [DecidableEq κ] {kd : κ → D}
theorem kget_rep (hk : ∀ a b, keq (kd a) (kd b) = decide (a = b)) {k : κ} : ∀ {kvs : List (κ × V)} {l : List (D × D)}, KvR K ca F m kd kvs l → (∀ d, kget l (kd k) = some d → ∃ v, valV kvs k = some v ∧ Rep K ca F m v d) ∧ (kget l (kd k) = none → valV kvs k = none)
  | _, _, .nil => ⟨fun d h => by simp [kget] at h, fun _ => rfl⟩
  | _, _, .cons (k := k') (v := v') h r => by
    have ih := kget_rep hk (k := k) r
    unfold kget valV
    by_cases q : k' = k
    · subst q
      simp only [hk, decide_true, if_true, List.find?_cons]
      exact ⟨fun d e => by cases e; exact ⟨v', by simp, h⟩, fun e => by cases e⟩
    · rw [hk, decide_eq_false q]
      simp only [Bool.false_eq_true, if_false, List.find?_cons, decide_eq_false q]
      exact ih
theorem khas_rep (hk : ∀ a b, keq (kd a) (kd b) = decide (a = b)) {k : κ} : ∀ {kvs : List (κ × V)} {l : List (D × D)}, KvR K ca F m kd kvs l → khas l (kd k) = kvs.any fun kv => decide (kv.1 = k)
  | _, _, .nil => rfl
  | _, _, .cons h r => by
    have ih := khas_rep hk (k := k) r
    unfold khas at ih ⊢
    rw [List.any_cons, List.any_cons, ih, hk]
theorem KvR.snoc {k : κ} {v : V} (hv : Rep K ca F m v d) : ∀ {kvs : List (κ × V)} {l : List (D × D)}, KvR K ca F m kd kvs l → KvR K ca F m kd (kvs ++ [(k, v)]) (l ++ [(kd k, d)])
  | _, _, .nil => .cons hv .nil
  | _, _, .cons h r => .cons h (KvR.snoc hv r)
theorem KvR.remap (hk : ∀ a b, keq (kd a) (kd b) = decide (a = b)) {k : κ} {v : V} (hv : Rep K ca F m v d) : ∀ {kvs : List (κ × V)} {l : List (D × D)}, KvR K ca F m kd kvs l → KvR K ca F m kd (kvs.map fun kv => if kv.1 = k then (kv.1, v) else kv) (l.map fun kv => if keq kv.1 (kd k) then (kv.1, d) else kv)
  | _, _, .nil => .nil
  | _, _, .cons (k := k') h r => by
    rw [List.map_cons, List.map_cons]
    by_cases q : k' = k
    · simp only [q, hk, decide_true, if_true]; exact .cons hv (KvR.remap hk hv r)
    · simp only [q, hk, decide_false, Bool.false_eq_true, if_false]; exact .cons h (KvR.remap hk hv r)
theorem kput_rep (hk : ∀ a b, keq (kd a) (kd b) = decide (a = b)) {k : κ} {v : V} (hv : Rep K ca F m v d) {kvs : List (κ × V)} {l : List (D × D)} (h : KvR K ca F m kd kvs l) : KvR K ca F m kd (putK kvs k v) (kput l (kd k) d) := by
  unfold putK kput
  rw [khas_rep hk h]
  split
  · exact KvR.remap hk hv h
  · exact KvR.snoc hv h
theorem kdel_rep (hk : ∀ a b, keq (kd a) (kd b) = decide (a = b)) {k : κ} : ∀ {kvs : List (κ × V)} {l : List (D × D)}, KvR K ca F m kd kvs l → KvR K ca F m kd (dropK kvs k) (kdel l (kd k))
  | _, _, .nil => .nil
  | _, _, .cons (k := k') h r => by
    have ih := kdel_rep hk (k := k) r
    unfold dropK kdel at ih ⊢
    rw [List.filter_cons, List.filter_cons]
    by_cases q : k' = k
    · simp only [q, hk, decide_true, Bool.not_true, Bool.false_eq_true, if_false, ne_eq, not_true_eq_false, decide_false]; exact ih
    · simp only [q, hk, decide_false, Bool.not_false, if_true, ne_eq, not_false_eq_true, decide_true]; exact .cons h ih
end
/-- the dict at hand: its kind, its pairs -/
def dicAt (A : Hs) : D → Option (Bool × List (D × D))
  | .ref i => match A[i]? with
    | some (.dic t _ l) => some (t, l)
    | _ => none
  | _ => none
theorem rdK {lk : Bool} {a : Addr} {u : HO} (h : At H a lk u) : L2.Rd H a u := by
  cases lk with
  | false => exact .inl h
  | true => exact .inr h
theorem tup_key {y : V} {l : List D} {ks : List Key} (R : Rl K ca F m A H) (r : Rep K ca F m y (.tup l)) (h : keysK l = some ks) : ∃ b, y = .ref b ∧ H b = some (.tup (ks.map kV)) := by
  cases r with
  | tup s rs =>
    refine ⟨_, rfl, ?_⟩
    have e := keysK_kT h
    subst e
    have : ∀ {vs : List V} {ks : List Key}, RepL K ca F m vs (ks.map kD) → vs = ks.map kV := by
      intro vs ks
      induction ks generalizing vs with
      | nil => intro r; cases r; rfl
      | cons k ks ih =>
        intro r
        cases r with
        | cons q t =>
          rw [List.map_cons, ih t]
          cases k with
          | inl i => cases q; rfl
          | inr x => cases q; rfl
    rw [← this rs]
    exact R.fh _ _ s
/-- what the dict holds at a key -/
theorem dic_get {x y : V} {dy : D} {t : Bool} {l : List (D × D)} (R : Rl K ca F m A H) (rx : Rep K ca F m x dx) (ry : Rep K ca F m y dy) (h : dicAt A dx = some (t, l)) (hk : keyOk t dy = true) : ∃ a o, x = .ref a ∧ DGet H a y o ∧ L2.IsD H a ∧ (∀ d, kget l dy = some d → ∃ v, o = some v ∧ Rep K ca F m v d) ∧ (kget l dy = none → o = none) := by
  cases dx with
  | ref i =>
    unfold dicAt at h
    cases q : A[i]? with
    | none => simp [q] at h
    | some o =>
      cases o with
      | dic t' lk l' =>
        simp [q] at h
        obtain ⟨rfl, rfl⟩ := h
        obtain ⟨a, e, ha, r⟩ := R.at q rx
        cases t' with
        | false =>
          obtain ⟨kvs, h1, h2⟩ := r
          cases z : keyK dy with
          | none => simp [keyOk, z] at hk
          | some k =>
            have e2 := keyK_kD z
            subst e2
            obtain ⟨g1, g2⟩ := kget_rep keq_kD (k := k) h2
            refine ⟨a, valV kvs k, e, .inl ⟨kvs, k, rdK h1, ?_, rfl⟩, .inl ⟨kvs, rdK h1⟩, g1, g2⟩
            cases k with
            | inl i => cases ry; rfl
            | inr x => cases ry; rfl
        | true =>
          obtain ⟨kvs, h1, h2⟩ := r
          cases dy with
          | tup dl =>
              cases z : keysK dl with
            | none => simp [keyOk, z] at hk
            | some ks =>
              obtain ⟨b, e3, h3⟩ := tup_key R ry z
              have e2 := keysK_kT z
              subst e2
              obtain ⟨g1, g2⟩ := kget_rep keq_kT (k := ks) h2
              exact ⟨a, valV kvs ks, e, .inr ⟨kvs, ks, b, rdK h1, e3, h3, rfl⟩, .inr ⟨kvs, rdK h1⟩, g1, g2⟩
          | _ => simp [keyOk] at hk
      | lst _ => simp [q] at h
      | obj _ _ => simp [q] at h
  | _ => simp [dicAt] at h
/-- d[y] -/
def oDGet (x y : D) (A : Hs) : RE D := match dicAt A x with
  | some (t, l) => if keyOk t y then match kget l y with
      | some d => .ok d A
      | none => .stuck
    else .stuck
  | none => .stuck
def rDGet : R2 := fun x y H Q => ∃ a v, x = .ref a ∧ DGet H a y (some v) ∧ Q v H
theorem os_dget : OpS K ca rDGet oDGet := fun F m A H x y dx dy W σ Q R rx ry p => by
  unfold oDGet at p
  split at p
  · rename_i t l hd
    split at p
    · rename_i hk
      split at p
      · rename_i d hg
        obtain ⟨a, o, e, h1, _, h2, h3⟩ := dic_get R rx ry hd hk
        obtain ⟨v, e2, rv⟩ := h2 d hg
        subst e2
        exact ⟨a, v, e, h1, po_ok R rv p⟩
      · exact p.elim
    · exact p.elim
  · exact p.elim
theorem pe_dgetO {X : Cx} {o i : Expr} {pos : Pos} {td ty : TE} (hu : X.A.units + 65 < cLine) (ho : PE X o td) (hi : PE X i ty) (hs : NoSl i) : PE X (.Subscript o i pos) (tOp rDGet td ty) := pe_dget (by omega) ho hi hs
/-- y in c -/
def inData (A : Hs) (x c : D) : Option Bool := match pyA A 40 x, pyA A 40 c with
  | some p, some (.list ps) => some (ps.any fun z => PyData.eqv z p)
  | some p, some (.tuple ps) => some (ps.any fun z => PyData.eqv z p)
  | _, _ => none
def inStr (x : D) (w : Str) : Option Bool := match x with
  | .str z => match z.cps.toList with
    | [k] => some (decide (k ∈ w.cps.toList))
    | _ => none
  | _ => none
def inDic (t : Bool) (l : List (D × D)) (x : D) : Option Bool := if keyOk t x then some (kget l x).isSome else none
def inA (A : Hs) (x c : D) : Option Bool := match dicAt A c with
  | some (t, l) => inDic t l x
  | none => match c with
    | .str w => inStr x w
    | _ => inData A x c
def oIn : D → D → Hs → RE D := oB inA
def oNotIn : D → D → Hs → RE D := oB fun A x y => (inA A x y).map (!·)
theorem in_data {neg b : Bool} {x y : V} {dx dy : D} (R : Rl K ca F m A H) (rx : Rep K ca F m x dx) (ry : Rep K ca F m y dy) (h : inData A dx dy = some b) (q : Q (.bl (if neg then !b else b)) H) : rInAll K neg x y H Q := by
  unfold inData at h
  cases q1 : pyA A 40 dx with
  | none => simp [q1] at h
  | some p1 =>
    cases q2 : pyA A 40 dy with
    | none => simp [q1, q2] at h
    | some p2 =>
      obtain ⟨a1, a2, a3⟩ := dp_of R rx q1
      obtain ⟨b1, b2, b3⟩ := dp_of R ry q2
      cases p2 with
      | list ps =>
        simp only [q1, q2, Option.some.injEq] at h
        subst h
        exact .inl ⟨p1, ps, a1, .inl b1, a2, b2, by omega, q⟩
      | tuple ps =>
        simp only [q1, q2, Option.some.injEq] at h
        subst h
        exact .inl ⟨p1, ps, a1, .inr b1, a2, b2, by omega, q⟩
      | _ => simp [q1, q2] at h
theorem in_core {neg b : Bool} {x y : V} {dx dy : D} (R : Rl K ca F m A H) (rx : Rep K ca F m x dx) (ry : Rep K ca F m y dy) (h : inA A dx dy = some b) (q : Q (.bl (if neg then !b else b)) H) : rInAll K neg x y H Q := by
  unfold inA at h
  cases hd : dicAt A dy with
  | some tl =>
    obtain ⟨t, l⟩ := tl
    simp only [hd, inDic] at h
    split at h
    · rename_i hk
      obtain ⟨a, o, e, h1, _, h2, h3⟩ := dic_get R ry rx hd hk
      refine .inr (.inr ⟨a, o, e, h1, ?_⟩)
      have : o.isSome = b := by
        cases h
        cases z : kget l dx with
        | none => rw [h3 z]; rfl
        | some d => obtain ⟨v, e2, _⟩ := h2 d z; rw [e2]; rfl
      rw [this]; exact q
    · cases h
  | none =>
    simp only [hd] at h
    cases ry with
    | str w =>
      simp only [inStr] at h
      cases rx with
      | str z =>
        simp only at h
        split at h
        · rename_i k hz
          cases h
          have : z = ⟨#[k]⟩ := by
            cases z with
            | mk cps => congr; exact Array.toList_inj.mp (by simpa using hz)
          subst this
          exact .inr (.inl ⟨k, w, rfl, rfl, q⟩)
        · cases h
      | _ => cases h
    | non => exact in_data R rx .non h q
    | bl b => exact in_data R rx (.bl b) h q
    | int b => exact in_data R rx (.int b) h q
    | ty b => exact in_data R rx (.ty b) h q
    | tup s r => exact in_data R rx (.tup s r) h q
    | wt s r => exact in_data R rx (.wt s r) h q
    | scr s r => exact in_data R rx (.scr s r) h q
    | ref s => exact in_data R rx (.ref s) h q
    | nm s => exact in_data R rx (.nm s) h q
    | exc s => exact in_data R rx (.exc s) h q
theorem os_notin : OpS K ca (rInAll K true) oNotIn := fun F m A H x y dx dy W σ Q R rx ry p => by
  unfold oNotIn oB at p
  cases q : inA A dx dy with
  | none => simp only [q] at p; exact p.elim
  | some b => simp only [q, Option.map] at p; exact in_core R rx ry q (po_ok R (.bl _) p)
/-! ### stores -/
/-- xs[i] = v, d[k] = v -/
def setIt (A : Hs) (x y v : D) : Option Hs := match x with
  | .ref i => match A[i]? with
    | some (.lst l) => match y with
      | .int k => match ixN l.length k with
        | some n => some (A.set i (.lst (l.set n v)))
        | none => none
      | _ => none
    | some (.dic t false l) => if keyOk t y && decide (l.length < sizeLine) then some (A.set i (.dic t false (kput l y v))) else none
    | _ => none
  | _ => none
/-- o[i] = e: first e, then o, then i -/
def ofH (env : Sl) : Option Hs → RS
  | some A => .nx env A
  | none => .stuck
def sPut (o i a : E) : S := fun env A => ofE env (a env A) fun v A1 => ofE env (o env A1) fun x A2 => ofE env (i env A2) fun y A3 => ofH env (setIt A3 x y v)
theorem set_lst {x y v : V} {dy dv : D} {i : Nat} {l : List D} (R : Rl K ca F m A H) (rx : Rep K ca F m x (.ref i)) (ry : Rep K ca F m y dy) (rv : Rep K ca F m v dv) (hA : A[i]? = some (.lst l)) (h : setIt A (.ref i) dy dv = some A2) {Dn : Ends} {f : Hp → Prop}
    (k : ∀ H2, Rl K ca F m A2 H2 → Stp F m H F m H2 → f H2) : rSetL x y v H f := by
  unfold setIt at h
  simp only [hA] at h
  cases ry with
  | int j =>
    simp only at h
    cases q : ixN l.length j with
    | none => rw [q] at h; cases h
    | some n =>
      rw [q] at h; cases h
      obtain ⟨a, vs, e, h1, h2, h3⟩ := lst_at R rx hA
      obtain ⟨R2, g2⟩ := lst_put R h1 h2 (h3.set rv n)
      exact ⟨a, vs, j, n, e, rfl, h2, by rw [h3.length]; exact q, k _ R2 g2⟩
  | _ => cases h
theorem set_dic {x y v : V} {dy dv : D} {i : Nat} {t : Bool} {l : List (D × D)} (R : Rl K ca F m A H) (rx : Rep K ca F m x (.ref i)) (ry : Rep K ca F m y dy) (rv : Rep K ca F m v dv) (hA : A[i]? = some (.dic t false l)) (h : setIt A (.ref i) dy dv = some A2) :
    ∃ a H2, x = .ref a ∧ DPut H a y v H2 ∧ Rl K ca F m A2 H2 ∧ Stp F m H F m H2 := by
  unfold setIt at h
  simp only [hA] at h
  split at h
  · rename_i hk
    cases h
    rw [Bool.and_eq_true, decide_eq_true_eq] at hk
    obtain ⟨a, e, ha, r⟩ := R.at hA rx
    cases t with
    | false =>
      obtain ⟨kvs, h1, h2⟩ := r
      cases z : keyK dy with
      | none => simp [keyOk, z] at hk
      | some kk =>
        have e2 := keyK_kD z
        subst e2
        have e3 : y = kV kk := by
          cases kk with
          | inl i => cases ry; rfl
          | inr x => cases ry; rfl
        have h1' : H a = some (.dK kvs) := h1
        obtain ⟨R2, g2⟩ := R.put (u := .dK (putK kvs kk v)) (o' := .dic false false (kput l (kD kk) dv)) ha (fun od w z => by rw [h1'] at z; cases z) ⟨_, upd_same, kput_rep keq_kD rv h2⟩
        exact ⟨a, _, e, .inl ⟨kvs, kk, h1, e3, by rw [h2.length]; exact hk.2, rfl⟩, R2, g2⟩
    | true =>
      obtain ⟨kvs, h1, h2⟩ := r
      cases dy with
      | tup dl =>
          cases z : keysK dl with
        | none => simp [keyOk, z] at hk
        | some ks =>
          obtain ⟨b, e3, h3⟩ := tup_key R ry z
          have e2 := keysK_kT z
          subst e2
          have h1' : H a = some (.dT kvs) := h1
          obtain ⟨R2, g2⟩ := R.put (u := .dT (putK kvs ks v)) (o' := .dic true false (kput l (kT ks) dv)) ha (fun od w z => by rw [h1'] at z; cases z) ⟨_, upd_same, kput_rep keq_kT rv h2⟩
          exact ⟨a, _, e, .inr ⟨kvs, ks, b, h1, e3, h3, by rw [h2.length]; exact hk.2, rfl⟩, R2, g2⟩
      | _ => simp [keyOk] at hk
  · cases h
end
end SM

namespace SM
open PySem L2
open DL (Ex ExK rLenU rAbs rMax2 rMin2 rInt1 rListOf rTupleOf iSeqU rIsiU InC)
section
variable {K : PySem.W.Frag} {ca : CaT} {F F1 F2 H H1 H2 : Hp} {m m1 m2 : List Addr} {A A1 A2 : Hs} {σ : L2.St} {env : Sl} {W : WX} {Q : VK}
variable {ta tb tc te to ti : TE} {a b c o : E} {i : Nat} {d : D} {ts : TA} {as : As} {x : V} {dx : D} {t u : TS} {f g h : S}
/-! ### o[i] = e -/
theorem SimS.pick (h1 : SimS K ca W t g) (h2 : SimS K ca W u h) (k : ∀ env A, f env A = g env A ∨ f env A = h env A) : SimS K ca W (fun D σ H => t D σ H ∨ u D σ H) f := fun F m A σ H env Dn R S p => by
  rcases k env A with q | q
  · rw [q] at p; exact .inl (h1 F m A σ H env Dn R S p)
  · rw [q] at p; exact .inr (h2 F m A σ H env Dn R S p)
def isLst (A : Hs) : D → Bool
  | .ref i => match A[i]? with
    | some (.lst _) => true
    | _ => false
  | _ => false
def sPut1 (w : Bool) (o i a : E) : S := fun env A => ofE env (a env A) fun v A1 => ofE env (o env A1) fun x A2 => ofE env (i env A2) fun y A3 => if isLst A3 x = w then ofH env (setIt A3 x y v) else .stuck
theorem put_pick {o i a : E} (env : Sl) (A : Hs) : sPut o i a env A = sPut1 true o i a env A ∨ sPut o i a env A = sPut1 false o i a env A := by
  unfold sPut sPut1
  cases a env A with
  | stuck => exact .inl rfl
  | exc _ _ => exact .inl rfl
  | ok v A1 =>
    simp only [ofE]
    cases o env A1 with
    | stuck => exact .inl rfl
    | exc _ _ => exact .inl rfl
    | ok x A2 =>
      simp only [ofE]
      cases i env A2 with
      | stuck => exact .inl rfl
      | exc _ _ => exact .inl rfl
      | ok y A3 =>
        simp only [ofE]
        cases q : isLst A3 x with
        | true => exact .inl (by simp)
        | false => exact .inr (by simp)
theorem isLst_at {A : Hs} {x : D} {w : Bool} (h : isLst A x = true) : ∃ i l, x = .ref i ∧ A[i]? = some (.lst l) := by
  cases x with
  | ref i =>
    unfold isLst at h
    cases q : A[i]? with
    | none => simp [q] at h
    | some o =>
      cases o with
      | lst l => exact ⟨i, l, rfl, q⟩
      | dic _ _ _ => simp [q] at h
      | obj _ _ => simp [q] at h
  | _ => cases h
theorem setIt_dic {A A2 : Hs} {x y v : D} (h : setIt A x y v = some A2) (n : isLst A x = false) : ∃ i t l, x = .ref i ∧ A[i]? = some (.dic t false l) := by
  unfold setIt at h
  cases x with
  | ref i =>
    unfold isLst at n
    cases q : A[i]? with
    | none => simp [q] at h
    | some o =>
      cases o with
      | lst l => simp [q] at n
      | dic t lk l =>
        cases lk with
        | false => exact ⟨i, t, l, rfl, q⟩
        | true => simp [q] at h
      | obj _ _ => simp [q] at h
  | _ => simp at h
theorem ss_putL (ho : SimE K ca W to o) (hi : SimE K ca W ti b) (ha : SimE K ca W ta a) : SimS K ca W (tAsg ta (gSub to ti rSetL)) (sPut1 true o b a) := fun F m A σ H env Dn R S p =>
  ofE_bind ha R S p fun F1 m1 A1 H1 v dv R1 g1 S1 rv p1 => ofE_bind ho R1 S1 p1 fun F2 m2 A2 H2 x dx R2 g2 S2 rx p2 => ofE_bind hi R2 S2 p2 fun F3 m3 A3 H3 y dy R3 g3 S3 ry p3 => by
    split at p3
    · rename_i hl
      cases hs : setIt A3 dx dy dv with
      | none => rw [hs] at p3; exact p3.elim
      | some A4 =>
        rw [hs] at p3
        obtain ⟨j, l, rfl, hA⟩ := isLst_at (w := true) hl
        exact set_lst (Dn := Dn) R3 (rx.mono g3.ff g3.mm) ry (rv.mono (g2.trans g3).ff (g2.trans g3).mm) hA hs fun H4 R4 g4 => p3 F3 m3 σ H4 R4 g4 (S3.stp g4)
    · exact p3.elim
theorem ss_putD (ho : SimE K ca W to o) (hi : SimE K ca W ti b) (ha : SimE K ca W ta a) : SimS K ca W (sDPut to ti ta) (sPut1 false o b a) := fun F m A σ H env Dn R S p =>
  ofE_bind ha R S p fun F1 m1 A1 H1 v dv R1 g1 S1 rv p1 => ofE_bind ho R1 S1 p1 fun F2 m2 A2 H2 x dx R2 g2 S2 rx p2 => ofE_bind hi R2 S2 p2 fun F3 m3 A3 H3 y dy R3 g3 S3 ry p3 => by
    split at p3
    · rename_i hl
      cases hs : setIt A3 dx dy dv with
      | none => rw [hs] at p3; exact p3.elim
      | some A4 =>
        rw [hs] at p3
        obtain ⟨j, t, l, rfl, hA⟩ := setIt_dic hs hl
        obtain ⟨a', H4, e, h1, R4, g4⟩ := set_dic R3 (rx.mono g3.ff g3.mm) ry (rv.mono (g2.trans g3).ff (g2.trans g3).mm) hA hs
        exact ⟨a', H4, e, h1, p3 F3 m3 σ H4 R4 g4 (S3.stp g4)⟩
    · exact p3.elim
theorem ss_put (ho : SimE K ca W to o) (hi : SimE K ca W ti b) (ha : SimE K ca W ta a) : SimS K ca W (fun D σ H => tAsg ta (gSub to ti rSetL) D σ H ∨ sDPut to ti ta D σ H) (sPut o b a) := SimS.pick (ss_putL ho hi ha) (ss_putD ho hi ha) put_pick
/-! ### built-ins -/
def c1 (f : D → Hs → RE D) : List D → Hs → RE D := fun ds A => match ds with
  | [d] => f d A
  | _ => .stuck
def c2 (f : D → D → Hs → RE D) : List D → Hs → RE D := fun ds A => match ds with
  | [d, e] => f d e A
  | _ => .stuck
theorem cs_1 {r : List V → Hp → VK → Prop} {f : D → Hs → RE D} (h : ∀ F m A H x dx W σ Q, Rl K ca F m A H → Rep K ca F m x dx → Po K ca (Rep K ca) F m H W σ Q (f dx A) → r [x] H Q) : CbS K ca r (c1 f) := fun F m A H xs ds W σ Q R rs p => by
  match ds, xs, rs, p with
  | [d], _, .cons r1 .nil, p => exact h F m A H _ d W σ Q R r1 p
  | [], _, _, p => exact p.elim
  | _ :: _ :: _, _, _, p => exact p.elim
theorem cs_2 {r : List V → Hp → VK → Prop} {f : D → D → Hs → RE D} (h : ∀ F m A H x y dx dy W σ Q, Rl K ca F m A H → Rep K ca F m x dx → Rep K ca F m y dy → Po K ca (Rep K ca) F m H W σ Q (f dx dy A) → r [x, y] H Q) : CbS K ca r (c2 f) := fun F m A H xs ds W σ Q R rs p => by
  match ds, xs, rs, p with
  | [d, e], _, .cons r1 (.cons r2 .nil), p => exact h F m A H _ _ d e W σ Q R r1 r2 p
  | [], _, _, p => exact p.elim
  | [_], _, _, p => exact p.elim
  | _ :: _ :: _ :: _, _, _, p => exact p.elim
def lenA (A : Hs) (x : D) : Option Nat := match seqL A x with
  | some l => some l.length
  | none => match seqT x with
    | some l => some l.length
    | none => match x with
      | .str z => if z.length ≤ sizeLine then some z.length else none
      | .ref i => match A[i]? with
        | some (.dic false false l) => some l.length
        | _ => none
      | _ => none
def oLen (x : D) (A : Hs) : RE D := match lenA A x with
  | some n => .ok (.int (n : Int)) A
  | none => .stuck
theorem cs_len : CbS K ca (rLenU K) (c1 oLen) := cs_1 fun F m A H x dx W σ Q R rx p => by
  unfold oLen at p
  cases q : lenA A dx with
  | none => rw [q] at p; exact p.elim
  | some n =>
    rw [q] at p
    have hq := po_ok R (Rep.int _) p
    unfold lenA at q
    split at q
    · rename_i l hl
      cases q
      obtain ⟨a, vs, e, h1, h2⟩ := seqL_at R rx hl
      subst e
      exact .inl ⟨_, l.length, rfl, .inl ⟨vs, h1, h2.length.symm⟩, hq⟩
    · split at q
      · rename_i l hl
        cases q
        obtain ⟨a, vs, e, h1, h2⟩ := seqT_at R rx hl
        subst e
        exact .inl ⟨_, l.length, rfl, .inr ⟨vs, h1, h2.length.symm⟩, hq⟩
      · cases rx with
        | str z =>
          simp only at q
          split at q
          · rename_i hz; cases q; exact .inl ⟨_, _, rfl, ⟨hz, rfl⟩, hq⟩
          · cases q
        | ref hm =>
          simp only at q
          split at q
          · rename_i l hA
            cases q
            obtain ⟨a, e, ha, kvs, h1, h2⟩ := R.at hA (.ref hm)
            refine .inr ⟨a, kvs, by rw [e], h1, ?_⟩
            rw [h2.length]; exact hq
          · cases q
        | _ => cases q
def boolsOf : List D → Option (List Bool)
  | [] => some []
  | .bl b :: r => (boolsOf r).map (b :: ·)
  | _ :: _ => none
def intsOf : List D → Option (List Int)
  | [] => some []
  | .int b :: r => (intsOf r).map (b :: ·)
  | _ :: _ => none
theorem boolsOf_eq : ∀ {l : List D} {bs : List Bool}, boolsOf l = some bs → l = bs.map D.bl
  | [], _, h => by cases h; rfl
  | d :: r, bs, h => by
    cases d with
    | bl b =>
      unfold boolsOf at h
      cases q : boolsOf r with
      | none => rw [q] at h; cases h
      | some s => rw [q] at h; cases h; rw [List.map_cons, ← boolsOf_eq q]
    | _ => cases h
theorem intsOf_eq : ∀ {l : List D} {bs : List Int}, intsOf l = some bs → l = bs.map D.int
  | [], _, h => by cases h; rfl
  | d :: r, bs, h => by
    cases d with
    | int b =>
      unfold intsOf at h
      cases q : intsOf r with
      | none => rw [q] at h; cases h
      | some s => rw [q] at h; cases h; rw [List.map_cons, ← intsOf_eq q]
    | _ => cases h
theorem z00 : ∀ bs : List Bool, boolsOf (bs.map D.bl) = some bs
  | [] => rfl
  | b :: r => by rw [List.map_cons]; unfold boolsOf; rw [z00 r]; rfl
theorem z0h : ∀ bs : List Int, intsOf (bs.map D.int) = some bs
  | [] => rfl
  | b :: r => by rw [List.map_cons]; unfold intsOf; rw [z0h r]; rfl
def oAll (x : D) (A : Hs) : RE D := match (seqL A x).bind boolsOf with
  | some bs => .ok (.bl (bs.all id)) A
  | none => .stuck
def oSum (x : D) (A : Hs) : RE D := match (seqL A x).bind intsOf with
  | some ns => .ok (.int ns.sum) A
  | none => .stuck
theorem cs_all : CbS K ca (L2.rAll K) (c1 oAll) := cs_1 fun F m A H x dx W σ Q R rx p => by
  unfold oAll at p
  split at p
  · rename_i bs hb
    obtain ⟨l, h1, h2⟩ := Option.bind_eq_some_iff.mp hb
    obtain ⟨a, vs, e, h3, h4⟩ := seqL_at R rx h1
    have e2 := boolsOf_eq h2
    subst e2
    have e3 := h4.bools
    subst e3 e
    exact ⟨a, bs, rfl, h3, po_ok R (.bl _) p⟩
  · exact p.elim
theorem cs_sum : CbS K ca (L2.rSum K) (c1 oSum) := cs_1 fun F m A H x dx W σ Q R rx p => by
  unfold oSum at p
  split at p
  · rename_i bs hb
    obtain ⟨l, h1, h2⟩ := Option.bind_eq_some_iff.mp hb
    obtain ⟨a, vs, e, h3, h4⟩ := seqL_at R rx h1
    have e2 := intsOf_eq h2
    subst e2
    have e3 := h4.ints
    subst e3 e
    exact ⟨a, bs, rfl, h3, po_ok R (.int _) p⟩
  · exact p.elim
def oMax2 := oII fun i j => some (.int (if j > i then j else i))
def oMin2 := oII fun i j => some (.int (if j < i then j else i))
theorem cs_min2 : CbS K ca rMin2 (c2 oMin2) := cs_2 fun F m A H x y dx dy W σ Q R rx ry p => by
  cases rx with
  | int i =>
    cases ry with
    | int j => exact ⟨i, j, rfl, po_ok R (.int _) p⟩
    | _ => exact p.elim
  | _ => exact p.elim
def oInt (x : D) (A : Hs) : RE D := match x with
  | .int i => .ok (.int i) A
  | .bl b => .ok (.int (if b then 1 else 0)) A
  | _ => .stuck
theorem cs_int : CbS K ca rInt1 (c1 oInt) := cs_1 fun F m A H x dx W σ Q R rx p => by
  cases rx with
  | int i => exact .inl ⟨i, rfl, po_ok R (.int _) p⟩
  | bl b => exact .inr ⟨b, rfl, po_ok R (.int _) p⟩
  | _ => exact p.elim
def oList (x : D) (A : Hs) : RE D := match seqL A x with
  | some l => alloc A (.lst l)
  | none => match seqT x with
    | some l => alloc A (.lst l)
    | none => .stuck
def oTuple (x : D) (A : Hs) : RE D := match seqL A x with
  | some l => .ok (.tup l) A
  | none => match x with
    | .tup l => .ok (.tup l) A
    | _ => .stuck
theorem cs_tuple : CbS K ca (rTupleOf K) (c1 oTuple) := cs_1 fun F m A H x dx W σ Q R rx p => by
  unfold oTuple at p
  split at p
  · rename_i l hl
    obtain ⟨a, vs, e, h3, h4⟩ := seqL_at R rx hl
    subst e
    refine ⟨a, vs, rfl, .inl ⟨h3, fun q hq => ?_⟩⟩
    obtain ⟨R2, g2⟩ := R.new (u := .tup vs) hq
    exact p _ _ _ _ R2 g2 (.tup upd_same (h4.mono g2.ff g2.mm))
  · cases rx with
    | tup s rs => exact ⟨_, _, rfl, .inr ⟨.inl (.inl (R.fh _ _ s)), po_ok R (.tup s rs) p⟩⟩
    | _ => exact p.elim
/-! ### isinstance -/
/-- the class that a thing is of; os, xs: own classes, own exceptions at hand -/
def kdOf (os xs : List String) (A : Hs) : D → Option String
  | .non => some "NoneType"
  | .bl _ => some "bool"
  | .int _ => some "int"
  | .str _ => some "str"
  | .tup _ => some "tuple"
  | .scr _ => none
  | .exc C => if C ∈ xs then some C else none
  | .ref i => match A[i]? with
    | some (.lst _) => some "list"
    | some (.dic t lk _) => if t && lk then none else some "dict"
    | some (.obj C _) => if C ∈ os then some C else none
    | none => none
  | _ => none
def btn (n : String) : Bool := n == "NoneType" || n == "bool" || n == "int" || n == "str" || n == "tuple" || n == "list" || n == "dict" || n == "ValueError"
def clOf : D → Option String
  | .ty n => if btn n then some n else none
  | .nm C => if btn C then none else some C
  | _ => none
/-- a name's class object -/
def vOf (ca : CaT) (n : String) : Value := if btn n then .type n else .ref (ca n)
def subB (n c : String) : Bool := n == c || n == "bool" && c == "int"
/-- is the class n one of c: by the built-in ones, else by a table -/
def isiOf (tb : List (String × String × Bool)) (n c : String) : Option Bool := if btn n && btn c && n != "ValueError" then some (subB n c) else (tb.find? fun e => e.1 == n && e.2.1 == c).map (·.2.2)
/-- one of some classes -/
def isiAny (tb : List (String × String × Bool)) (n : String) : List D → Option Bool
  | [] => some false
  | c :: r => match clOf c with
    | some k => match isiOf tb n k with
      | some true => some true
      | some false => isiAny tb n r
      | none => none
    | none => none
def isiAll : List D → Bool
  | [] => true
  | c :: r => (clOf c).isSome && isiAll r
def isiD (os xs : List String) (tb : List (String × String × Bool)) (A : Hs) (x c : D) : Option Bool := match kdOf os xs A x with
  | none => none
  | some n => match c with
    | .tup l => if isiAll l then isiAny tb n l else none
    | c => match clOf c with
      | some k => isiOf tb n k
      | none => none
def oIsi (os xs : List String) (tb : List (String × String × Bool)) (x c : D) (A : Hs) : RE D := match isiD os xs tb A x c with
  | some b => .ok (.bl b) A
  | none => .stuck
inductive TbOk (K : PySem.W.Frag) (ca : CaT) : List (String × String × Bool) → Prop
  | nil : TbOk K ca []
  | cons {n c : String} {b : Bool} {r : List (String × String × Bool)} : PySem.W.kitOne K (vOf ca n) (vOf ca c) = some b → TbOk K ca r → TbOk K ca ((n, c, b) :: r)
theorem TbOk.of {tb : List (String × String × Bool)} (h : TbOk K ca tb) {n c : String} {b : Bool} (q : (tb.find? fun e => e.1 == n && e.2.1 == c).map (·.2.2) = some b) : PySem.W.kitOne K (vOf ca n) (vOf ca c) = some b := by
  induction h with
  | nil => cases q
  | cons h1 h2 ih =>
    rename_i n' c' b' r
    rw [List.find?_cons] at q
    cases z : (n' == n && c' == c) with
    | true =>
      simp only [z] at q
      cases q
      rw [Bool.and_eq_true] at z
      rw [← eq_of_beq z.1, ← eq_of_beq z.2]; exact h1
    | false => simp only [z] at q; exact ih q
def btns : List String := ["NoneType", "bool", "int", "str", "tuple", "list", "dict", "ValueError"]
theorem btn_mem {n : String} (h : btn n = true) : n ∈ btns := by
  simp only [btn, Bool.or_eq_true, beq_iff_eq] at h
  simp only [btns, List.mem_cons, List.mem_nil_iff, or_false]
  rcases h with ((((((h | h) | h) | h) | h) | h) | h) | h <;> simp [h]
theorem isi_all : ∀ n ∈ btns, ∀ c ∈ btns, (n != "ValueError") = true → kitB n c = some (subB n c) := by decide +kernel
theorem isi_sub {n c : String} (h1 : btn n = true) (h2 : btn c = true) (h3 : (n != "ValueError") = true) : kitB n c = some (subB n c) := isi_all n (btn_mem h1) c (btn_mem h2) h3
theorem isi_of {tb : List (String × String × Bool)} (h : TbOk K ca tb) {n c : String} {b : Bool} (q : isiOf tb n c = some b) : PySem.W.kitOne K (vOf ca n) (vOf ca c) = some b := by
  unfold isiOf at q
  split at q
  · rename_i z
    rw [Bool.and_eq_true, Bool.and_eq_true] at z
    cases q
    unfold vOf
    rw [if_pos z.1.1, if_pos z.1.2]
    exact kit_ty (isi_sub z.1.1 z.1.2 z.2)
  · exact h.of q
theorem cl_at {y : V} {dy : D} {k : String} (r : Rep K ca F m y dy) (h : clOf dy = some k) : ClsV y (vOf ca k) := by
  cases r with
  | ty n =>
    unfold clOf at h
    simp only at h
    split at h
    · rename_i z; cases h; unfold vOf; rw [if_pos z]; exact .ty _
    · cases h
  | nm C =>
    unfold clOf at h
    simp only at h
    split at h
    · cases h
    · rename_i z; cases h; unfold vOf; rw [if_neg z]; exact .own _
  | _ => cases h
/-- how isinstance sees a thing -/
inductive Sees (K : PySem.W.Frag) (H : Hp) (x : V) (u : Value) : Prop
  | ty : TyX K H x u → Sees K H x u
  | exc {a C : Addr} : x = .ref a → u = .ref C → H a = some (ExK C a) → ExcC K C → Sees K H x u
theorem sees_of {os xs : List String} {x : V} {n : String} (ho : AllC (fun C => InC K (ca C) ∧ btn C = false) os) (hx : AllC (fun C => ExcC K (ca C) ∧ btn C = false) xs) (R : Rl K ca F m A H) (rx : Rep K ca F m x dx) (h : kdOf os xs A dx = some n) : Sees K H x (vOf ca n) := by
  cases rx with
  | non => cases h; exact .ty (.base .non)
  | bl b => cases h; exact .ty (.base (.bl b))
  | int b => cases h; exact .ty (.base (.int b))
  | str b => cases h; exact .ty (.base (.str b))
  | tup s r => cases h; exact .ty (.base (.tup (R.fh _ _ s)))
  | exc s =>
    rename_i a C
    unfold kdOf at h
    simp only at h
    split at h
    · rename_i z; cases h
      have k := AllC.of hx z
      refine .exc rfl ?_ (R.fh _ _ s) k.1
      unfold vOf; rw [k.2]; rfl
    · cases h
  | ref hm =>
    unfold kdOf at h
    simp only at h
    split at h
    · rename_i l hA
      cases h
      obtain ⟨a, vs, e, h1, h2, h3⟩ := lst_at R (.ref hm) hA
      rw [e]
      exact .ty (.base (.lst h2))
    · rename_i t lk l hA
      split at h
      · cases h
      · rename_i z
        cases h
        obtain ⟨a, e, ha, r⟩ := R.at hA (.ref hm)
        rw [e]
        cases t with
        | false =>
          obtain ⟨kvs, h1, _⟩ := r
          cases lk with
          | false => exact .ty (.base (.dK h1))
          | true => obtain ⟨od, h1⟩ := h1; exact .ty (.fDict h1)
        | true =>
          obtain ⟨kvs, h1, _⟩ := r
          cases lk with
          | false => exact .ty (.base (.dT h1))
          | true => exact absurd rfl z
    · rename_i C fs hA
      split at h
      · rename_i z
        cases h
        obtain ⟨a, e, ha, dxx, kvs, h1, _⟩ := R.at hA (.ref hm)
        rw [e]
        have k := AllC.of ho z
        have i := k.1
        refine .ty (.base ?_)
        unfold vOf
        rw [k.2]
        exact .ins h1 i.cl i.ha i.hn i.ht i.hm
      · cases h
    · cases h
  | _ => cases h
theorem isiAny_kit {tb : List (String × String × Bool)} (ht : TbOk K ca tb) {n : String} : ∀ {vs : List V} {l : List D} {b : Bool}, RepL K ca F m vs l → isiAll l = true → isiAny tb n l = some b → ∃ us, Paired ClsV vs us ∧ PySem.W.kitAny K (vOf ca n) us = some b
  | _, _, _, .nil, _, h => by cases h; exact ⟨[], .nil, kitAny_nil⟩
  | _, _, _, .cons r rs, ha, h => by
    unfold isiAll at ha
    rw [Bool.and_eq_true] at ha
    unfold isiAny at h
    cases q : clOf _ with
    | none => rw [q] at h; cases h
    | some k =>
      rw [q] at h
      simp only at h
      cases q2 : isiOf tb n k with
      | none => rw [q2] at h; cases h
      | some c =>
        rw [q2] at h
        have k1 := isi_of ht q2
        cases c with
        | true =>
          cases h
          -- the rest only has to be classes
          have rest : ∀ {vs : List V} {l : List D}, RepL K ca F m vs l → isiAll l = true → ∃ us, Paired ClsV vs us := by
            intro vs l
            induction l generalizing vs with
            | nil => intro r _; cases r; exact ⟨[], .nil⟩
            | cons d l ih =>
              intro r hl
              cases r with
              | cons r1 r2 =>
                unfold isiAll at hl
                rw [Bool.and_eq_true] at hl
                obtain ⟨us, hus⟩ := ih r2 hl.2
                cases z : clOf d with
                | none => rw [z] at hl; cases hl.1
                | some kk => exact ⟨_ :: us, .cons (cl_at r1 z) hus⟩
          obtain ⟨us, hus⟩ := rest rs ha.2
          exact ⟨_ :: us, .cons (cl_at r q) hus, kitAny_cons k1 (fun z => by cases z) fun _ => rfl⟩
        | false =>
          obtain ⟨us, h1, h2⟩ := isiAny_kit ht rs ha.2 h
          exact ⟨_ :: us, .cons (cl_at r q) h1, kitAny_cons k1 (fun _ => h2) fun z => by cases z⟩
/-- isinstance(x, c) -/
theorem cs_isi {os xs : List String} {tb : List (String × String × Bool)} (ho : AllC (fun C => InC K (ca C) ∧ btn C = false) os) (hx : AllC (fun C => ExcC K (ca C) ∧ btn C = false) xs) (ht : TbOk K ca tb) : CbS K ca (rIsiU K) (c2 (oIsi os xs tb)) := cs_2 fun F m A H x y dx dy W σ Q R rx ry p => by
  unfold oIsi at p
  cases q : isiD os xs tb A dx dy with
  | none => rw [q] at p; exact p.elim
  | some b =>
    rw [q] at p
    have hq := po_ok R (Rep.bl _) p
    unfold isiD at q
    cases z : kdOf os xs A dx with
    | none => rw [z] at q; cases q
    | some n =>
      rw [z] at q
      have sees := sees_of ho hx R rx z
      have one : ∀ k, clOf dy = some k → isiOf tb n k = some b → rIsiU K [x, y] H Q := fun k h1 h2 => by
        have kit := isi_of ht h2
        have cl := cl_at ry h1
        cases sees with
        | ty t => exact .inl ⟨x, y, _, _, b, rfl, cl, t, kit, hq⟩
        | exc e1 e2 e3 e4 =>
          subst e1
          rw [e2] at kit
          exact .inr (.inr (.inl ⟨_, _, y, _, b, rfl, e3, e4, cl, kit, hq⟩))
      cases ry with
      | tup s rs =>
        simp only at q
        split at q
        · rename_i ha
          obtain ⟨us, h1, h2⟩ := isiAny_kit ht rs ha q
          cases sees with
          | ty t => exact .inr (.inl ⟨x, _, _, _, us, b, rfl, R.fh _ _ s, h1, t, h2, hq⟩)
          | exc e1 e2 e3 e4 =>
            subst e1
            rw [e2] at h2
            exact .inr (.inr (.inr ⟨_, _, _, _, us, b, rfl, e3, e4, R.fh _ _ s, h1, h2, hq⟩))
        · cases q
      | ty n' =>
        simp only at q
        split at q
        · rename_i k hk; exact one k hk q
        · cases q
      | nm n' =>
        simp only at q
        split at q
        · rename_i k hk; exact one k hk q
        · cases q
      | _ => simp [clOf] at q
end
end SM

namespace L2
open PySem PySem.Spec PyProof.Rows
end L2
namespace SM
open PySem L2
open DL (Ex ExK rInt1 iSeqU rng rngC rng_len rngC_len rng_get rngC_get enumD enumD_len enumD_get zipD)
section
variable {K : PySem.W.Frag} {ca : CaT} {F F1 F2 H H1 H2 : Hp} {m m1 m2 : List Addr} {A A1 A2 : Hs} {σ : L2.St} {env : Sl} {W : WX} {Q : VK}
variable {ta tb tc te to ti : TE} {a b c o : E} {i : Nat} {d : D} {ts : TA} {as : As} {x : V} {dx : D}
/-! ### what is walked -/
theorem SimI.pick {t u : TI} {f g h : Sl → Hs → RE Wk} (h1 : SimI K ca W t g) (h2 : SimI K ca W u h) (k : ∀ env A, f env A = g env A ∨ f env A = h env A) : SimI K ca W (fun σ H R => t σ H R ∨ u σ H R) f := fun F m A σ H env Q R S p => by
  rcases k env A with q | q
  · rw [q] at p; exact .inl (h1 F m A σ H env Q R S p)
  · rw [q] at p; exact .inr (h2 F m A σ H env Q R S p)
def tt : Hs → Prop := fun _ => True
/-- the signs of a text -/
def signsOf (z : Str) : List D := z.cps.toList.map fun c => .str ⟨#[c]⟩
def wkL (A : Hs) (x : D) : Option Wk := match x with
  | .ref i => match A[i]? with
    | some (.lst l) => some ⟨l, fun A' => A'[i]? = some (.lst l)⟩
    | _ => none
  | .scr l => some ⟨l, tt⟩
  | _ => none
def wkT (_ : Hs) (x : D) : Option Wk := match x with
  | .tup l => some ⟨l, tt⟩
  | .wt l => some ⟨l, tt⟩
  | _ => none
def wkS (_ : Hs) (x : D) : Option Wk := match x with
  | .str z => some ⟨signsOf z, tt⟩
  | _ => none
/-- a list, a tuple, a text -/
def wkA (A : Hs) (x : D) : Option Wk := match x with
  | .ref _ => wkL A x
  | .scr _ => wkL A x
  | .tup _ => wkT A x
  | .wt _ => wkT A x
  | _ => wkS A x
def wOf (f : Hs → D → Option Wk) (a : E) : Sl → Hs → RE Wk := fun env A => (a env A).bind fun x A1 => match f A1 x with
  | some k => .ok k A1
  | none => .stuck
def wSeq (a : E) : Sl → Hs → RE Wk := wOf wkA a
theorem wOf_bind {f : Hs → D → Option Wk} {R' : It → Hp → Prop} {T : VK} (h : SimE K ca W te a) (R : Rl K ca F m A H) (S : Slt K ca F m σ env) (p : PoW K ca F m H W σ R' (wOf f a env A))
    (k : ∀ F1 m1 A1 H1 x d kk, Rl K ca F1 m1 A1 H1 → Rep K ca F1 m1 x d → f A1 d = some kk → PoW K ca F1 m1 H1 W σ R' (.ok kk A1) → T x H1) : te σ H T := by
  refine h F m A σ H env T R S ?_
  unfold wOf at p
  cases q : a env A with
  | ok d A1 =>
    rw [q] at p
    intro v F1 m1 H1 R1 g1 r
    simp only [RE.bind] at p
    cases z : f A1 d with
    | none => rw [z] at p; exact p.elim
    | some kk =>
      rw [z] at p
      exact k F1 m1 A1 H1 v d kk R1 r z fun J F' m' H' R2 g2 hh => p J F' m' H' R2 (g1.trans g2) hh
  | exc C A1 => rw [q] at p; exact p
  | stuck => rw [q] at p; exact p
/-- the list at a, as it is at each turn -/
theorem walk_live {a : Addr} {n : Nat} : Walk (Itl K a) n (fun H => ∃ vs, SqL K H a vs ∧ vs.length = n) (fun i H x H' => H' = H ∧ ∀ xs, SqL K H a xs → xs[i]? = some x) :=
  ⟨fun i _ hi ⟨vs, q, e⟩ => ⟨vs, vs[i]'(by omega), q, by simp [show i < vs.length by omega]⟩, fun _ ⟨vs, q, e⟩ => ⟨vs, q, by omega⟩, fun _ _ _ _ _ _ y => y⟩
theorem sw_list (h : SimE K ca W te a) : SimI K ca W (iList K te) (wOf wkL a) := fun F m A σ H env Q R S p => wOf_bind h R S p fun F1 m1 A1 H1 x d kk R1 r hk p1 => by
  cases r with
  | ref hm =>
    rename_i aa i
    unfold wkL at hk
    simp only at hk
    cases hA : A1[i]? with
    | none => simp [hA] at hk
    | some o =>
      cases o with
      | lst l =>
        simp only [hA, Option.some.injEq] at hk
        subst hk
        obtain ⟨a', vs, e, h1, h2, h3⟩ := lst_at R1 (.ref hm) hA
        cases e
        refine ⟨aa, rfl, ⟨vs, .inl (.inl h2)⟩, p1 _ F1 m1 H1 R1 Stp.refl ⟨_, _, walk_live, fun F2 m2 A2 H2 hg R2 g2 => ?_, fun i' d' x' F2 m2 A2 H2 H3 e hg R2 g2 y => .inl ⟨y.1, ?_⟩⟩⟩
        · obtain ⟨a2, vs2, e2, _, h4, h5⟩ := lst_at R2 (.ref (g2.mm.get h1)) hg
          cases e2
          exact ⟨vs2, .inl (.inl h4), h5.length⟩
        · obtain ⟨a2, vs2, e2, _, h4, h5⟩ := lst_at R2 (.ref (g2.mm.get h1)) hg
          cases e2
          obtain ⟨z, z1, z2⟩ := h5.get e
          have := y.2 vs2 (.inl (.inl h4))
          rw [z1] at this; cases this; exact z2
      | dic _ _ _ => simp [hA] at hk
      | obj _ _ => simp [hA] at hk
  | scr s rs =>
    cases hk
    refine ⟨_, rfl, ⟨_, R1.fh.l s⟩, p1 _ F1 m1 H1 R1 Stp.refl ⟨_, _, walk_live, fun F2 m2 A2 H2 hg R2 g2 => ⟨_, R2.fh.l (g2.ff.l s), rs.length⟩, fun i' d' x' F2 m2 A2 H2 H3 e hg R2 g2 y => .inl ⟨y.1, ?_⟩⟩⟩
    obtain ⟨z, z1, z2⟩ := rs.get e
    have := y.2 _ (R2.fh.l (g2.ff.l s))
    rw [z1] at this; cases this; exact z2.mono g2.ff g2.mm
  | _ => cases hk
theorem sw_tup (h : SimE K ca W te a) : SimI K ca W (iTup K te) (wOf wkT a) := fun F m A σ H env Q R S p => wOf_bind h R S p fun F1 m1 A1 H1 x d kk R1 r hk p1 => by
  have main : ∀ {aa : Addr} {vs : List V} {l : List D}, SqT K F1 aa vs → RepL K ca F1 m1 vs l → kk = ⟨l, tt⟩ → x = .ref aa → ∃ a, x = .ref a ∧ (∃ xs, SqT K H1 a xs) ∧ Q (Itt K a) H1 := fun {aa vs l} s rs e ex => by
    subst e
    refine ⟨aa, ex, ⟨vs, R1.fh.t s⟩, p1 _ F1 m1 H1 R1 Stp.refl ⟨fun H => SqT K H aa vs, YAt vs, by rw [show (Wk.mk l _).ds.length = vs.length from rs.length.symm]; exact walk_tup, fun F2 m2 A2 H2 hg R2 g2 => R2.fh.t (g2.ff.t s), fun i' d' x' F2 m2 A2 H2 H3 e hg R2 g2 y => .inl ⟨y.1, ?_⟩⟩⟩
    obtain ⟨z, z1, z2⟩ := rs.get e
    have := y.2
    rw [z1] at this; cases this; exact z2.mono g2.ff g2.mm
  cases r with
  | tup s rs => cases hk; exact main (.inl (.inl s)) rs rfl rfl
  | wt s rs => cases hk; exact main s rs rfl rfl
  | _ => cases hk
theorem sw_str (h : SimE K ca W te a) : SimI K ca W (iStr te) (wOf wkS a) := fun F m A σ H env Q R S p => wOf_bind h R S p fun F1 m1 A1 H1 x d kk R1 r hk p1 => by
  cases r with
  | str z =>
    cases hk
    refine ⟨z, rfl, p1 _ F1 m1 H1 R1 Stp.refl ⟨fun _ => True, (fun i H v H' => H' = H ∧ ∃ c, z.cps[i]? = some c ∧ v = .str ⟨#[c]⟩), by rw [show (Wk.mk (signsOf z) _).ds.length = z.cps.size by unfold signsOf; simp]; exact walk_str, fun _ _ _ _ _ _ _ => trivial, fun i' d' x' F2 m2 A2 H2 H3 e hg R2 g2 y => .inl ⟨y.1, ?_⟩⟩⟩
    obtain ⟨_, c, h1, h2⟩ := y
    have e' : (signsOf z)[i']? = some d' := e
    unfold signsOf at e'
    rw [List.getElem?_map, Array.getElem?_toList, h1] at e'
    cases e'
    rw [h2]
    exact .str _
  | _ => cases hk
theorem wOf_pick {f g h : Hs → D → Option Wk} {a : E} (k : ∀ A x, f A x = g A x ∨ f A x = h A x) (env : Sl) (A : Hs) : wOf f a env A = wOf g a env A ∨ wOf f a env A = wOf h a env A := by
  unfold wOf
  cases a env A with
  | stuck => exact .inl rfl
  | exc _ _ => exact .inl rfl
  | ok x A1 =>
    simp only [RE.bind]
    rcases k A1 x with q | q
    · rw [q]; exact .inl rfl
    · rw [q]; exact .inr rfl
def wkTS (A : Hs) (x : D) : Option Wk := match x with
  | .tup _ => wkT A x
  | .wt _ => wkT A x
  | _ => wkS A x
theorem sw_seq (h : SimE K ca W te a) : SimI K ca W (iSeqU K te) (wSeq a) := SimI.pick (sw_list h) (SimI.pick (sw_tup h) (sw_str h) (wOf_pick (f := wkTS) fun A x => by cases x <;> first | exact .inl rfl | exact .inr rfl)) (wOf_pick fun A x => by cases x <;> first | exact .inl rfl | exact .inr rfl)
/-! ranges -/
def wAs (f : List D → Option Wk) (as : As) : Sl → Hs → RE Wk := fun env A => (as env A).bind fun ds A1 => match f ds with
  | some k => .ok k A1
  | none => .stuck
theorem wAs_bind {f : List D → Option Wk} {R' : It → Hp → Prop} {T : List V → Hp → Prop} (h : SimA K ca W ts as) (R : Rl K ca F m A H) (S : Slt K ca F m σ env) (p : PoW K ca F m H W σ R' (wAs f as env A))
    (k : ∀ F1 m1 A1 H1 x d kk, Rl K ca F1 m1 A1 H1 → RepL K ca F1 m1 x d → f d = some kk → PoW K ca F1 m1 H1 W σ R' (.ok kk A1) → T x H1) : ts σ H T := by
  refine h F m A σ H env T R S ?_
  unfold wAs at p
  cases q : as env A with
  | ok d A1 =>
    rw [q] at p
    intro v F1 m1 H1 R1 g1 r
    simp only [RE.bind] at p
    cases z : f d with
    | none => rw [z] at p; exact p.elim
    | some kk =>
      rw [z] at p
      exact k F1 m1 A1 H1 v d kk R1 r z fun J F' m' H' R2 g2 hh => p J F' m' H' R2 (g1.trans g2) hh
  | exc C A1 => rw [q] at p; exact p
  | stuck => rw [q] at p; exact p
def big (i : Int) : Prop := -(2 ^ 62) ≤ i ∧ i < 2 ^ 62
def rgL (lo c : Int) (n : Nat) : List D := (List.range n).map fun i => .int (lo + (i : Nat) * c)
theorem rgL_get {lo c : Int} {n i : Nat} {d : D} (h : (rgL lo c n)[i]? = some d) : d = .int (lo + (i : Nat) * c) ∧ i < n := by
  unfold rgL at h
  rw [List.getElem?_map] at h
  by_cases q : i < n
  · rw [List.getElem?_range q] at h; cases h; exact ⟨rfl, q⟩
  · rw [List.getElem?_eq_none (by simpa using Nat.le_of_not_lt q)] at h; cases h
theorem rgL_len {lo c : Int} {n : Nat} : (rgL lo c n).length = n := by unfold rgL; simp
open Classical in
noncomputable def rg1 : List D → Option Wk
  | [.int j] => if big j then some ⟨rgL 0 1 j.toNat, tt⟩ else none
  | _ => none
open Classical in
noncomputable def rg2 : List D → Option Wk
  | [.int i, .int j] => if big i ∧ big j then some ⟨rgL i 1 (j - i).toNat, tt⟩ else none
  | _ => none
def cnt (i j c : Int) : Nat := (if i < j then (j - i - 1) / c + 1 else 0).toNat
open Classical in
noncomputable def rg3 : List D → Option Wk
  | [.int i, .int j, .int c] => if -(2 ^ 60) ≤ i ∧ i < 2 ^ 60 ∧ -(2 ^ 60) ≤ j ∧ j < 2 ^ 60 ∧ 0 < c ∧ c < 1000000 then some ⟨rgL i c (cnt i j c), tt⟩ else none
  | _ => none
theorem sw_r1 (h : SimA K ca W ts as) : SimI K ca W (iRng1 ts) (wAs rg1 as) := fun F m A σ H env Q R S p => wAs_bind h R S p fun F1 m1 A1 H1 x d kk R1 r hk p1 => by
  match d, x, r, hk with
  | [.int j], _, .cons (.int _) .nil, hk =>
    unfold rg1 at hk
    simp only at hk
    split at hk
    · rename_i hb
      cases hk
      refine ⟨j, rfl, hb.1, hb.2, p1 _ F1 m1 H1 R1 Stp.refl ⟨fun _ => True, YFn fun i => .int (0 + i), by rw [show (Wk.mk (rgL 0 1 j.toNat) _).ds.length = j.toNat from rgL_len]; exact walk_range, fun _ _ _ _ _ _ _ => trivial, fun i' d' x' F2 m2 A2 H2 H3 e hg R2 g2 y => .inl ⟨y.1, ?_⟩⟩⟩
      obtain ⟨e1, _⟩ := rgL_get e
      rw [y.2, e1, Int.mul_one]; exact .int _
    · cases hk
/-! enumerate, zip -/
def enumL (l : List D) : List D := l.zipIdx.map fun p => .tup [.int (p.2 : Nat), p.1]
theorem enumL_len {l : List D} : (enumL l).length = l.length := by simp [enumL]
theorem enumL_get {l : List D} {i : Nat} {d : D} (h : (enumL l)[i]? = some d) : ∃ x, l[i]? = some x ∧ d = .tup [.int (i : Nat), x] := by
  unfold enumL at h
  rw [List.getElem?_map, List.getElem?_zipIdx] at h
  cases q : l[i]? with
  | none => rw [q] at h; cases h
  | some x => rw [q] at h; simp at h; exact ⟨x, rfl, h.symm⟩
def wkE (A : Hs) (x : D) : Option Wk := (wkL A x).map fun k => ⟨enumL k.ds, k.gd⟩
theorem walk_enumL {a : Addr} {n : Nat} : Walk (Ite K a) n (fun H => ∃ vs, SqL K H a vs ∧ vs.length = n) (fun i H v H' => ∃ T x, v = .ref T ∧ H T = none ∧ H' = upd H T (.tup [.int (i : Nat), x]) ∧ ∀ xs, SqL K H a xs → xs[i]? = some x) :=
  ⟨fun i _ hi ⟨vs, q, e⟩ => ⟨vs, vs[i]'(by omega), q, by simp [show i < vs.length by omega]⟩, fun _ ⟨vs, q, e⟩ => ⟨vs, q, by omega⟩, fun _ _ _ _ _ _ y => y⟩
theorem sw_enum (h : SimE K ca W te a) : SimI K ca W (iEnum K (tCons te tNil)) (wOf wkE a) := fun F m A σ H env Q R S p => wOf_bind h R S p fun F1 m1 A1 H1 x d kk R1 r hk p1 => by
  cases r with
  | ref hm =>
    rename_i aa i
    unfold wkE wkL at hk
    simp only at hk
    cases hA : A1[i]? with
    | none => simp [hA] at hk
    | some o =>
      cases o with
      | lst l =>
        simp only [hA, Option.map, Option.some.injEq] at hk
        subst hk
        obtain ⟨a', vs, e, h1, h2, h3⟩ := lst_at R1 (.ref hm) hA
        cases e
        refine ⟨aa, vs, rfl, .inl (.inl h2), p1 _ F1 m1 H1 R1 Stp.refl ⟨_, _, walk_enumL, fun F2 m2 A2 H2 hg R2 g2 => ?_, fun i' d' x' F2 m2 A2 H2 H3 e hg R2 g2 y => .inr (.inl ?_)⟩⟩
        · obtain ⟨a2, vs2, e2, _, h4, h5⟩ := lst_at R2 (.ref (g2.mm.get h1)) hg
          cases e2
          exact ⟨vs2, .inl (.inl h4), by rw [h5.length]; exact enumL_len.symm⟩
        · obtain ⟨a2, vs2, e2, _, h4, h5⟩ := lst_at R2 (.ref (g2.mm.get h1)) hg
          cases e2
          obtain ⟨T, z, y1, y2, y3, y4⟩ := y
          obtain ⟨dx, q1, q2⟩ := enumL_get e
          obtain ⟨w, w1, w2⟩ := h5.get q1
          have := y4 vs2 (.inl (.inl h4))
          rw [w1] at this; cases this
          exact ⟨T, _, _, q2, y1, y2, y3, .cons (.int _) (.cons w2 .nil)⟩
      | dic _ _ _ => simp [hA] at hk
      | obj _ _ => simp [hA] at hk
  | scr s rs =>
    cases hk
    refine ⟨_, _, rfl, R1.fh.l s, p1 _ F1 m1 H1 R1 Stp.refl ⟨_, _, walk_enumL, fun F2 m2 A2 H2 hg R2 g2 => ⟨_, R2.fh.l (g2.ff.l s), by rw [rs.length]; exact enumL_len.symm⟩, fun i' d' x' F2 m2 A2 H2 H3 e hg R2 g2 y => .inr (.inl ?_)⟩⟩
    obtain ⟨T, z, y1, y2, y3, y4⟩ := y
    obtain ⟨dx, q1, q2⟩ := enumL_get e
    obtain ⟨w, w1, w2⟩ := rs.get q1
    have := y4 _ (R2.fh.l (g2.ff.l s))
    rw [w1] at this; cases this
    exact ⟨T, _, _, q2, y1, y2, y3, .cons (.int _) (.cons (w2.mono g2.ff g2.mm) .nil)⟩
  | _ => cases hk

/-! ### methods of lists -/
def eBL (o : D → List D → Hs → RE D) (a : E) (as : As) : E := fun env A => (a env A).bind fun x A1 => if (seqL A1 x).isSome then (as env A1).bind fun ds A2 => o x ds A2 else .stuck
def eBL0 (o : D → Hs → RE D) (a : E) : E := fun env A => (a env A).bind fun x A1 => if (seqL A1 x).isSome then o x A1 else .stuck
def MbS (K : PySem.W.Frag) (ca : CaT) (r : V → List V → Hp → VK → Prop) (o : D → List D → Hs → RE D) : Prop := ∀ F m A H x dx vs ds W σ Q, Rl K ca F m A H → Rep K ca F m x dx → RepL K ca F m vs ds → Po K ca (Rep K ca) F m H W σ Q (o dx ds A) → r x vs H Q
/-- the list that stands at a place -/
def lstAt (A : Hs) : D → Option (Nat × List D)
  | .ref i => match A[i]? with
    | some (.lst l) => some (i, l)
    | _ => none
  | _ => none
def oAppend (x : D) (ds : List D) (A : Hs) : RE D := match lstAt A x, ds with
  | some (i, l), [d] => if l.length < sizeLine then .ok .non (A.set i (.lst (l ++ [d]))) else .stuck
  | _, _ => .stuck
def oExtend (x : D) (ds : List D) (A : Hs) : RE D := match lstAt A x, ds with
  | some (i, l), [d] => match lstAt A d with
    | some (_, k) => if l.length + k.length ≤ sizeLine then .ok .non (A.set i (.lst (l ++ k))) else .stuck
    | none => match d with
      | .tup k => if l.length + k.length ≤ sizeLine then .ok .non (A.set i (.lst (l ++ k))) else .stuck
      | _ => .stuck
  | _, _ => .stuck
def oPopAt (x : D) (ds : List D) (A : Hs) : RE D := match lstAt A x, ds with
  | some (i, l), [.int j] => if -(2 ^ 63) ≤ j ∧ j < 2 ^ 63 then match seqIndex? j l.length with
      | some k => match l[k]? with
        | some d => .ok d (A.set i (.lst (l.eraseIdx k)))
        | none => .stuck
      | none => .stuck
    else .stuck
  | _, _ => .stuck
def oClear (x : D) (A : Hs) : RE D := match lstAt A x with
  | some (i, _) => .ok .non (A.set i (.lst []))
  | none => .stuck
/-- bs.count(c), bs.index(c), of truths -/
def oCount (x : D) (ds : List D) (A : Hs) : RE D := match (seqL A x).bind boolsOf, ds with
  | some bs, [.bl c] => .ok (.int (bs.count c : Nat)) A
  | _, _ => .stuck
end
end SM

namespace SM
open PySem L2
open DL (Ex ExK rJoin rIdxS)
section
variable {K : PySem.W.Frag} {ca : CaT} {F F1 F2 H H1 H2 : Hp} {m m1 m2 : List Addr} {A A1 A2 : Hs} {σ : L2.St} {env : Sl} {W : WX} {Q : VK}
variable {ta tb tc te to ti : TE} {a b c o : E} {i : Nat} {d : D} {ts : TA} {as : As} {x : V} {dx : D}
/-! ### methods of texts, one argument -/
/-! ### methods of dicts -/
def isDic (A : Hs) (x : D) : Bool := (dicAt A x).isSome
theorem isD_of (R : Rl K ca F m A H) (r : Rep K ca F m x dx) (h : isDic A dx = true) : ∃ a, x = .ref a ∧ L2.IsD H a := by
  unfold isDic dicAt at h
  cases r with
  | ref hm =>
    rename_i aa i
    simp only at h
    cases q : A[i]? with
    | none => simp [q] at h
    | some o =>
      cases o with
      | dic t lk l =>
        obtain ⟨a, e, ha, r⟩ := R.at q (.ref hm)
        cases e
        cases t with
        | false => obtain ⟨kvs, h1, _⟩ := r; exact ⟨aa, rfl, .inl ⟨kvs, rdK h1⟩⟩
        | true => obtain ⟨kvs, h1, _⟩ := r; exact ⟨aa, rfl, .inr ⟨kvs, rdK h1⟩⟩
      | lst _ => simp [q] at h
      | obj _ _ => simp [q] at h
  | _ => cases h
def getD (A : Hs) (x y z : D) : Option D := match dicAt A x with
  | some (t, l) => if keyOk t y then some ((kget l y).getD z) else none
  | none => none
def ofO {α : Type} (A : Hs) : Option α → RE α
  | some d => .ok d A
  | none => .stuck
/-- d.get(y, z) -/
def eGet2 (o i e : E) : E := fun env A => (o env A).bind fun x A1 => if isDic A1 x then (i env A1).bind fun y A2 => (e env A2).bind fun z A3 => ofO A3 (getD A3 x y z) else .stuck
/-! ### a dict of the written part -/
inductive TabOk (K : PySem.W.Frag) (w : World) (da : Addr) : List (String × Int) → Prop
  | nil : TabOk K w da []
  | cons {k : String} {k' : Str} {n : Int} {r : List (String × Int)} : k' = fS k → KDct K w da k' (.int n) → TabOk K w da r → TabOk K w da ((k, n) :: r)
theorem TabOk.of {w : World} {da : Addr} {tb : List (String × Int)} (h : TabOk K w da tb) {z : Str} {n : String × Int} (q : (tb.find? fun e => decide (fS e.1 = z)) = some n) : KDct K w da z (.int n.2) := by
  induction h with
  | nil => cases q
  | cons e h1 h2 ih =>
    rename_i k k' n' r
    rw [List.find?_cons] at q
    by_cases c : fS k = z
    · simp only [c, decide_true] at q
      cases q
      rw [← c, ← e]; exact h1
    · simp only [c, decide_false] at q
      exact ih q
end
end SM

namespace DL
open PySem L2
theorem room65w {k : Nat} {A : Around} (r : Room k A) : A.units + 1 < cLine := by have := r.un; omega
end DL
namespace SM
open PySem L2
open DL (Ex ExK)
/-- a written text -/
def dS (s : String) : D := .str (fS s)
section
variable {K : PySem.W.Frag} {ca : CaT} {F F1 F2 H H1 H2 : Hp} {m m1 m2 : List Addr} {A A1 A2 A3 : Hs} {σ : L2.St} {env : Sl} {W : WX} {Q : VK}
variable {ta tb tc te to ti tv : TE} {a b c o v : E} {i : Nat} {d : D} {ts : TA} {as : As} {x : V} {dx : D} {cs : List String}
theorem se_strS {x : Str} {s : String} (h : x = fS s) : SimE K ca W (tC (.str x)) (eC (dS s)) := se_c fun _ _ => by subst h; exact .str _
/-- xs or e, xs a list -/
def eOrL (a b : E) : E := fun env A => (a env A).bind fun x A1 => match seqL A1 x with
  | some l => if l.isEmpty then b env A1 else .ok x A1
  | none => .stuck
/-! ### {k: v, ..} -/
abbrev Dps := Sl → Hs → RE (List (D × D))
def dNil : Dps := fun _ A => .ok [] A
def dCons (k v : E) (r : Dps) : Dps := fun env A => (k env A).bind fun x A1 => (v env A1).bind fun y A2 => (r env A2).bind fun ps A3 => .ok ((x, y) :: ps) A3
def kmerge (l : List (D × D)) : List (D × D) → List (D × D)
  | [] => l
  | (k, v) :: r => kmerge (kput l k v) r
def eDisp (d : Dps) : E := fun env A => (d env A).bind fun ps A1 => if (ps.all fun p => (keyK p.1).isSome) && decide (ps.length ≤ 15) then alloc A1 (.dic false false (kmerge [] ps)) else .stuck
inductive RepP (K : PySem.W.Frag) (ca : CaT) (F : Hp) (m : List Addr) : List (V × V) → List (D × D) → Prop
  | nil : RepP K ca F m [] []
  | cons {x y : V} {d e : D} {r : List (V × V)} {s : List (D × D)} : Rep K ca F m x d → Rep K ca F m y e → RepP K ca F m r s → RepP K ca F m ((x, y) :: r) ((d, e) :: s)
abbrev SimP (K : PySem.W.Frag) (ca : CaT) (W : WX) (trs : List (TE × TE)) (f : Dps) : Prop := Sim K ca (RepP K ca) W (tPairs trs) f
theorem sd_nil : SimP K ca W [] dNil := fun F m A σ H env Q R S p => p [] F m H R Stp.refl .nil
theorem sd_cons {tk tv : TE} {r : List (TE × TE)} {k v : E} {d : Dps} (hk : SimE K ca W tk k) (hv : SimE K ca W tv v) (hr : SimP K ca W r d) : SimP K ca W ((tk, tv) :: r) (dCons k v d) := fun F m A σ H env Q R S p =>
  hk.bind R S p fun F1 m1 A1 H1 x dx R1 g1 S1 rx p1 => hv.bind R1 S1 p1 fun F2 m2 A2 H2 y dy R2 g2 S2 ry p2 => hr.bind R2 S2 p2 fun F3 m3 A3 H3 ps ds R3 g3 S3 rs p3 =>
    p3 _ F3 m3 H3 R3 Stp.refl (.cons (rx.mono (g2.trans g3).ff (g2.trans g3).mm) (ry.mono g3.ff g3.mm) rs)
theorem kmerge_rep : ∀ {more : List (Key × V)} {ps : List (D × D)} {kvs : List (Key × V)} {l : List (D × D)}, KvR K ca F m kD more ps → KvR K ca F m kD kvs l → KvR K ca F m kD (L2.mergeK kvs more) (kmerge l ps)
  | _, _, _, _, .nil, h => h
  | _ :: more, _ :: ps, kvs, l, .cons (k := k) (v := v) r1 r2, h => kmerge_rep (more := more) (ps := ps) (kvs := putK kvs k v) r2 (kput_rep keq_kD r1 h)
theorem repP_keys : ∀ {vs : List (V × V)} {ps : List (D × D)}, RepP K ca F m vs ps → (ps.all fun p => (keyK p.1).isSome) = true → ∃ kvs : List (Key × V), vs = kvs.map (fun kv => (kV kv.1, kv.2)) ∧ KvR K ca F m kD kvs ps
  | _, _, .nil, _ => ⟨[], rfl, .nil⟩
  | _, _, .cons (d := d) r1 r2 rs, h => by
    rw [List.all_cons, Bool.and_eq_true] at h
    obtain ⟨kvs, h1, h2⟩ := repP_keys rs h.2
    obtain ⟨k, hk⟩ := Option.isSome_iff_exists.mp h.1
    have e := keyK_kD hk
    have e : d = kD k := e
    subst e
    refine ⟨(k, _) :: kvs, ?_, .cons r2 h2⟩
    rw [List.map_cons, ← h1]
    cases k with
    | inl i => cases r1; rfl
    | inr x => cases r1; rfl
theorem se_disp {trs : List (TE × TE)} {d : Dps} (h : SimP K ca W trs d) : SimE K ca W (tDisp trs) (eDisp d) := fun F m A σ H env Q R S p q hq => by
  obtain ⟨R1, g1⟩ := R.newH (u := .dK []) hq
  refine h F m A σ _ env _ R1 (S.stp g1) ?_
  unfold eDisp at p
  cases z : d env A with
  | stuck => rw [z] at p; exact p
  | exc C A1 => rw [z] at p; exact fun F' m' H' R' g' => p F' m' H' R' (g1.trans g')
  | ok ps A1 =>
    rw [z] at p
    intro vs F2 m2 H2 R2 g2 rp
    simp only [RE.bind] at p
    split at p
    · rename_i hk
      rw [Bool.and_eq_true, decide_eq_true_eq] at hk
      obtain ⟨kvs, e1, h2⟩ := repP_keys rp hk.1
      have hD : H2 q = some (.dK []) := g2.kp q _ upd_same (R.out hq) (by intro _ z; cases z)
      refine ⟨hD, kvs, e1, by rw [h2.length]; exact hk.2, ?_⟩
      have nm : q ∉ m2 := fun z => by
        rcases g2.gm q z with y | y
        · exact R.out hq y
        · exact y.no upd_same trivial
      have nF : F2 q = none := by
        cases w : F2 q with
        | none => rfl
        | some _ =>
          rcases g2.gn q (by rw [w]; simp) with y | y | ⟨xs, y⟩
          · exact absurd (R.fh.back hq) y
          · exact (y.no upd_same trivial).elim
          · have := R2.fh q _ y
            rw [hD] at this; cases this
      have gA : Stp F m H F2 m2 H2 := g1.trans g2
      have R3 : Rl K ca F2 m2 A1 (upd H2 q (.dK (L2.mergeK [] kvs))) := ⟨R2.fh.right nF, R2.len, R2.nd, R2.fr, fun j o b h1 h2 => (R2.ob j o b h1 h2).mono (Ex.refl _) (Pre.refl _) fun w hw => by
        rw [upd_ne fun z => nm (by rw [← z]; exact List.mem_of_getElem? h2)]; exact hw, tabs_upd R2.tb hD trivial, R2.ft⟩
      have R4 := R3.take (o := .dic false false (kmerge [] ps)) nm nF ⟨_, upd_same, (kmerge_rep h2 .nil).mono (Ex.refl _) ⟨_, rfl⟩⟩
      refine p (.ref q) F2 (m2 ++ [q]) _ R4 ⟨gA.ff, gA.mm.trans ⟨_, rfl⟩, fun b w hb n nt => ?_, gA.gn, fun b hb => ?_, fun b hb => ?_, fun b od w hb => ?_⟩ (.ref (by rw [List.getElem?_append_right (by rw [R2.len]; exact Nat.le_refl _), R2.len]; simp))
      · rw [upd_ne fun z => by rw [z, hq] at hb; cases hb]; exact gA.kp b w hb n nt
      · rcases List.mem_append.mp hb with y | y
        · exact gA.gm b y
        · rw [List.mem_singleton] at y; rw [y]; exact .inr (.none hq)
      · by_cases w : b = q
        · rw [w]; exact .none hq
        · exact gA.th b (hb.back fun u hu => by rw [upd_ne w]; exact hu)
      · rw [upd_ne fun z => by rw [z, hq] at hb; cases hb]; exact gA.fz b od w hb
    · exact p.elim
/-! ### op= -/
def oIAdd (x y : D) (A : Hs) : RE D := match x, y with
  | .int i, .int j => .ok (.int (i + j)) A
  | .str z, .str w => if z.length + w.length ≤ sizeLine then .ok (.str (z ++ w)) A else .stuck
  | .tup l, .tup k => if l ≠ [] ∧ l.length + k.length ≤ sizeLine then .ok (.tup (l ++ k)) A else .stuck
  | .ref i, .ref j => match A[i]?, A[j]? with
    | some (.lst l), some (.lst k) => if l.length + k.length ≤ sizeLine then .ok (.ref i) (A.set i (.lst (l ++ k))) else .stuck
    | _, _ => .stuck
  | _, _ => .stuck
/-! ### d[k] op= e, xs[i] op= e -/
/-- a dict's item -/
def sDAugP (op : D → D → Hs → RE D) (o i a : E) : S := fun env A => ofE env (o env A) fun x A1 => ofE env (i env A1) fun y A2 => ofE env (oDGet x y A2) fun z A3 => ofE env (a env A3) fun v A4 => ofE env (op z v A4) fun r A5 => if isLst A5 x then .stuck else ofH env (setIt A5 x y r)
/-- a list's item, by a place from 0 on -/
def getN (A : Hs) (x y : D) : Option D := match seqL A x, y with
  | some l, .int i => if 0 ≤ i then l[i.toNat]? else none
  | _, _ => none
def sLAugP (op : D → D → Hs → RE D) (o i a : E) : S := fun env A => ofE env (o env A) fun x A1 => ofE env (i env A1) fun y A2 => match getN A2 x y with
  | some z => ofE env (a env A2) fun v A4 => ofE env (op z v A4) fun r A5 => if isLst A5 x then ofH env (setIt A5 x y r) else .stuck
  | none => .stuck
/-! ### min of three -/
def c3 (f : D → D → D → Hs → RE D) : List D → Hs → RE D := fun ds A => match ds with
  | [d, e, g] => f d e g A
  | _ => .stuck
def oMin3 (x y z : D) (A : Hs) : RE D := match x, y, z with
  | .int i, .int j, .int k => .ok (.int (min (min i j) k)) A
  | _, _, _ => .stuck
end
end SM

/-! ## equations for the plain functions -/
namespace SM
open PySem L2
section
variable {α β : Type} {A A1 A2 A3 : Hs} {env e1 e2 : Sl} {a b c o v : E} {as : As} {d d1 d2 x y z : D} {i j k n : Nat} {p q r : Int} {C : String} {f g : S} {F : Fn} {cs os xs : List String} {tb : List (String × String × Bool)} {l l1 l2 : List D} {fs : List (String × D)}
theorem z1s {f : α → Hs → RE β} : (RE.exc C A : RE α).bind f = .exc C A := rfl
theorem z09 {f : α → Hs → RE β} : (RE.stuck : RE α).bind f = .stuck := rfl
theorem z6d {x : α} : (RE.ok x A).noX = .ok x A := rfl
theorem z3q : (RE.exc C A : RE α).noX = .stuck := rfl
theorem z69 {e : Sl} : eVar 0 (some d :: e) A = .ok d A := rfl
theorem z5i {e : Sl} {s : Option D} : eVar (n + 1) (s :: e) A = eVar n e A := rfl
theorem eC_ : eC d env A = .ok d A := rfl
theorem z9s {o : D → D → Hs → RE D} : eOp o a b env A = (a env A).bind fun x A1 => (b env A1).bind fun y A2 => o x y A2 := rfl
theorem zbb {o : D → Hs → RE D} : eUn o a env A = (a env A).bind fun x A1 => o x A1 := rfl
theorem z8r : aNil env A = .ok [] A := rfl
theorem z5o : aCons a as env A = (a env A).bind fun x A1 => (as env A1).bind fun xs A2 => .ok (x :: xs) A2 := rfl
theorem z9p {f : List D → Hs → RE D} : eCB f as env A = (as env A).bind f := rfl
theorem z68 : eCall F as env A = (as env A).bind F := rfl
theorem z4q : eCall0 F as env A = (as env A).bind fun ds A1 => (F ds A1).noX := rfl
theorem c1_ {f : D → Hs → RE D} : c1 f [d] A = f d A := rfl
theorem c2_ {f : D → D → Hs → RE D} : c2 f [d, d1] A = f d d1 A := rfl
theorem c3_ {f : D → D → D → Hs → RE D} : c3 f [d, d1, d2] A = f d d1 d2 A := rfl
/-- a truth, or stuck -/
def bl_ {α : Type} (r : RE D) (k : Bool → Hs → RE α) : RE α := match r with
  | .ok (.bl c) A => k c A
  | .ok _ _ => .stuck
  | .exc C A => .exc C A
  | .stuck => .stuck
theorem z7d {c : Bool} {k : Bool → Hs → RE α} : bl_ (.ok (.bl c) A) k = k c A := rfl
theorem z63 {k : Bool → Hs → RE α} : bl_ (.exc C A) k = .exc C A := rfl
theorem z8q : eAnd a b env A = bl_ (a env A) fun c A1 => if c = true then b env A1 else .ok (.bl false) A1 := by
  unfold eAnd bl_ RE.bind
  cases a env A with
  | ok x A1 => cases x with
    | bl c => cases c <;> rfl
    | _ => rfl
  | _ => rfl
theorem z9i : eOr a b env A = bl_ (a env A) fun c A1 => if c = true then .ok (.bl true) A1 else b env A1 := by
  unfold eOr bl_ RE.bind
  cases a env A with
  | ok x A1 => cases x with
    | bl c => cases c <;> rfl
    | _ => rfl
  | _ => rfl
theorem z99 : eNot a env A = bl_ (a env A) fun c A1 => .ok (.bl (!c)) A1 := by
  unfold eNot bl_ RE.bind
  cases a env A with
  | ok x A1 => cases x <;> rfl
  | _ => rfl
theorem z9r {o o' : D → D → Hs → RE D} : eCh o o' a b c env A = (a env A).bind fun x A1 => (b env A1).bind fun y A2 => bl_ (o x y A2) fun k A3 => if k = true then (c env A3).bind fun w A4 => o' y w A4 else .ok (.bl false) A3 := by
  unfold eCh bl_ RE.bind
  cases a env A with
  | ok x A1 =>
    simp only
    cases b env A1 with
    | ok y A2 =>
      simp only
      cases o x y A2 with
      | ok z A3 => cases z with
        | bl k => cases k <;> rfl
        | _ => rfl
      | _ => rfl
    | _ => rfl
  | _ => rfl
theorem za1 : tOf a env A = bl_ (a env A) fun c A1 => .ok c A1 := by
  unfold tOf bl_ RE.bind
  cases a env A with
  | ok x A1 => cases x <;> rfl
  | _ => rfl
theorem za2 {s t : Tt} : tAn s t env A = (s env A).bind fun c A1 => if c = true then t env A1 else .ok false A1 := rfl
theorem zba {s t : Tt} : tOo s t env A = (s env A).bind fun c A1 => if c = true then .ok true A1 else t env A1 := rfl
theorem za3 {s : Tt} : tNo s env A = (s env A).bind fun c A1 => .ok (!c) A1 := rfl
theorem zaz : tYe env A = .ok true A := rfl
theorem zb3 {s : Tt} : eIf s a b env A = (s env A).bind fun c A1 => if c = true then a env A1 else b env A1 := rfl
theorem z82 : eTup as env A = (as env A).bind fun ds A1 => if ds.length ≤ sizeLine then .ok (.tup ds) A1 else .stuck := rfl
theorem z7s : eLst as env A = (as env A).bind fun ds A1 => if ds.length ≤ sizeLine then .ok (.ref A1.length) (A1 ++ [.lst ds]) else .stuck := rfl
theorem z0a {n : Nat} (h : n ≤ 16000000) : n ≤ sizeLine := by rw [sizeLine_eq]; omega
theorem small_line' {n : Nat} (h : n < 16000000) : n < sizeLine := by rw [sizeLine_eq]; omega
theorem z5p {t : Bool} : eDNew t env A = .ok (.ref A.length) (A ++ [.dic t false []]) := rfl
theorem zai : oNo env A = .ok none A := rfl
def int_ {α : Type} (r : RE D) (k : Int → Hs → RE α) : RE α := match r with
  | .ok (.int c) A => k c A
  | .ok _ _ => .stuck
  | .exc C A => .exc C A
  | .stuck => .stuck
theorem z6j {c : Int} {k : Int → Hs → RE α} : int_ (.ok (.int c) A) k = k c A := rfl
theorem z9x : oSo a env A = int_ (a env A) fun c A1 => .ok (some c) A1 := by
  unfold oSo int_ RE.bind
  cases a env A with
  | ok x A1 => cases x <;> rfl
  | _ => rfl
theorem zb5 {o : D → Option Int → Option Int → Hs → RE D} {lo hi : Sl → Hs → RE (Option Int)} : eSl o a lo hi env A = (a env A).bind fun x A1 => (lo env A1).bind fun l A2 => (hi env A2).bind fun h A3 => o x l h A3 := rfl
/-! statements -/
def seqR (r : RS) (b : S) : RS := match r with
  | .nx env' A' => b env' A'
  | r => r
theorem z78 : seqR (.rt d A) g = .rt d A := rfl
theorem z4s : seqR (.exc C env A) g = .exc C env A := rfl
theorem z59 : seqR (.bk env A) g = .bk env A := rfl
theorem z5c : seqR (.ct env A) g = .ct env A := rfl
theorem z1m : seqR .stuck g = .stuck := rfl
theorem zb6 : sNx env A = .nx env A := rfl
theorem zav : sBk env A = .bk env A := rfl
theorem zaj : sCt env A = .ct env A := rfl
theorem z3k : sRaise C env A = .exc C env A := rfl
theorem z6v {k : D → Hs → RS} : ofE env (.ok d A) k = k d A := rfl
theorem z3g {k : D → Hs → RS} : ofE env (.exc C A) k = .exc C env A := rfl
theorem z4z {c : Bool} {k : Bool → Hs → RS} : ofT env (.ok c A) k = k c A := rfl
theorem z39 {k : Bool → Hs → RS} : ofT env (.exc C A) k = .exc C env A := rfl
theorem z61 : sDrop a env A = ofE env (a env A) fun _ A1 => .nx env A1 := rfl
theorem z8u : sRet a env A = ofE env (a env A) fun d A1 => .rt d A1 := rfl
theorem z58 : sRetN env A = .rt .non A := rfl
theorem zao {t : Tt} : sIf t f g env A = ofT env (t env A) fun c A1 => if c = true then f env A1 else g env A1 := rfl
theorem z7y : sSet i a env A = ofE env (a env A) fun d A1 => .nx (env.set i (some d)) A1 := rfl
def ofS (r : Option Sl) (A : Hs) : RS := match r with
  | some env' => .nx env' A
  | none => .stuck
theorem z2l : ofS (some env) A = .nx env A := rfl
theorem z9g {g : G} : sAsg a g env A = ofE env (a env A) fun d A1 => ofS (g d env A1) A1 := by
  unfold sAsg ofS; rfl
theorem gN_ : gN i d env A = some (env.set i (some d)) := rfl
theorem z79 {gs : List G} : gT gs (.tup l) env A = gAll gs l env A := rfl
theorem z30 : gAll [] [] env A = some env := rfl
theorem z1e {g : G} {gs : List G} : gAll (g :: gs) (d :: l) env A = (g d env A).bind fun e => gAll gs l e A := by
  rw [gAll]; cases g d env A <;> rfl
def par_ (env : Sl) (i j : Nat) (r : RE (List D)) : RS := match r with
  | .ok [x, y] A1 => .nx ((env.set i (some x)).set j (some y)) A1
  | .exc C A1 => .exc C env A1
  | _ => .stuck
theorem z8d : sPar i j as env A = par_ env i j (as env A) := rfl
theorem z6o : par_ env i j (.ok [x, y] A) = .nx ((env.set i (some x)).set j (some y)) A := rfl
def var_ (env : Sl) (i : Nat) (k : D → RS) : RS := match env[i]? with
  | some (some x) => k x
  | _ => .stuck
theorem z86 {e : Sl} {k : D → RS} : var_ (some d :: e) 0 k = k d := rfl
theorem z8s {e : Sl} {s : Option D} {k : D → RS} : var_ (s :: e) (n + 1) k = var_ e n k := rfl
theorem z7n {o : D → D → Hs → RE D} : sAug i o a env A = var_ env i fun x => ofE env (a env A) fun y A1 => ofE env (o x y A1) fun z A2 => .nx (env.set i (some z)) A2 := rfl
def finR (r : RS) : RE D := match r with
    | .nx _ A' => .ok .non A'
    | .rt d A' => .ok d A'
    | .exc C _ A' => .exc C A'
    | _ => .stuck
theorem z6q : finR (.nx env A) = .ok .non A := rfl
theorem z57 : finR (.rt d A) = .ok d A := rfl
theorem z3o : finR (.exc C env A) = .exc C A := rfl
theorem z0t : finR .stuck = .stuck := rfl
theorem z9a (h : l.length = n) : mkFn n k f l A = finR (f (l.map some ++ List.replicate (k - n) none) A) := by
  unfold mkFn; rw [if_pos h]; unfold finR; rfl
theorem z8y {e : Sl} {s t : Option D} : List.set (s :: e) 0 t = t :: e := rfl
theorem z7m {e : Sl} {s t : Option D} : List.set (s :: e) (n + 1) t = s :: List.set e n t := rfl
/-! operators -/
theorem z5z : oAdd (.int p) (.int q) A = .ok (.int (p + q)) A := rfl
theorem z53 (h : l.length + l1.length ≤ 16000000) : oAdd (.tup l) (.tup l1) A = .ok (.tup (l ++ l1)) A := by
  unfold oAdd; simp only; rw [if_pos (z0a h)]
theorem z6b {s t : Str} (h : s.length + t.length ≤ 16000000) : oAdd (.str s) (.str t) A = .ok (.str (s ++ t)) A := by
  unfold oAdd; simp only; rw [if_pos (z0a h)]
theorem z70 : oSub (.int p) (.int q) A = .ok (.int (p - q)) A := rfl
theorem z6a (h : -18446744073709551616 < q ∧ q < 18446744073709551616) : oMul (.int p) (.int q) A = .ok (.int (p * q)) A := by
  unfold oMul; simp only; rw [if_pos (.inl (.inr ⟨by have := h.1; omega, by have := h.2; omega⟩))]
theorem z5v (h : -18446744073709551616 < p ∧ p < 18446744073709551616) : oMul (.int p) (.int q) A = .ok (.int (p * q)) A := by
  unfold oMul; simp only; rw [if_pos (.inl (.inl ⟨by have := h.1; omega, by have := h.2; omega⟩))]
theorem z6l (h : l.length ≤ 1000 ∧ -1000 ≤ q ∧ q ≤ 4000) : oMul (.tup l) (.int q) A = .ok (.tup (List.replicate q.toNat l).flatten) A := by
  unfold oMul; simp only; rw [if_pos h]
theorem log_small {q : Int} (h : 0 < q ∧ q < 18446744073709551616) : q.natAbs.log2 < 9000 := by
  have : q.natAbs < 2 ^ 64 := by omega
  by_cases z : q.natAbs = 0
  · rw [z]; decide
  · have := (Nat.log2_lt z).mpr this; omega
theorem z6r (h : 0 < q ∧ q < 18446744073709551616) : oDiv (.int p) (.int q) A = .ok (.int (p / q)) A := by
  unfold oDiv oII; simp only; rw [if_pos ⟨h.1, log_small h⟩]
theorem z5n (h : 0 < q) : oMod (.int p) (.int q) A = .ok (.int (p % q)) A := by
  unfold oMod oII; simp only; rw [if_pos h]
theorem z5g (h : 0 ≤ q ∧ q ≤ 1000000 ∧ p.natAbs < 18446744073709551616) : oPow (.int p) (.int q) A = .ok (.int (p ^ q.toNat)) A := by
  unfold oPow oII; simp only; rw [if_pos ⟨h.1, h.2.1, by have := h.2.2; omega⟩]
theorem z7b : oLt (.int p) (.int q) A = .ok (.bl (decide (p < q))) A := rfl
theorem z9e : oLe (.int p) (.int q) A = .ok (.bl (decide (p ≤ q))) A := rfl
theorem z8t : oGt (.int p) (.int q) A = .ok (.bl (decide (q < p))) A := rfl
theorem z8p : oGe (.int p) (.int q) A = .ok (.bl (decide (q ≤ p))) A := rfl
theorem z6k : oNeg (.int p) A = .ok (.int (-p)) A := rfl
theorem z4i : oMax2 (.int p) (.int q) A = .ok (.int (max p q)) A := by
  show RE.ok (D.int (if q > p then q else p)) A = _
  congr 2; omega
theorem z3x : oMin2 (.int p) (.int q) A = .ok (.int (min p q)) A := by
  show RE.ok (D.int (if q < p then q else p)) A = _
  congr 2; omega
theorem z3i : oMin3 (.int p) (.int q) (.int r) A = .ok (.int (min (min p q) r)) A := rfl
theorem z5f : oInt (.int p) A = .ok (.int p) A := rfl
theorem z54 {b : Bool} : oInt (.bl b) A = .ok (.int (if b then 1 else 0)) A := rfl
theorem z8o : oEq (.int p) (.int q) A = .ok (.bl (decide (p = q))) A := by
  unfold oEq oB eqA; simp [pyA, PyData.eqv]; rfl
theorem z8l : oNe (.int p) (.int q) A = .ok (.bl (!decide (p = q))) A := by
  unfold oNe oB eqA; simp [pyA, PyData.eqv]; rfl
theorem z46 {s t : Str} : oEq (.str s) (.str t) A = .ok (.bl (decide (s = t))) A := by
  unfold oEq oB eqA; simp [pyA, PyData.eqv]; rfl
theorem z44 {s t : Str} : oNe (.str s) (.str t) A = .ok (.bl (!decide (s = t))) A := by
  unfold oNe oB eqA; simp [pyA, PyData.eqv]; rfl
theorem z89 {s t : String} : oEq (dS s) (dS t) A = .ok (.bl (decide (s = t))) A := by
  unfold dS; rw [z46]; congr 3; exact propext fS_inj
theorem z83 {s t : String} : oNe (dS s) (dS t) A = .ok (.bl (!decide (s = t))) A := by
  unfold dS; rw [z44]; congr 4; exact propext fS_inj
theorem eqA_of {b : Bool} (h : eqA A x y = some b) : oEq x y A = .ok (.bl b) A := by unfold oEq oB; rw [h]
theorem neA_of {b : Bool} (h : eqA A x y = some b) : oNe x y A = .ok (.bl (!b)) A := by unfold oNe oB; simp only [h]; rfl
theorem z3v : oIs x .non A = .ok (.bl (isNon x)) A := rfl
theorem z0c : oIsNot x .non A = .ok (.bl (!isNon x)) A := rfl
theorem z5w {b c : Bool} : oIs (.bl b) (.bl c) A = .ok (.bl (decide (b = c))) A := rfl
theorem z1k {b c : Bool} : oIsNot (.bl b) (.bl c) A = .ok (.bl (!decide (b = c))) A := rfl
theorem z0r : isNon .non = true := rfl
theorem z0x : isNon (.int p) = false := rfl
theorem z1t {b : Bool} : isNon (.bl b) = false := rfl
theorem z1a : isNon (.ref i) = false := rfl
theorem z1b : isNon (.tup l) = false := rfl
theorem z1p {s : Str} : isNon (.str s) = false := rfl
theorem z1v {s : String} : isNon (dS s) = false := rfl
theorem z0q : isNon (.exc C) = false := rfl
theorem z0p : oIsi os xs tb (.int p) (.ty "int") A = .ok (.bl true) A := rfl
theorem z0d : oIsi os xs tb (.int p) (.ty "bool") A = .ok (.bl false) A := rfl
theorem z14 {b : Bool} : oIsi os xs tb (.bl b) (.ty "int") A = .ok (.bl true) A := rfl
theorem z0o {b : Bool} : oIsi os xs tb (.bl b) (.ty "bool") A = .ok (.bl true) A := rfl
theorem z19 : oIsi os xs tb .non (.ty "int") A = .ok (.bl false) A := rfl
theorem z0f : oIsi os xs tb .non (.ty "bool") A = .ok (.bl false) A := rfl
theorem z0v : oIsi os xs tb .non (.ty "str") A = .ok (.bl false) A := rfl
theorem z06 : oIsi os xs tb .non (.ty "tuple") A = .ok (.bl false) A := rfl
theorem z0n : oIsi os xs tb .non (.ty "list") A = .ok (.bl false) A := rfl
theorem z0z {s : Str} : oIsi os xs tb (.str s) (.ty "int") A = .ok (.bl false) A := rfl
theorem z0l {s : Str} : oIsi os xs tb (.str s) (.ty "bool") A = .ok (.bl false) A := rfl
theorem z0u {s : Str} : oIsi os xs tb (.str s) (.ty "str") A = .ok (.bl true) A := rfl
theorem z03 {s : Str} : oIsi os xs tb (.str s) (.ty "tuple") A = .ok (.bl false) A := rfl
theorem z1j : oIsi os xs tb (.tup l) (.ty "int") A = .ok (.bl false) A := rfl
theorem z0k : oIsi os xs tb (.tup l) (.ty "bool") A = .ok (.bl false) A := rfl
theorem z01 : oIsi os xs tb (.tup l) (.ty "tuple") A = .ok (.bl true) A := rfl
theorem z0g : oIsi os xs tb (.tup l) (.ty "list") A = .ok (.bl false) A := rfl
theorem z1c : oIsi os xs tb (.tup l) (.ty "str") A = .ok (.bl false) A := rfl
theorem z05 : oIsi os xs tb (.int p) (.ty "tuple") A = .ok (.bl false) A := rfl
theorem z0w : oIsi os xs tb (.int p) (.ty "str") A = .ok (.bl false) A := rfl
theorem z0m : oIsi os xs tb (.int p) (.ty "list") A = .ok (.bl false) A := rfl
theorem z07 {b : Bool} : oIsi os xs tb (.bl b) (.ty "tuple") A = .ok (.bl false) A := rfl
theorem z12 {b : Bool} : oIsi os xs tb (.bl b) (.ty "str") A = .ok (.bl false) A := rfl
/-! the heap -/
theorem z22 : seqL A (.scr l) = some l := rfl
theorem z2r : seqL A (.tup l) = none := rfl
theorem z2c {s : Str} : seqL A (.str s) = none := rfl
theorem z5r : oLen (.tup l) A = .ok (.int l.length) A := rfl
theorem z5e {s : Str} (h : s.length ≤ 16000000) : oLen (.str s) A = .ok (.int s.length) A := by
  unfold oLen lenA; simp only [seqL, seqT]; rw [if_pos (z0a h)]
theorem z2k : oTuple (.tup l) A = .ok (.tup l) A := rfl
theorem z3t : oList (.tup l) A = .ok (.ref A.length) (A ++ [.lst l]) := rfl
theorem z8f {lo hi : Option Int} : oSl (.tup l) lo hi A = .ok (.tup (cutD l lo hi)) A := rfl
def fld_ (r : Option D) (A : Hs) : RE D := match r with
  | some d => .ok d A
  | none => .stuck
theorem z2q : fld_ (some d) A = .ok d A := rfl
theorem z7o {f : String} : eFld cs f a env A = (a env A).bind fun x A1 => fld_ (getFld cs f A1 x) A1 := rfl
theorem zb1 {f : String} : sFl cs f o a env A = ofE env (a env A) fun d A1 => ofE env (o env A1) fun x A2 => ofH env (setFld cs A2 x f d) := by
  unfold sFl ofH; rfl
theorem z2o : ofH env (some A) = .nx env A := rfl
theorem z4y {f : String} {op : D → D → Hs → RE D} : sFlAug cs f op o a env A = ofE env (o env A) fun x A1 => ofE env (fld_ (getFld cs f A1 x) A1) fun v A1 => ofE env (a env A1) fun y A2 => ofE env (op v y A2) fun z A3 => ofH env (setFld cs A3 x f z) := by
  unfold sFlAug ofH
  congr
  funext x A1
  cases getFld cs f A1 x <;> rfl
theorem z21 {f : String} : putF f d [] = [(f, d)] := rfl
theorem z1i {f g : String} : putF f d ((g, x) :: fs) = if g = f then (g, d) :: fs else (g, x) :: putF f d fs := rfl
theorem z3e : oIAdd (.int p) (.int q) A = .ok (.int (p + q)) A := rfl
def meth_ (r : Option Fn) (k : Fn → RE D) : RE D := match r with
  | some f => k f
  | none => .stuck
theorem z10 {k : Fn → RE D} : meth_ (some F) k = k F := rfl
theorem z5d {m : String} {t : List (String × Fn)} : eMeth m t o as env A = (o env A).bind fun x A1 => meth_ (methOf m t A1 x) fun f => (as env A1).bind fun ds A2 => f (x :: ds) A2 := by
  unfold eMeth meth_; rfl
theorem z4b {m : String} {t : List (String × Fn)} : eMeth0 m t o as env A = (o env A).bind fun x A1 => meth_ (methOf m t A1 x) fun f => (as env A1).bind fun ds A2 => (f (x :: ds) A2).noX := by
  unfold eMeth0 meth_; rfl
theorem make_ok {ds : List D} (h : F (.ref A.length :: ds) (A ++ [.obj C []]) = .ok .non A1) : make C F ds A = .ok (.ref A.length) A1 := by unfold make; rw [h]
theorem z55 : eMake C F as env A = (as env A).bind fun ds A1 => make C F ds A1 := rfl
theorem z4h : eMake0 C F as env A = (as env A).bind fun ds A1 => (make C F ds A1).noX := rfl
theorem z9f : sPut o b a env A = ofE env (a env A) fun v A1 => ofE env (o env A1) fun x A2 => ofE env (b env A2) fun y A3 => ofH env (setIt A3 x y v) := rfl
theorem z3l {s : String} : keyOk false (dS s) = true := rfl
theorem z3a : keyOk false (.int p) = true := rfl
theorem z5m {s t : String} : keq (dS s) (dS t) = decide (s = t) := by
  show decide (fS s = fS t) = decide (s = t)
  simp only [fS_inj]
theorem z60 : keq (.int p) (.int q) = decide (p = q) := rfl
def augL_ (env : Sl) (r : Option D) (k : D → RS) : RS := match r with
  | some z => k z
  | none => .stuck
theorem z1o {k : D → RS} : augL_ env (some d) k = k d := rfl
theorem z40 {op : D → D → Hs → RE D} : sLAugP op o b a env A = ofE env (o env A) fun x A1 => ofE env (b env A1) fun y A2 => augL_ env (getN A2 x y) fun z => ofE env (a env A2) fun v A4 => ofE env (op z v A4) fun r A5 => if isLst A5 x then ofH env (setIt A5 x y r) else .stuck := by
  unfold sLAugP augL_; rfl
theorem z4u {op : D → D → Hs → RE D} : sDAugP op o b a env A = ofE env (o env A) fun x A1 => ofE env (b env A1) fun y A2 => ofE env (oDGet x y A2) fun z A3 => ofE env (a env A3) fun v A4 => ofE env (op z v A4) fun r A5 => if isLst A5 x then .stuck else ofH env (setIt A5 x y r) := rfl
/-! methods of lists -/
theorem z9l {o : D → List D → Hs → RE D} : eBL o a as env A = (a env A).bind fun x A1 => if (seqL A1 x).isSome then (as env A1).bind fun ds A2 => o x ds A2 else .stuck := rfl
theorem z88 {o : D → Hs → RE D} : eBL0 o a env A = (a env A).bind fun x A1 => if (seqL A1 x).isSome then o x A1 else .stuck := rfl
/-! walks -/
def ofW (env : Sl) (r : RE Wk) (k : Wk → Hs → RS) : RS := match r with
  | .ok w A => k w A
  | .exc C A => .exc C env A
  | .stuck => .stuck
theorem z5a {w : Wk} {k : Wk → Hs → RS} : ofW env (.ok w A) k = k w A := rfl
theorem z7h {w : Sl → Hs → RE Wk} {g : G} : sFor w g f env A = ofW env (w env A) fun k A1 => forL g f k.gd k.ds env A1 := by unfold sFor ofW; rfl
def wk_ (r : Option Wk) (A : Hs) : RE Wk := match r with
  | some k => .ok k A
  | none => .stuck
theorem z3d {w : Wk} : wk_ (some w) A = .ok w A := rfl
theorem zaa {f : Hs → D → Option Wk} : wOf f a env A = (a env A).bind fun x A1 => wk_ (f A1 x) A1 := by unfold wOf wk_; rfl
theorem z7g : wSeq a env A = (a env A).bind fun x A1 => wk_ (wkA A1 x) A1 := zaa
theorem z9v {f : List D → Option Wk} : wAs f as env A = (as env A).bind fun x A1 => wk_ (f x) A1 := by unfold wAs wk_; rfl
theorem z4p : wkA A (.tup l) = some ⟨l, tt⟩ := rfl
theorem z4t : wkA A (.scr l) = some ⟨l, tt⟩ := rfl
theorem z49 : wkE A (.scr l) = some ⟨enumL l, tt⟩ := rfl
theorem zar (h : -4611686018427387904 ≤ p ∧ p < 4611686018427387904) : rg1 [.int p] = some ⟨rgL 0 1 p.toNat, tt⟩ := by
  unfold rg1; simp only; rw [if_pos ⟨by have := h.1; omega, by have := h.2; omega⟩]
theorem zas (h : -4611686018427387904 ≤ p ∧ p < 4611686018427387904 ∧ -4611686018427387904 ≤ q ∧ q < 4611686018427387904) : rg2 [.int p, .int q] = some ⟨rgL p 1 (q - p).toNat, tt⟩ := by
  unfold rg2; simp only; rw [if_pos ⟨⟨by have := h.1; omega, by have := h.2.1; omega⟩, ⟨by have := h.2.2.1; omega, by have := h.2.2.2; omega⟩⟩]
theorem zan (h : -1152921504606846976 ≤ p ∧ p < 1152921504606846976 ∧ -1152921504606846976 ≤ q ∧ q < 1152921504606846976 ∧ 0 < r ∧ r < 1000000) : rg3 [.int p, .int q, .int r] = some ⟨rgL p r (cnt p q r), tt⟩ := by
  unfold rg3; simp only; rw [if_pos ⟨by have := h.1; omega, by have := h.2.1; omega, by have := h.2.2.1; omega, by have := h.2.2.2.1; omega, h.2.2.2.2.1, h.2.2.2.2.2⟩]
theorem forL_nil {g : G} {gd : Hs → Prop} (h : gd A) : forL g f gd [] env A = .nx env A := by unfold forL; rw [if_pos h]
def turnR (r : RS) (k : S) : RS := match r with
  | .nx e A => k e A
  | .ct e A => k e A
  | .bk e A => .nx e A
  | r => r
theorem z3h {k : S} : turnR (.nx env A) k = k env A := rfl
theorem z42 {k : S} : turnR (.ct env A) k = k env A := rfl
theorem z4r {k : S} : turnR (.rt d A) k = .rt d A := rfl
theorem z3b {k : S} : turnR (.bk env A) k = .nx env A := rfl
theorem z1z {k : S} : turnR (.exc C env A) k = .exc C env A := rfl
theorem forL_cons {g : G} {gd : Hs → Prop} (h : gd A) (hg : g d env A = some e1) : forL g f gd (d :: l) env A = turnR (f e1 A) (forL g f gd l) := by
  rw [forL]; rw [if_pos h, hg]; rfl
/-- a for by what stays true -/
theorem for_inv {g : G} {gd : Hs → Prop} (I : Nat → Sl → Hs → Prop) (R : RS → Prop) {ds : List D} (h0 : I 0 env A) (hg : ∀ i e A, i ≤ ds.length → I i e A → gd A)
    (hs : ∀ i e A d, ds[i]? = some d → I i e A → ∃ e1, g d e A = some e1 ∧ ((∃ e2 A2, (f e1 A = .nx e2 A2 ∨ f e1 A = .ct e2 A2) ∧ I (i + 1) e2 A2) ∨ (∃ d2 A2, f e1 A = .rt d2 A2 ∧ R (.rt d2 A2)) ∨ (∃ e2 A2, f e1 A = .bk e2 A2 ∧ R (.nx e2 A2)) ∨ (∃ C e2 A2, f e1 A = .exc C e2 A2 ∧ R (.exc C e2 A2))))
    (hd : ∀ e A, I ds.length e A → R (.nx e A)) : R (forL g f gd ds env A) := by
  have main : ∀ (m : Nat) (e : Sl) (A : Hs), m ≤ ds.length → I m e A → R (forL g f gd (ds.drop m) e A) := by
    intro m
    generalize hk : ds.length - m = k
    induction k generalizing m with
    | zero =>
      intro e A hm hI
      have : m = ds.length := by omega
      subst this
      rw [List.drop_length, forL_nil (hg _ _ _ hm hI)]
      exact hd e A hI
    | succ k ih =>
      intro e A hm hI
      have hlt : m < ds.length := by omega
      rw [List.drop_eq_getElem_cons hlt]
      obtain ⟨e1, h1, h2⟩ := hs m e A ds[m] (by simp [hlt]) hI
      rw [forL_cons (hg _ _ _ hm hI) h1]
      rcases h2 with ⟨e2, A2, h2, h3⟩ | ⟨d2, A2, h2, h3⟩ | ⟨e2, A2, h2, h3⟩ | ⟨C, e2, A2, h2, h3⟩
      · rcases h2 with h2 | h2
        · rw [h2, z3h]; exact ih (m + 1) (by omega) e2 A2 (by omega) h3
        · rw [h2, z42]; exact ih (m + 1) (by omega) e2 A2 (by omega) h3
      · rw [h2]; exact h3
      · rw [h2]; exact h3
      · rw [h2]; exact h3
  have := main 0 env A (Nat.zero_le _) h0
  rwa [List.drop_zero] at this
/-- a while by what stays true and a number that falls -/
theorem wh_inv {t : Tt} (I : Nat → Sl → Hs → Prop) (R : RS → Prop) {n : Nat} (h0 : I n env A)
    (hs : ∀ n e A, I n e A → (∃ A1, t e A = .ok false A1 ∧ R (.nx e A1)) ∨ (∃ A1, t e A = .ok true A1 ∧ ((∃ e2 A2, (f e A1 = .nx e2 A2 ∨ f e A1 = .ct e2 A2) ∧ ∃ m, m < n ∧ I m e2 A2) ∨ (∃ d2 A2, f e A1 = .rt d2 A2 ∧ R (.rt d2 A2)) ∨ (∃ e2 A2, f e A1 = .bk e2 A2 ∧ R (.nx e2 A2)) ∨ (∃ C e2 A2, f e A1 = .exc C e2 A2 ∧ R (.exc C e2 A2))))) : R (sWh t f env A) := by
  induction n using Nat.strongRecOn generalizing env A with
  | _ n ih =>
    rw [sWh_turn]
    rcases hs n env A h0 with ⟨A1, h1, h2⟩ | ⟨A1, h1, h2⟩
    · rw [h1]; exact h2
    · rw [h1]
      simp only [ofT, if_true]
      rcases h2 with ⟨e2, A2, h2, m, hm, h3⟩ | ⟨d2, A2, h2, h3⟩ | ⟨e2, A2, h2, h3⟩ | ⟨C, e2, A2, h2, h3⟩
      · rcases h2 with h2 | h2
        · rw [h2]; exact ih m hm h3
        · rw [h2]; exact ih m hm h3
      · rw [h2]; exact h3
      · rw [h2]; exact h3
      · rw [h2]; exact h3
def lc_ (r : RE (List D)) : RE D := match r with
  | .ok l A2 => alloc A2 (.lst l)
  | _ => .stuck
theorem z91 : lc_ (.ok l A) = .ok (.ref A.length) (A ++ [.lst l]) := rfl
theorem zb0 {w : Sl → Hs → RE Wk} {g : G} {t : Tt} {vs : List Nat} : eLc w g t a vs env A = (w env A).bind fun k A1 => lc_ (lcL g t a k.gd (wipeS env vs) k.ds [] A1) := by unfold eLc lc_; rfl
/-- a comprehension whose parts leave the heap as it is -/
theorem lc_pure {g : G} {t : Tt} {gd : Hs → Prop} (p : D → Bool) (h : D → D) {ds acc : List D} (hgd : gd A) (hl : acc.length + ds.length < 16000000)
    (hs : ∀ d ∈ ds, ∃ e1, g d env A = some e1 ∧ t e1 A = .ok (p d) A ∧ (p d = true → a e1 A = .ok (h d) A)) : lcL g t a gd env ds acc A = .ok (acc ++ (ds.filter p).map h) A := by
  induction ds generalizing acc with
  | nil => rw [lcL, if_pos hgd]; simp
  | cons d ds ih =>
    obtain ⟨e1, h1, h2, h3⟩ := hs d List.mem_cons_self
    rw [lcL, if_pos hgd, h1]
    simp only [h2]
    cases q : p d with
    | false =>
      simp only
      rw [ih (by rw [List.length_cons] at hl; omega) fun d' hd => hs d' (List.mem_cons_of_mem _ hd), List.filter_cons, q]
      rfl
    | true =>
      simp only [h3 q]
      rw [if_pos (small_line' (by rw [List.length_cons] at hl; omega)), ih (by rw [List.length_cons] at hl; rw [List.length_append, List.length_singleton]; omega) fun d' hd => hs d' (List.mem_cons_of_mem _ hd), List.filter_cons, q]
      simp
end
end SM

/-! ## frames, equal data, slices -/
namespace SM
open PySem L2
section
variable {α β : Type} {A A1 A2 A3 : Hs} {env e1 e2 : Sl} {a b c o v : E} {as : As} {d d1 d2 x y z : D} {i j k n : Nat} {p q r : Int} {C : String} {f g : S} {F : Fn} {cs os xs : List String} {tb : List (String × String × Bool)} {l l1 l2 : List D} {fs : List (String × D)} {s s1 s2 : List Nat} {u u1 u2 : O}
/-- what a piece of code leaves alone -/
def Fr (s : List Nat) (A A1 : Hs) : Prop := A.length ≤ A1.length ∧ ∀ j, j < A.length → j ∉ s → A1[j]? = A[j]?
theorem Fr.refl : Fr s A A := ⟨Nat.le_refl _, fun _ _ _ => rfl⟩
theorem Fr.trans (h : Fr s A A1) (k : Fr s A1 A2) : Fr s A A2 := ⟨Nat.le_trans h.1 k.1, fun j hj hn => (k.2 j (Nat.lt_of_lt_of_le hj h.1) hn).trans (h.2 j hj hn)⟩
theorem Fr.mono (h : Fr s A A1) (hs : ∀ j ∈ s, j ∈ s2) : Fr s2 A A1 := ⟨h.1, fun j hj hn => h.2 j hj fun h3 => hn (hs j h3)⟩
theorem lt_of_get {α : Type} {A : List α} {u : α} (h : A[i]? = some u) : i < A.length := by
  rcases Nat.lt_or_ge i A.length with h1 | h1
  · exact h1
  · rw [List.getElem?_eq_none h1] at h; cases h
theorem Fr.get (h : Fr s A A1) (g : A[j]? = some u) (hn : j ∉ s) : A1[j]? = some u := (h.2 j (lt_of_get g) hn).trans g
theorem Fr.le (h : Fr s A A1) : A.length ≤ A1.length := h.1
theorem Fr.set (h : i ∈ s) : Fr s A (A.set i u) := ⟨by simp, fun j hj hn => List.getElem?_set_ne fun (e : i = j) => hn (e ▸ h)⟩
theorem Fr.push : Fr s A (A ++ [u]) := ⟨by simp, fun j hj hn => by rw [List.getElem?_append_left hj]⟩
theorem Fr.then_set (h : Fr s A A1) (hi : i ∈ s ∨ A.length ≤ i) : Fr s A (A1.set i u) := ⟨by simpa using h.1, fun j hj hn => by
  rw [List.getElem?_set_ne fun (e : i = j) => hi.elim (fun h2 => hn (e ▸ h2)) fun h2 => by omega]
  exact h.2 j hj hn⟩
theorem Fr.then_push (h : Fr s A A1) : Fr s A (A1 ++ [u]) := h.trans .push
theorem get_push (h : A[j]? = some u1) : (A ++ [u])[j]? = some u1 := (List.getElem?_append_left (lt_of_get h)).trans h
theorem z2p : (A.set i u).set i u1 = A.set i u1 := List.set_set ..
theorem z43 : (A.set i u).length = A.length := by simp
/-! data without a heap -/
def pd : Nat → D → Bool
  | _, .non => true
  | _, .bl _ => true
  | _, .int _ => true
  | _, .str _ => true
  | n + 1, .tup l => l.all (pd n)
  | n + 1, .scr l => l.all (pd n)
  | n + 1, .wt l => l.all (pd n)
  | _, _ => false
theorem pd_int : pd n (.int p) = true := by cases n <;> rfl
theorem pd_ints {ns : List Int} : (ns.map D.int).all (pd n) = true := by
  rw [List.all_eq_true]; intro d hd; obtain ⟨i, _, rfl⟩ := List.mem_map.mp hd; exact pd_int
theorem pd_py : ∀ {n : Nat} {d : D}, pd n d = true → ∃ p, p.plain = true ∧ ∀ A, pyA A n d = some p := by
  intro n
  induction n with
  | zero =>
    intro d h
    cases d with
    | non => exact ⟨.none, rfl, fun A => by simp [pyA]⟩
    | bl b => exact ⟨.bool b, rfl, fun A => by simp [pyA]⟩
    | int b => exact ⟨.int b, rfl, fun A => by simp [pyA]⟩
    | str b => exact ⟨.str b, rfl, fun A => by simp [pyA]⟩
    | _ => cases h
  | succ n ih =>
    have all : ∀ {l : List D}, l.all (pd n) = true → ∃ ps, PyData.plainAll ps = true ∧ ∀ A, allSome (l.map (pyA A n)) = some ps := by
      intro l
      induction l with
      | nil => intro _; exact ⟨[], rfl, fun A => rfl⟩
      | cons d l il =>
        intro h
        rw [List.all_cons, Bool.and_eq_true] at h
        obtain ⟨p, h0, h1⟩ := ih h.1
        obtain ⟨ps, h2, h3⟩ := il h.2
        refine ⟨p :: ps, by simp [PyData.plainAll, h0, h2], fun A => ?_⟩
        rw [List.map_cons, h1 A, allSome, h3 A]; rfl
    intro d h
    cases d with
    | tup l =>
      obtain ⟨ps, h1, h2⟩ := all h
      exact ⟨.tuple ps, by simpa [PyData.plain] using h1, fun A => by rw [pyA, h2 A]; rfl⟩
    | wt l =>
      obtain ⟨ps, h1, h2⟩ := all h
      exact ⟨.tuple ps, by simpa [PyData.plain] using h1, fun A => by rw [pyA, h2 A]; rfl⟩
    | scr l =>
      obtain ⟨ps, h1, h2⟩ := all h
      exact ⟨.list ps, by simpa [PyData.plain] using h1, fun A => by rw [pyA, h2 A]; rfl⟩
    | non => exact ⟨.none, rfl, fun A => by simp [pyA]⟩
    | bl b => exact ⟨.bool b, rfl, fun A => by simp [pyA]⟩
    | int b => exact ⟨.int b, rfl, fun A => by simp [pyA]⟩
    | str b => exact ⟨.str b, rfl, fun A => by simp [pyA]⟩
    | _ => cases h
theorem pd_all : ∀ {l : List D}, l.all (pd n) = true → ∃ ps, PyData.plainAll ps = true ∧ ∀ A, allSome (l.map (pyA A n)) = some ps := by
  intro l
  induction l with
  | nil => intro _; exact ⟨[], rfl, fun A => rfl⟩
  | cons d l il =>
    intro h
    rw [List.all_cons, Bool.and_eq_true] at h
    obtain ⟨p, h0, h1⟩ := pd_py h.1
    obtain ⟨ps, h2, h3⟩ := il h.2
    refine ⟨p :: ps, by simp [PyData.plainAll, h0, h2], fun A => ?_⟩
    rw [List.map_cons, h1 A, allSome, h3 A]; rfl
/-- two values that read the same -/
theorem eqA_same {P : PyData} (hp : P.plain = true) (h : pyA A 40 x = some P) (k : pyA A 40 y = some P) : eqA A x y = some true := by
  unfold eqA; rw [h, k]; simp only; rw [PySem.SeqAt.eqv_refl_plain _ hp]
theorem eqA_pd (h : pd 40 x = true) : eqA A x x = some true := by
  obtain ⟨P, h1, h2⟩ := pd_py h
  exact eqA_same h1 (h2 A) (h2 A)
theorem py_lst (h : A[i]? = some (.lst l)) : pyA A (n + 1) (.ref i) = (allSome (l.map (pyA A n))).map .list := by
  rw [pyA]; simp only [h]
theorem eqA_lst (h : A[i]? = some (.lst l)) (k : A[j]? = some (.lst l)) (hp : l.all (pd 39) = true) : eqA A (.ref i) (.ref j) = some true := by
  obtain ⟨ps, h1, h2⟩ := pd_all hp
  refine eqA_same (P := .list ps) (by simpa [PyData.plain] using h1) ?_ ?_
  · rw [py_lst h, h2 A]; rfl
  · rw [py_lst k, h2 A]; rfl
theorem oNe_pd (h : pd 40 x = true) : oNe x x A = .ok (.bl false) A := neA_of (eqA_pd h)
theorem oEq_lst (h : A[i]? = some (.lst l)) (k : A[j]? = some (.lst l)) (hp : l.all (pd 39) = true) : oEq (.ref i) (.ref j) A = .ok (.bl true) A := eqA_of (eqA_lst h k hp)
theorem oNe_lst (h : A[i]? = some (.lst l)) (k : A[j]? = some (.lst l)) (hp : l.all (pd 39) = true) : oNe (.ref i) (.ref j) A = .ok (.bl false) A := neA_of (eqA_lst h k hp)
theorem oNe_bb {b c : Bool} : oNe (.bl b) (.bl c) A = .ok (.bl (!decide (b = c))) A := by
  refine neA_of ?_
  unfold eqA; cases b <;> cases c <;> simp [pyA, PyData.eqv]
/-! slices -/
theorem sIx_some {n d : Nat} {v : Int} (h : 0 ≤ v) : HT.sIx n d (some v) = min v.toNat n := by
  obtain ⟨k, rfl⟩ := Int.eq_ofNat_of_zero_le h
  exact HT.sIx_nat n d k
theorem z6s {l : List α} : cutD l none none = l := by
  unfold cutD; rw [HT.sIx_none, HT.sIx_none]; simp
theorem z6g {l : List α} (h : 0 ≤ p) : cutD l none (some p) = l.take p.toNat := by
  unfold cutD; rw [HT.sIx_none, sIx_some h]
  rw [List.drop_zero, Nat.sub_zero, List.take_eq_take_iff]; omega
theorem z6z {l : List α} (h : 0 ≤ p) : cutD l (some p) none = l.drop p.toNat := by
  unfold cutD; rw [HT.sIx_none, sIx_some h]
  rcases Nat.le_total p.toNat l.length with q | q
  · rw [Nat.min_eq_left q, List.take_of_length_le (by rw [List.length_drop]; omega)]
  · rw [Nat.min_eq_right q, List.drop_of_length_le (Nat.le_refl _), List.drop_of_length_le q]; simp
theorem z5k {l : List α} (h : 0 ≤ p) (k : 0 ≤ q) : cutD l (some p) (some q) = (l.drop p.toNat).take (q.toNat - p.toNat) := by
  unfold cutD; rw [sIx_some h, sIx_some k]
  rcases Nat.le_total p.toNat l.length with r | r
  · rw [Nat.min_eq_left r, List.take_eq_take_iff, List.length_drop]; omega
  · rw [Nat.min_eq_right r, List.drop_of_length_le (Nat.le_refl _), List.drop_of_length_le r]; simp
theorem z73 {l : List α} (h : 0 ≤ p) : atI l p = l[p.toNat]? := by
  unfold atI ixN
  rw [if_pos h]
  by_cases k : p < l.length
  · rw [if_pos k]; rfl
  · rw [if_neg k, List.getElem?_eq_none (by omega)]; rfl
theorem ixN_nat (h : 0 ≤ p) (k : p < (n : Int)) : ixN n p = some p.toNat := by
  unfold ixN; rw [if_pos h, if_pos k]
theorem mem_rgL {lo c : Int} {n : Nat} (h : d ∈ rgL lo c n) : ∃ i : Nat, i < n ∧ d = .int (lo + i * c) := by
  unfold rgL at h; obtain ⟨i, hi, rfl⟩ := List.mem_map.mp h; exact ⟨i, List.mem_range.mp hi, rfl⟩
end
end SM

/-! ## the same, as rules that only compute (the heap's places are looked up in the term) -/
namespace SM
open PySem L2
section
variable {α β : Type} {A A1 A2 A3 : Hs} {env e1 e2 : Sl} {a b c o v : E} {as : As} {d d1 d2 x y z w : D} {i j k n : Nat} {p q r : Int} {C m : String} {f g : S} {F : Fn} {cs os xs : List String} {tb : List (String × String × Bool)} {l l1 l2 : List D} {fs : List (String × D)} {u u1 u2 : O} {lo hi : Option Int} {t lk : Bool} {kv : List (D × D)}
def sq_ : Option O → Option (List D)
  | some (.lst l) => some l
  | _ => none
theorem za6 : sq_ (some (.lst l)) = some l := rfl
theorem z5q : seqL A (.ref i) = sq_ A[i]? := by unfold seqL sq_; rfl
theorem z3m : lstAt A (.ref i) = (sq_ A[i]?).map fun l => (i, l) := by
  unfold lstAt sq_
  rcases h : A[i]? with _ | u
  · simp only [h]; rfl
  · cases u <;> simp only [h] <;> rfl
theorem z8v {α β : Type} {f : α → β} {x : α} : (some x).map f = some (f x) := rfl
def ob_ : Option O → Option (String × List (String × D))
  | some (.obj C fs) => some (C, fs)
  | _ => none
theorem zaf : ob_ (some (.obj C fs)) = some (C, fs) := rfl
theorem z4e : objAt A (.ref i) = ob_ A[i]? := by unfold objAt ob_; rfl
def gf_ (cs : List String) (f : String) : Option (String × List (String × D)) → Option D
  | some (C, fs) => if C ∈ cs then fs.lookup f else none
  | none => none
theorem zac {f : String} : gf_ cs f (some (C, fs)) = if C ∈ cs then fs.lookup f else none := rfl
theorem z27 {f : String} : getFld cs f A x = gf_ cs f (objAt A x) := by unfold getFld gf_; rfl
def sf_ (cs : List String) (A : Hs) (i : Nat) (f : String) (d : D) : Option (String × List (String × D)) → Option Hs
  | some (C, fs) => if C ∈ cs ∧ fs.length < 999 then some (A.set i (.obj C (putF f d fs))) else none
  | none => none
theorem zb8 {f : String} : sf_ cs A i f d (some (C, fs)) = if C ∈ cs ∧ fs.length < 999 then some (A.set i (.obj C (putF f d fs))) else none := rfl
theorem z2j {f : String} : setFld cs A (.ref i) f d = sf_ cs A i f d (ob_ A[i]?) := by
  unfold setFld
  rcases h : A[i]? with _ | u
  · simp only [h]; rfl
  · cases u <;> simp only [h] <;> rfl
def mo_ (m : String) (t : List (String × Fn)) : Option (String × List (String × D)) → Option Fn
  | some (C, fs) => if (fs.lookup m).isSome = true then none else t.lookup C
  | none => none
theorem z9z {t : List (String × Fn)} : mo_ m t (some (C, fs)) = if (fs.lookup m).isSome = true then none else t.lookup C := rfl
theorem z2w {t : List (String × Fn)} : methOf m t A x = mo_ m t (objAt A x) := by
  unfold methOf mo_; rfl
theorem z1w {β : Type} {f : String} : List.lookup f ([] : List (String × β)) = none := rfl
theorem z0y {β : Type} {f g : String} {x : β} {r : List (String × β)} : List.lookup f ((g, x) :: r) = if f = g then some x else List.lookup f r := by
  by_cases h : f = g
  · rw [if_pos h]; subst h; simp
  · rw [if_neg h, List.lookup, beq_false_of_ne h]
def at_ (A : Hs) : Option D → RE D
  | some d => .ok d A
  | none => .stuck
theorem z9n : at_ A (some d) = .ok d A := rfl
def ln_ (A : Hs) : Option O → RE D
  | some (.lst l) => .ok (.int l.length) A
  | some (.dic false false l) => .ok (.int l.length) A
  | _ => .stuck
theorem zam : ln_ A (some (.lst l)) = .ok (.int l.length) A := rfl
theorem z9h : ln_ A (some (.dic false false kv)) = .ok (.int kv.length) A := rfl
theorem z51 : oLen (.ref i) A = ln_ A A[i]? := by
  unfold oLen lenA; rw [z5q]
  simp only [seqT]
  rcases A[i]? with _ | u
  · rfl
  · cases u with
    | lst l => rfl
    | obj C f => rfl
    | dic t lk kv => cases t <;> cases lk <;> rfl
theorem z2x : oLen (.scr l) A = .ok (.int l.length) A := rfl
def ix_ (A : Hs) (p : Int) : Option (List D) → RE D
  | some l => at_ A (atI l p)
  | none => .stuck
theorem zap : ix_ A p (some l) = at_ A (atI l p) := rfl
theorem z8e : oIx (.ref i) (.int p) A = ix_ A p (sq_ A[i]?) := by
  unfold oIx; simp only [z5q]
  rcases h : sq_ A[i]? with _ | l
  · rfl
  · show (match atI l p with | some d => RE.ok d A | none => .stuck) = at_ A (atI l p)
    cases atI l p <;> rfl
theorem z48 : oIx (.scr l) (.int p) A = at_ A (atI l p) := by
  unfold oIx; simp only [seqL]; unfold at_; cases atI l p <;> rfl
theorem z34 : oIx (.tup l) (.int p) A = at_ A (atI l p) := by
  unfold oIx seqT; simp only [z2r]; unfold at_; cases atI l p <;> rfl
def nw_ (A : Hs) : Option (List D) → RE D
  | some l => .ok (.ref A.length) (A ++ [.lst l])
  | none => .stuck
theorem zad : nw_ A (some l) = .ok (.ref A.length) (A ++ [.lst l]) := rfl
theorem z8c : oSl (.ref i) lo hi A = nw_ A ((sq_ A[i]?).map fun l => cutD l lo hi) := by
  unfold oSl; rw [z5q]; cases sq_ A[i]? <;> rfl
theorem z3p : oSl (.scr l) lo hi A = .ok (.ref A.length) (A ++ [.lst (cutD l lo hi)]) := rfl
theorem z45 : oList (.ref i) A = nw_ A (sq_ A[i]?) := by
  unfold oList; rw [z5q]; cases sq_ A[i]? <;> rfl
theorem z0s : oList (.scr l) A = .ok (.ref A.length) (A ++ [.lst l]) := rfl
theorem z5j : oRev (.ref i) A = nw_ A ((sq_ A[i]?).map List.reverse) := by
  unfold oRev; rw [z5q]; cases sq_ A[i]? <;> rfl
def tp_ (A : Hs) : Option (List D) → RE D
  | some l => .ok (.tup l) A
  | none => .stuck
theorem za7 : tp_ A (some l) = .ok (.tup l) A := rfl
theorem z2a : oTuple (.ref i) A = tp_ A (sq_ A[i]?) := by
  unfold oTuple; rw [z5q]; cases sq_ A[i]? <;> rfl
theorem z0j : oTuple (.scr l) A = .ok (.tup l) A := rfl
def ap_ (A : Hs) (i : Nat) (l1 : List D) : Option (List D) → RE D
  | some l => if l.length + l1.length ≤ sizeLine then .ok .non (A.set i (.lst (l ++ l1))) else .stuck
  | none => .stuck
theorem zag (h : l.length + l1.length ≤ 16000000) : ap_ A i l1 (some l) = .ok .non (A.set i (.lst (l ++ l1))) := if_pos (z0a h)
theorem z1d : oAppend (.ref i) [d] A = ap_ A i [d] (sq_ A[i]?) := by
  unfold oAppend; rw [z3m]
  rcases sq_ A[i]? with _ | l
  · rfl
  · simp only [z8v, ap_, List.length_singleton]; rfl
theorem z0b : oExtend (.ref i) [.tup l1] A = ap_ A i l1 (sq_ A[i]?) := by
  unfold oExtend; rw [z3m]
  rcases sq_ A[i]? with _ | l
  · rfl
  · simp only [z8v, lstAt]; rfl
def ex_ (A : Hs) (i : Nat) (r : Option (List D)) : Option (List D) → RE D
  | some l1 => ap_ A i l1 r
  | none => .stuck
theorem za0 {r : Option (List D)} : ex_ A i r (some l1) = ap_ A i l1 r := rfl
theorem z0e : oExtend (.ref i) [.ref j] A = ex_ A i (sq_ A[i]?) (sq_ A[j]?) := by
  unfold oExtend
  rcases h : sq_ A[i]? with _ | l
  · rcases h2 : sq_ A[j]? with _ | l1 <;> simp only [z3m, h, Option.map] <;> rfl
  · rcases h2 : sq_ A[j]? with _ | l1 <;> simp only [z3m, h, h2, Option.map] <;> rfl
def cl_ (A : Hs) (i : Nat) : Option (List D) → RE D
  | some _ => .ok .non (A.set i (.lst []))
  | none => .stuck
theorem z9j : cl_ A i (some l) = .ok .non (A.set i (.lst [])) := rfl
theorem z28 : oClear (.ref i) A = cl_ A i (sq_ A[i]?) := by
  unfold oClear; rw [z3m]; cases sq_ A[i]? <;> rfl
def si_ (A : Hs) (i : Nat) (y v : D) (u : Option O) : Option Hs := match u with
    | some (.lst l) => match y with
      | .int k => match ixN l.length k with
        | some n => some (A.set i (.lst (l.set n v)))
        | none => none
      | _ => none
    | some (.dic t false l) => if keyOk t y && decide (l.length < sizeLine) then some (A.set i (.dic t false (kput l y v))) else none
    | _ => none
theorem z4f : setIt A (.ref i) y z = si_ A i y z A[i]? := rfl
theorem zb9 (h : 0 ≤ p ∧ p < (l.length : Int)) : si_ A i (.int p) z (some (.lst l)) = some (A.set i (.lst (l.set p.toNat z))) := by
  unfold si_; simp only [ixN_nat h.1 h.2]
theorem zbc (h : kv.length < 16000000) : si_ A i y z (some (.dic t false kv)) = if keyOk t y = true then some (A.set i (.dic t false (kput kv y z))) else none := by
  unfold si_; simp only [decide_eq_true (small_line' h), Bool.and_true]
def gn_ (p : Int) : Option (List D) → Option D
  | some l => if 0 ≤ p then l[p.toNat]? else none
  | none => none
theorem zat : gn_ p (some l) = if 0 ≤ p then l[p.toNat]? else none := rfl
theorem z5t : getN A (.ref i) (.int p) = gn_ p (sq_ A[i]?) := by
  unfold getN; rw [z5q]; cases sq_ A[i]? <;> rfl
def il_ : Option O → Bool
  | some (.lst _) => true
  | _ => false
theorem z9o : il_ (some (.lst l)) = true := rfl
theorem zaw : il_ (some (.dic t lk kv)) = false := rfl
theorem z3u : isLst A (.ref i) = il_ A[i]? := by unfold isLst il_; rfl
def dg_ (A : Hs) (y : D) : Option O → RE D
  | some (.dic t _ kv) => if keyOk t y = true then at_ A (kget kv y) else .stuck
  | _ => .stuck
theorem z9q : dg_ A y (some (.dic t lk kv)) = if keyOk t y = true then at_ A (kget kv y) else .stuck := rfl
theorem z31 : oDGet (.ref i) y A = dg_ A y A[i]? := by
  unfold oDGet dicAt
  rcases h : A[i]? with _ | u
  · simp only [h]; rfl
  · cases u with
    | dic t lk kv => simp only [h, dg_]; unfold at_; split <;> first | rfl | (cases kget kv y <;> rfl)
    | _ => simp only [h]; rfl
def wl_ (A : Hs) (i : Nat) : Option O → Option Wk
  | some (.lst l) => some ⟨l, fun A' => A'[i]? = some (.lst l)⟩
  | _ => none
theorem za4 : wl_ A i (some (.lst l)) = some ⟨l, fun A' => A'[i]? = some (.lst l)⟩ := rfl
theorem z7e : wkA A (.ref i) = wl_ A i A[i]? := by
  unfold wkA wkL wl_
  rcases h : A[i]? with _ | u
  · simp only [h]
  · cases u <;> simp only [h]
def we_ (A : Hs) (i : Nat) : Option O → Option Wk
  | some (.lst l) => some ⟨enumL l, fun A' => A'[i]? = some (.lst l)⟩
  | _ => none
theorem z9k : we_ A i (some (.lst l)) = some ⟨enumL l, fun A' => A'[i]? = some (.lst l)⟩ := rfl
theorem z8z : wkE A (.ref i) = we_ A i A[i]? := by
  unfold wkE wkL we_
  rcases h : A[i]? with _ | u
  · simp only [h]; rfl
  · cases u <;> simp only [h] <;> rfl
/-! lists of truths, numbers -/
def al_ (A : Hs) : Option (List Bool) → RE D
  | some bs => .ok (.bl (bs.all id)) A
  | none => .stuck
theorem zay {bs : List Bool} : al_ A (some bs) = .ok (.bl (bs.all id)) A := rfl
theorem z6i : oAll x A = al_ A ((seqL A x).bind boolsOf) := by unfold oAll al_; rfl
def sm_ (A : Hs) : Option (List Int) → RE D
  | some bs => .ok (.int bs.sum) A
  | none => .stuck
theorem z9t {ns : List Int} : sm_ A (some ns) = .ok (.int ns.sum) A := rfl
theorem z5l : oSum x A = sm_ A ((seqL A x).bind intsOf) := by unfold oSum sm_; rfl
theorem z3y {α β : Type} {f : α → Option β} {x : α} : (some x).bind f = f x := rfl
/-! places -/
theorem zb7 (h : i < A.length) : (A.set i u)[i]? = some u := List.getElem?_set_self h
theorem z33 (h : i ≠ j) : (A.set i u)[j]? = A[j]? := List.getElem?_set_ne h
theorem z8a (h : j < A.length) : (A ++ [u])[j]? = A[j]? := List.getElem?_append_left h
theorem zah : (A ++ [u])[A.length]? = some u := by simp
theorem z7f (h : j = A.length) : (A ++ [u])[j]? = some u := by subst h; simp
theorem z2f : (A ++ [u]).length = A.length + 1 := by simp
theorem z23 : kget [] y = none := rfl
theorem z16 : kget ((x, z) :: kv) y = if keq x y = true then some z else kget kv y := by rw [kget]
theorem zb2 : il_ (some (.obj C fs)) = false := rfl
theorem z94 : (Wk.mk l tt).gd = tt := rfl
theorem z92 {gd : Hs → Prop} : (Wk.mk l gd).ds = l := rfl
theorem z7z {gd : Hs → Prop} : (Wk.mk l gd).gd = gd := rfl
theorem tt_ : tt A := trivial
theorem z29 : wipeS env [] = env := rfl
theorem z1h {vs : List Nat} : wipeS env (i :: vs) = (wipeS env vs).set i none := by rw [wipeS]
/-- a result, by what holds of it -/
def Rk {α : Type} (r : RE α) (P : α → Hs → Prop) : Prop := match r with
  | .ok v A => P v A
  | _ => False
theorem z80 {α : Type} {x : α} {P : α → Hs → Prop} : Rk (.ok x A) P = P x A := rfl
theorem Rk.ex {α : Type} {r : RE α} {P : α → Hs → Prop} (h : Rk r P) : ∃ v A1, r = .ok v A1 ∧ P v A1 := by
  cases r with
  | ok v A1 => exact ⟨v, A1, rfl, h⟩
  | _ => exact h.elim
theorem Rk.of {α : Type} {r : RE α} {P : α → Hs → Prop} {x : α} (e : r = .ok x A) (h : P x A) : Rk r P := by rw [e]; exact h
theorem Rk.mono {α : Type} {r : RE α} {P P2 : α → Hs → Prop} (h : Rk r P) (k : ∀ v A, P v A → P2 v A) : Rk r P2 := by
  obtain ⟨v, A1, e, p⟩ := h.ex
  exact .of e (k v A1 p)
theorem Rk.make {P : D → Hs → Prop} {ds : List D} (h : Rk (F (.ref A.length :: ds) (A ++ [.obj C []])) fun v A1 => v = .non ∧ P (.ref A.length) A1) : Rk (make C F ds A) P := by
  obtain ⟨v, A1, e, rfl, p⟩ := h.ex
  exact .of (make_ok e) p
/-- a call in the goal, by what is known of it -/
theorem Rk.call {α : Type} {r : RE α} {P : α → Hs → Prop} (Q : RE α → Prop) (h : Rk r P) (k : ∀ v A1, P v A1 → Q (.ok v A1)) : Q r := by
  obtain ⟨v, A1, e, p⟩ := h.ex
  rw [e]; exact k v A1 p
/-- one turn of a loop: J where it goes on, R where the loop ends -/
def Trn (J : Sl → Hs → Prop) (R : RS → Prop) (r : RS) : Prop := match r with
  | .nx e A => J e A
  | .ct e A => J e A
  | .rt d A => R (.rt d A)
  | .bk e A => R (.nx e A)
  | .exc C e A => R (.exc C e A)
  | .stuck => False
theorem z98 {J : Sl → Hs → Prop} {R : RS → Prop} : Trn J R (.nx env A) = J env A := rfl
theorem z8h {J : Sl → Hs → Prop} {R : RS → Prop} : Trn J R (.ct env A) = J env A := rfl
theorem z7p {J : Sl → Hs → Prop} {R : RS → Prop} : Trn J R (.rt d A) = R (.rt d A) := rfl
theorem z81 {J : Sl → Hs → Prop} {R : RS → Prop} : Trn J R (.bk env A) = R (.nx env A) := rfl
theorem z62 {J : Sl → Hs → Prop} {R : RS → Prop} : Trn J R (.exc C env A) = R (.exc C env A) := rfl
def Tst (s : Hs → Prop) (k : Hs → Prop) (c : Bool) (A : Hs) : Prop := match c with
  | true => s A
  | false => k A
theorem z7w {s k : Hs → Prop} : Tst s k true A = s A := rfl
theorem z93 {s k : Hs → Prop} : Tst s k false A = k A := rfl
theorem z7i {s k : Hs → Prop} {c : Prop} [Decidable c] : Tst s k (decide c) A = if c then s A else k A := by
  by_cases h : c
  · simp [h, Tst]
  · simp [h, Tst]
theorem wh_go {t : Tt} (I : Nat → Sl → Hs → Prop) (R : RS → Prop) {n : Nat} (h0 : I n env A)
    (hs : ∀ n e A, I n e A → Rk (t e A) (Tst (fun A1 => Trn (fun e2 A2 => ∃ m, m < n ∧ I m e2 A2) R (f e A1)) fun A1 => R (.nx e A1))) : R (sWh t f env A) := by
  refine wh_inv I R h0 fun n e A hI => ?_
  obtain ⟨c, A1, h1, h2⟩ := (hs n e A hI).ex
  cases c with
  | false => exact .inl ⟨A1, h1, h2⟩
  | true =>
    refine .inr ⟨A1, h1, ?_⟩
    change Trn _ _ _ at h2
    cases q : f e A1 with
    | nx e2 A2 => rw [q] at h2; exact .inl ⟨e2, A2, .inl rfl, h2⟩
    | ct e2 A2 => rw [q] at h2; exact .inl ⟨e2, A2, .inr rfl, h2⟩
    | rt d2 A2 => rw [q] at h2; exact .inr (.inl ⟨d2, A2, rfl, h2⟩)
    | bk e2 A2 => rw [q] at h2; exact .inr (.inr (.inl ⟨e2, A2, rfl, h2⟩))
    | exc C e2 A2 => rw [q] at h2; exact .inr (.inr (.inr ⟨C, e2, A2, rfl, h2⟩))
    | stuck => rw [q] at h2; exact h2.elim
def Got (r : Option Sl) (P : Sl → Prop) : Prop := match r with
  | some e => P e
  | none => False
theorem z7u {P : Sl → Prop} : Got (some env) P = P env := rfl
theorem for_go {g : G} {gd : Hs → Prop} (I : Nat → Sl → Hs → Prop) (R : RS → Prop) {ds : List D} (h0 : I 0 env A) (hg : ∀ i e A, i ≤ ds.length → I i e A → gd A)
    (hs : ∀ i e A d, ds[i]? = some d → I i e A → Got (g d e A) fun e1 => Trn (I (i + 1)) R (f e1 A))
    (hd : ∀ e A, I ds.length e A → R (.nx e A)) : R (forL g f gd ds env A) := by
  refine for_inv I R h0 hg (fun i e A d hd hI => ?_) hd
  have h2 := hs i e A d hd hI
  cases q0 : g d e A with
  | none => rw [q0] at h2; exact h2.elim
  | some e1 =>
    rw [q0, z7u] at h2
    refine ⟨e1, rfl, ?_⟩
    cases q : f e1 A with
    | nx e2 A2 => rw [q] at h2; exact .inl ⟨e2, A2, .inl rfl, h2⟩
    | ct e2 A2 => rw [q] at h2; exact .inl ⟨e2, A2, .inr rfl, h2⟩
    | rt d2 A2 => rw [q] at h2; exact .inr (.inl ⟨d2, A2, rfl, h2⟩)
    | bk e2 A2 => rw [q] at h2; exact .inr (.inr (.inl ⟨e2, A2, rfl, h2⟩))
    | exc C e2 A2 => rw [q] at h2; exact .inr (.inr (.inr ⟨C, e2, A2, rfl, h2⟩))
    | stuck => rw [q] at h2; exact h2.elim
/-- a comprehension of pure parts over what its walk gives, as simp shows it -/
theorem lc_go {g : G} {t : Tt} {gd : Hs → Prop} (p : D → Bool) (h : D → D) {ds : List D} (hgd : gd A) (hl : ds.length < 16000000)
    (hs : ∀ d ∈ ds, Got (g d env A) fun e1 => Rk (t e1 A) fun c A1 => c = p d ∧ A1 = A ∧ (c = true → Rk (a e1 A) fun v A2 => v = h d ∧ A2 = A)) : lcL g t a gd env ds [] A = .ok ((ds.filter p).map h) A := by
  refine lc_pure p h hgd (by simpa using hl) fun d hd => ?_
  have h2 := hs d hd
  cases q0 : g d env A with
  | none => rw [q0] at h2; exact h2.elim
  | some e1 =>
    rw [q0, z7u] at h2
    obtain ⟨c, A1, e, rfl, rfl, k⟩ := h2.ex
    refine ⟨e1, rfl, e, fun hp => ?_⟩
    obtain ⟨v, A2, e3, rfl, rfl⟩ := (k hp).ex
    exact e3
end
end SM

/-! ## enumerate over a tuple -/
namespace SM
open PySem L2 PySem.Spec PyProof.Rows
theorem meets_enumerate_newB1 {v : Value} {o : Obj} {H : Heap → Prop} (B : Begins v o H) :
    Meets (Builtin.«enumerate.__new__» ⟨[.type "enumerate", v], []⟩) (fun _ R s => H s.heap ∧
      R (.ok (.ret (.ref (s.heap.push o).objs.size))) { s with heap := (s.heap.push o).push { cls := .type "enumerate", data := .fields #[.none, .bool false, .ref s.heap.objs.size, rawInt 0, .none, .none] } }) :=
  .of_wp fun prog w A R s h => by
    obtain ⟨hp, g, d, tk, os⟩ := s; obtain ⟨h1, h⟩ := h
    have hsub := sub_enumerate
    have q1 : ∀ {A' : Around} {E : Value → Shared → Prop} {Q : Value → Shared → Prop}, Q (.ref hp.objs.size) ⟨hp.push o, g, d, tk, os⟩ → wpAny (model prog w) A' (pyIter v) Q E ⟨hp, g, d, tk, os⟩ :=
      fun q => B.iter prog w _ _ ⟨hp, g, d, tk, os⟩ _ h1 q
    wp_walk using q1
    refine wpAny_stack_any fun st => wpAny_pure ?_
    split
    · rename_i c _ _ _ _ _
      cases (c == Value.type "enumerate")
      · wp_walk using q1
        exact ⟨_, rfl, h⟩
      · wp_walk using q1
        exact ⟨_, rfl, h⟩
    · wp_walk using q1
      exact ⟨_, rfl, h⟩
section
variable {prog : Program} {w : World} {A : Around} {E : Value → Shared → Prop} {s : Shared}
theorem enum_begins1 {v : Value} {o : Obj} {H : Heap → Prop} {Q : Value → Shared → Prop} (B : Begins v o H) (h1 : H s.heap)
    (h : ∀ h', IsEnum h' (s.heap.objs.size + 1) s.heap.objs.size 0 .none → h'.get? s.heap.objs.size = some o → h'.objs.size = s.heap.objs.size + 2 →
      (∀ b o, s.heap.get? b = some o → h'.get? b = some o) → Q (.ref (s.heap.objs.size + 1)) { s with heap := h' }) :
    wpAny (model prog w) A (call (.type "enumerate") [v]) Q E s := by
  refine callType_new F.called_enumerate (by decide) (F.typeCall_enumerate_1 _) (F.newCall_enumerate_1 _) (fun obj => F.args_object_init_2 obj _) F.entry_enumerate_new
    (meets_enumerate_newB1 B) ⟨h1, ?_⟩
  have hz : (s.heap.push o).objs.size = s.heap.objs.size + 1 := Heap.size_push ..
  show _ ∧ _
  rw [hz]
  have he : IsEnum ((s.heap.push o).push { cls := .type "enumerate", data := .fields #[.none, .bool false, .ref s.heap.objs.size, rawInt 0, .none, .none] }) (s.heap.objs.size + 1) s.heap.objs.size 0 .none := by
    have := Heap.get?_push_size (s.heap.push o) (o := { cls := .type "enumerate", data := .fields #[.none, .bool false, .ref s.heap.objs.size, rawInt 0, .none, .none] }) rfl
    rw [hz] at this; exact this
  refine ⟨⟨_, he, rfl⟩, h _ he (Heap.get?_push_of_some _ (Heap.get?_push_size _ B.free)) (by rw [Heap.size_push, hz]) fun b o x => Heap.get?_push_of_some _ (Heap.get?_push_of_some _ x)⟩
end
/-- the tuple at a, each item in a new pair -/
def IteT (K : PySem.W.Frag) (a : Addr) : It :=
  ⟨fun i H => ∃ (xs : List V) (x : V), SqT K H a xs ∧ xs[i]? = some x, fun i H v H' => ∃ T x, v = .ref T ∧ H T = none ∧ H' = upd H T (.tup [.int (i : Nat), x]) ∧ ∀ xs, SqT K H a xs → xs[i]? = some x, fun i H => ∃ xs : List V, SqT K H a xs ∧ xs.length ≤ i⟩
theorem turn_enumT {P : Program} {w : World} {K : PySem.W.Frag} {elts : List Expr} {kk : Nat} {tpos : Pos} (a e it : Addr) :
    Turn P w K (.Tuple elts kk tpos) (IteT K a) [e, it] e (fun i h => (∃ old, IsEnum h e it ((i : Nat) : Int) old) ∧ h.IsTupleIter it a i ∧ e ≠ it) where
  mem := by simp
  obj := fun i h st b hb => by
    obtain ⟨⟨old, he⟩, ⟨o, ho, hc, hd⟩, _⟩ := st
    have e' : b = e ∨ b = it := by simpa using hb
    rcases e' with z | z
    · rw [z]; exact ⟨_, he, fun v q => nomatch q⟩
    · rw [z]; exact ⟨o, ho, fun v q => by rw [hd] at q; cases q⟩
  keep := fun i h h' st k => let ⟨⟨old, he⟩, hi, hne⟩ := st; ⟨⟨old, k e (by simp) _ he⟩, hi.at fun o q => k it (by simp) o q, hne⟩
  item := by
    intro X hP hw hK hc i pins s σ H E I hf st hg
    subst hP hw hK
    obtain ⟨⟨old, he⟩, hit, hne⟩ := st
    obtain ⟨xs, x, hq, hx⟩ := hg
    obtain ⟨its, rv, p, hz⟩ := I.tuple hq
    obtain ⟨u, hu, ru⟩ := rv.get hx
    have hel : e < s.heap.objs.size := Heap.lt_size he
    have hil : it < s.heap.objs.size := by obtain ⟨_, q, _⟩ := hit; exact Heap.lt_size q
    have hpT : s.heap.IsTuple a its.toArray := p
    have hai : a ≠ it := fun z => by
      subst z
      obtain ⟨o, ho, hc, hd⟩ := hit
      obtain ⟨o2, ho2, hc2, _⟩ := hpT
      rw [ho] at ho2; cases ho2
      rw [hc] at hc2; simp at hc2
    have hae : a ≠ e := fun z => by
      subst z
      obtain ⟨o2, ho2, hc2, _⟩ := hpT
      rw [he] at ho2; cases ho2
      simp at hc2
    have hlt : i < its.toArray.size := by
      rcases Nat.lt_or_ge i its.length with q | q
      · simpa using q
      · rw [List.getElem?_eq_none q] at hu; cases hu
    refine wpAny_pyNext_enum_itemD (A := X.A) (Draws.tuple (A := X.A.in1) (I.ok.hd hc) it a hai its.toArray) he ⟨hit, hpT⟩ hlt hne (by simp; exact ⟨hne, fun z => hae z.symm⟩) fun u' h' tk hP ho hst hT hsz hk => ?_
    obtain rfl : u' = u := by
      have : its.toArray[i]? = some u := by simpa using hu
      rw [this] at hP; cases hP; rfl
    refine ⟨_, rfl, wpAny_letOwnedTupleGo_enum (s := { s with heap := h', toks := tk + 1 }) ho fun h'' he' sb => ?_⟩
    have hT2 : h''.get? s.heap.objs.size = some { cls := .type "tuple", data := .seq #[.int i tk, u'] } := (sb.2 _ (Nat.ne_of_gt hel)).trans hT
    have new : ObjOk X.prog X.w (upd H s.heap.objs.size (.tup [.int (i : Nat), x])) h'' s.heap.objs.size (.tup [.int (i : Nat), x]) :=
      ⟨by show 2 ≤ sizeLine; decide, [.int i tk, u'], .cons ⟨_, rfl⟩ (.cons ru .nil), ⟨_, hT2, rfl, _, rfl⟩⟩
    have I1 : Inv X pins σ (upd H s.heap.objs.size (.tup [.int (i : Nat), x])) { s with heap := h'', toks := tk + 1 } :=
      I.turnedNew (ch := [e, it]) (fun b ob hb q => (sb.2 b (fun z => hb (by simp [z]))).trans (hk b ob (fun z => hb (by simp [z])) (fun z => hb (by simp [z])) q)) hf (Nat.le_refl _) new
    refine ⟨.ref s.heap.objs.size, _, I1, rfl, ⟨_, x, rfl, I.hok.fresh (Nat.le_refl _), rfl, fun ys hy => by rw [I.tuple_inj hy hq]; exact hx⟩, ⟨⟨u', ?_⟩, hst.1.at fun o q => (sb.2 it (Ne.symm hne)).trans q, hne⟩, fun b hb => ?_⟩
    · have e1 : ((i + 1 : Nat) : Int) = (i : Int) + 1 := by omega
      rw [e1]; exact he'
    · have hb' : b < s.heap.objs.size := by
        have e' : b = e ∨ b = it := by simpa using hb
        rcases e' with z | z
        · rw [z]; exact hel
        · rw [z]; exact hil
      rw [upd_ne (Nat.ne_of_lt hb')]
      exact (hf b hb).1
  done := by
    intro X hP hw hK hc i pins s σ H E I hf st hg
    subst hP hw hK
    obtain ⟨⟨old, he⟩, hit, hne⟩ := st
    obtain ⟨xs, hq, hx⟩ := hg
    obtain ⟨its, rv, p, hz⟩ := I.tuple hq
    obtain ⟨f0, f1, f2, f3, f4, f5⟩ := hf it (by simp)
    have hl := rv.length
    have hpT : s.heap.IsTuple a its.toArray := p
    have hT : s.TypeIs (.ref e) "enumerate" := ⟨_, he, rfl⟩
    unfold pyNext
    refine wpAny_bind (wpAny_attempt (wpAny_callSpecial?_slot (name := Str.ofString "__next__") hT F.slot_enumerate_next
      (wpAny_call_entry F.slot_enumerate_next hT F.entry_enumerate_next ?_ (F.args_enumerate_next_1 _))))
    show wpAny _ _ (field (.ref e) 2 >>= _) _ _ _
    refine wpAny_bind (wpAny_field he rfl (x := .ref it) rfl ?_)
    refine wpAny_bind (wpAny_nextOf_tuple_end (I.ok.hd hc) hit hpT (by simp; omega) fun h' x he' hx' => ?_)
    obtain ⟨o, ho, hc⟩ := hx'
    refine wpAny_bind (wpAny_isInstance (T := "StopIteration") (b := true) ⟨o, ho, hc⟩ isSubtype_stop ?_)
    exact wpAny_pure ⟨rfl, I.turned (t' := s.toks) (fun b o hb q => he' b o hb q) f0 f1 f3 f4 f5⟩
  self := fun A i s Q E st h => let ⟨⟨_, he⟩, _⟩ := st; wpAny_pyIter_enum he h
def iEnumT (K : PySem.W.Frag) (ta : TA) : TI := fun σ H R => ta σ H fun vs H1 => ∃ a xs, vs = [.ref a] ∧ SqT K H1 a xs ∧ R (IteT K a) H1
theorem pi_enumT {X : Cx} {e : Expr} {ta : TA} {p pos tpos : Pos} {elts : List Expr} {kk : Nat} (hg : Gl X "enumerate") (hm : X.mg "enumerate" = none) (ha : PA X [e] ta) (hs : starEach [e] X.env = [(false, eval e X.env)] := by rfl) :
    PI X (.Tuple elts kk tpos) (.Call (.Name "enumerate" p) [e] [] pos) (iEnumT X.K ta) := by
  refine ⟨fun pins s σ H R I h => ?_⟩
  refine PyProof.Rows.Call_ (ld_blt I hg hm boot_enumerate (PyProof.Rows.callWith_type1 (thn (ha.run pos pins s σ H _ I h) fun us s1 ⟨vs, H1, I1, r1, q1⟩ => ?_) hs rfl))
  obtain ⟨a, xs, ex, hq, q⟩ := q1
  subst ex
  cases r1 with
  | cons r rr =>
    cases rr
    cases r
    obtain ⟨its, rv, p', hz⟩ := I1.tuple hq
    have hpT : s1.heap.IsTuple a its.toArray := p'
    refine enum_begins1 (begins_tuple a its.toArray) hpT fun h' he hit hsz hk => wpAny_pyIter_enum he ?_
    have I2 : Inv X pins σ H1 { s1 with heap := h' } := I1.kept (t' := s1.toks) hk
    refine ⟨s1.heap.objs.size + 1, [s1.heap.objs.size + 1, s1.heap.objs.size], _, _, H1, rfl, I2, turn_enumT a (s1.heap.objs.size + 1) s1.heap.objs.size, ⟨⟨.none, he⟩, ⟨_, hit, rfl, rfl⟩, Nat.succ_ne_self _⟩, fun b hb => ?_, q⟩
    have e' : b = s1.heap.objs.size + 1 ∨ b = s1.heap.objs.size := by simpa using hb
    have hle : s1.heap.objs.size ≤ b := by
      rcases e' with z | z
      · rw [z]; exact Nat.le_add_right _ _
      · rw [z]; exact Nat.le_refl _
    exact I1.fpOk hle (I1.hok.fresh hle)
theorem PI.or {X : Cx} {tg e : Expr} {i1 i2 : TI} (h1 : PI X tg e i1) (h2 : PI X tg e i2) : PI X tg e (fun σ H R => i1 σ H R ∨ i2 σ H R) :=
  ⟨fun pins s σ H R I h => h.elim (h1.run pins s σ H R I) (h2.run pins s σ H R I)⟩
section
variable {K : PySem.W.Frag} {ca : CaT} {W : WX} {te : TE} {a : E}
theorem walk_enumT {a : Addr} {vs : List V} : Walk (IteT K a) vs.length (fun H => SqT K H a vs) (fun i H v H' => ∃ T x, v = .ref T ∧ H T = none ∧ H' = upd H T (.tup [.int (i : Nat), x]) ∧ ∀ xs, SqT K H a xs → xs[i]? = some x) :=
  ⟨fun i _ hi q => ⟨vs, vs[i]'hi, q, by simp [hi]⟩, fun _ q => ⟨vs, q, Nat.le_refl _⟩, fun _ _ _ _ _ _ y => y⟩
def wkET (A : Hs) (x : D) : Option Wk := (wkT A x).map fun k => ⟨enumL k.ds, k.gd⟩
theorem sw_enumT (h : SimE K ca W te a) : SimI K ca W (iEnumT K (tCons te tNil)) (wOf wkET a) := fun F m A σ H env Q R S p => wOf_bind h R S p fun F1 m1 A1 H1 x d kk R1 r hk p1 => by
  have main : ∀ {aa : Addr} {vs : List V} {l : List D}, SqT K F1 aa vs → RepL K ca F1 m1 vs l → kk = ⟨enumL l, tt⟩ → x = .ref aa → ∃ a xs, [x] = [.ref a] ∧ SqT K H1 a xs ∧ Q (IteT K a) H1 := fun {aa vs l} s rs e ex => by
    subst e; subst ex
    refine ⟨aa, vs, rfl, R1.fh.t s, p1 _ F1 m1 H1 R1 Stp.refl ⟨fun H => SqT K H aa vs, _, by rw [show (Wk.mk (enumL l) tt).ds.length = vs.length from enumL_len.trans rs.length.symm]; exact walk_enumT, fun F2 m2 A2 H2 hg R2 g2 => R2.fh.t (g2.ff.t s), fun i' d' x' F2 m2 A2 H2 H3 e hg R2 g2 y => .inr (.inl ?_)⟩⟩
    obtain ⟨T, z, y1, y2, y3, y4⟩ := y
    obtain ⟨dx, q1, q2⟩ := enumL_get e
    obtain ⟨w, w1, w2⟩ := rs.get q1
    have := y4 _ (R2.fh.t (g2.ff.t s))
    rw [w1] at this; cases this
    exact ⟨T, _, _, q2, y1, y2, y3, .cons (.int _) (.cons (w2.mono g2.ff g2.mm) .nil)⟩
  cases r with
  | tup s rs => cases hk; exact main (.inl (.inl s)) rs rfl rfl
  | wt s rs => cases hk; exact main s rs rfl rfl
  | _ => cases hk
def wkEA (A : Hs) (x : D) : Option Wk := match x with
  | .tup _ => wkET A x
  | .wt _ => wkET A x
  | _ => wkE A x
def iEnumA (K : PySem.W.Frag) (ta : TA) : TI := fun σ H R => iEnum K ta σ H R ∨ iEnumT K ta σ H R
theorem sw_enumA (h : SimE K ca W te a) : SimI K ca W (iEnumA K (tCons te tNil)) (wOf wkEA a) := SimI.pick (sw_enum h) (sw_enumT h) (wOf_pick (f := wkEA) fun A x => by cases x <;> first | exact .inl rfl | exact .inr rfl)
theorem pi_enumA {X : Cx} {e : Expr} {ta : TA} {p pos tpos : Pos} {elts : List Expr} {kk : Nat} (hg : Gl X "enumerate") (hm : X.mg "enumerate" = none) (ha : PA X [e] ta) (hs : starEach [e] X.env = [(false, eval e X.env)] := by rfl) :
    PI X (.Tuple elts kk tpos) (.Call (.Name "enumerate" p) [e] [] pos) (iEnumA X.K ta) := PI.or (pi_enum hg hm ha hs) (pi_enumT hg hm ha hs)
theorem z1x {A : Hs} {i : Nat} : wkEA A (.ref i) = we_ A i A[i]? := z8z
theorem z1u {A : Hs} {l : List D} : wkEA A (.tup l) = some ⟨enumL l, tt⟩ := rfl
theorem z25 {A : Hs} {l : List D} : wkEA A (.scr l) = some ⟨enumL l, tt⟩ := rfl
end
end SM

/-! ## d.pop(k), d.pop(k, e) -/
namespace SM
open PySem L2
open DL (Ex ExK)
section
variable {K : PySem.W.Frag} {ca : CaT} {F F1 F2 H H1 H2 : Hp} {m m1 m2 : List Addr} {A A1 A2 : Hs} {σ : L2.St} {env : Sl} {W : WX} {Q : VK}
variable {to ti ta tb tc te tz : TE} {a b c e : E} {i : Nat} {d : D} {ts : TA} {as : As} {x y : V} {dx dy : D}
def oDPop (x y : D) (A : Hs) : RE D := match x with
  | .ref i => match A[i]? with
    | some (.dic false false l) => match keyK y, kget l y with
      | some _, some d => .ok d (A.set i (.dic false false (kdel l y)))
      | _, _ => .stuck
    | _ => .stuck
  | _ => .stuck
theorem dk_at {l : List (D × D)} {t : Nat} (R : Rl K ca F m A H) (rx : Rep K ca F m x (.ref t)) (hA : A[t]? = some (.dic false false l)) : ∃ a kvs, x = .ref a ∧ m[t]? = some a ∧ H a = some (.dK kvs) ∧ KvR K ca F m kD kvs l := by
  obtain ⟨a, e, ha, r⟩ := R.at hA rx
  obtain ⟨kvs, h1, h2⟩ := r
  exact ⟨a, kvs, e, ha, h1, h2⟩
theorem kV_of {kk : Key} (r : Rep K ca F m y (kD kk)) : y = kV kk := by
  cases kk with
  | inl i => cases r; rfl
  | inr x => cases r; rfl
def ePop1 (a b : E) : E := fun env A => (a env A).bind fun x A1 => if isDic A1 x then (b env A1).bind fun y A2 => oDPop x y A2 else if (seqL A1 x).isSome then ((aCons b aNil) env A1).bind fun ds A2 => oPopAt x ds A2 else .stuck
/-- with a way out -/
def oDPop2 (x y z : D) (A : Hs) : RE D := match x with
  | .ref i => match A[i]? with
    | some (.dic false false l) => match keyK y with
      | some _ => match kget l y with
        | some d => .ok d (A.set i (.dic false false (kdel l y)))
        | none => .ok z A
      | _ => .stuck
    | _ => .stuck
  | _ => .stuck
def eDPop2 (a b c : E) : E := fun env A => (a env A).bind fun x A1 => if isDic A1 x then (b env A1).bind fun y A2 => (c env A2).bind fun z A3 => oDPop2 x y z A3 else .stuck
end
section
variable {A : Hs} {env : Sl} {a b c : E} {i : Nat} {x y z d : D} {kv : List (D × D)} {l : List D} {fs : List (String × D)} {C : String} {t lk : Bool} {n : Nat}
def isd_ : Option O → Bool
  | some (.dic _ _ _) => true
  | _ => false
theorem z8i : isd_ (some (.dic t lk kv)) = true := rfl
theorem z8n : isd_ (some (.lst l)) = false := rfl
theorem z3w : isDic A (.ref i) = isd_ A[i]? := by
  unfold isDic dicAt
  rcases h : A[i]? with _ | u
  · simp only [h]; rfl
  · cases u <;> simp only [h] <;> rfl
theorem z1f : isDic A (.scr l) = false := rfl
theorem z5u : ePop1 a b env A = (a env A).bind fun x A1 => if isDic A1 x = true then (b env A1).bind fun y A2 => oDPop x y A2 else if (seqL A1 x).isSome = true then ((aCons b aNil) env A1).bind fun ds A2 => oPopAt x ds A2 else .stuck := rfl
theorem z37 : eDPop2 a b c env A = (a env A).bind fun x A1 => if isDic A1 x = true then (b env A1).bind fun y A2 => (c env A2).bind fun z A3 => oDPop2 x y z A3 else .stuck := rfl
def dp_ (A : Hs) (i : Nat) (y : D) (kv : List (D × D)) : Option D → RE D
  | some d => if (keyK y).isSome = true then .ok d (A.set i (.dic false false (kdel kv y))) else .stuck
  | none => .stuck
theorem zal : dp_ A i y kv (some d) = if (keyK y).isSome = true then .ok d (A.set i (.dic false false (kdel kv y))) else .stuck := rfl
def dpo_ (A : Hs) (i : Nat) (y : D) : Option O → RE D
  | some (.dic false false kv) => dp_ A i y kv (kget kv y)
  | _ => .stuck
theorem z7l : dpo_ A i y (some (.dic false false kv)) = dp_ A i y kv (kget kv y) := rfl
theorem z4l : oDPop (.ref i) y A = dpo_ A i y A[i]? := by
  unfold oDPop dpo_ dp_
  rcases h : A[i]? with _ | u
  · simp only [h]
  · cases u with
    | dic t lk kv => cases t <;> cases lk <;> simp only [h] <;> (cases keyK y <;> cases kget kv y <;> rfl)
    | _ => simp only [h]
theorem z6h {p : Int} : keyK (.int p) = some (.inl p) := rfl
theorem z6c {s : Str} : keyK (.str s) = some (.inr s) := rfl
theorem z3s {s : String} : keyK (dS s) = some (.inr (fS s)) := rfl
/-- y in a list's, tuple's items -/
def inl_ (A : Hs) (y : D) (l : List D) (neg : Bool) : RE D := match pyA A 40 y, allSome (l.map (pyA A 39)) with
  | some p, some ps => .ok (.bl (if neg then !(ps.any fun z => PyData.eqv z p) else ps.any fun z => PyData.eqv z p)) A
  | _, _ => .stuck
def in_ (A : Hs) (y : D) (neg : Bool) : Option O → RE D
  | some (.dic t _ kv) => if keyOk t y = true then .ok (.bl (if neg then !(kget kv y).isSome else (kget kv y).isSome)) A else .stuck
  | some (.lst l) => inl_ A y l neg
  | _ => .stuck
theorem zb4 {neg : Bool} : in_ A y neg (some (.dic t lk kv)) = if keyOk t y = true then .ok (.bl (if neg then !(kget kv y).isSome else (kget kv y).isSome)) A else .stuck := rfl
theorem zab {neg : Bool} : in_ A y neg (some (.lst l)) = inl_ A y l neg := rfl
theorem inData_l (h : pyA A 40 x = (allSome (l.map (pyA A 39))).map PyData.list ∨ pyA A 40 x = (allSome (l.map (pyA A 39))).map PyData.tuple) : inData A y x = match pyA A 40 y, allSome (l.map (pyA A 39)) with
  | some p, some ps => some (ps.any fun z => PyData.eqv z p)
  | _, _ => none := by
  unfold inData
  rcases h with h | h <;> rw [h] <;> (cases pyA A 40 y <;> cases allSome (l.map (pyA A 39)) <;> rfl)
theorem z90 : oIn y (.ref i) A = in_ A y false A[i]? := by
  unfold oIn oB inA
  rcases h : A[i]? with _ | u
  · have : pyA A 40 (.ref i) = none := by rw [pyA]; simp only [h]
    simp only [dicAt, h, inData, this]; cases pyA A 40 y <;> rfl
  · cases u with
    | dic t lk kv => simp only [dicAt, h, inDic, zb4]; cases keyOk t y <;> simp [Option.map]
    | lst l =>
      have := inData_l (A := A) (x := .ref i) (y := y) (l := l) (.inl (py_lst h))
      simp only [dicAt, h, this, zab, inl_]
      cases pyA A 40 y <;> cases allSome (l.map (pyA A 39)) <;> rfl
    | obj C f =>
      have : pyA A 40 (.ref i) = none := by rw [pyA]; simp only [h]
      simp only [dicAt, h, inData, this]; cases pyA A 40 y <;> rfl
theorem z2u : oNotIn y (.ref i) A = in_ A y true A[i]? := by
  unfold oNotIn oB inA
  rcases h : A[i]? with _ | u
  · have : pyA A 40 (.ref i) = none := by rw [pyA]; simp only [h]
    simp only [dicAt, h, inData, this]; cases pyA A 40 y <;> rfl
  · cases u with
    | dic t lk kv => simp only [dicAt, h, inDic, zb4]; cases keyOk t y <;> simp [Option.map]
    | lst l =>
      have := inData_l (A := A) (x := .ref i) (y := y) (l := l) (.inl (py_lst h))
      simp only [dicAt, h, this, zab, inl_]
      cases pyA A 40 y <;> cases allSome (l.map (pyA A 39)) <;> rfl
    | obj C f =>
      have : pyA A 40 (.ref i) = none := by rw [pyA]; simp only [h]
      simp only [dicAt, h, inData, this]; cases pyA A 40 y <;> rfl
theorem z8x : oIn y (.tup l) A = inl_ A y l false := by
  have := inData_l (A := A) (x := .tup l) (y := y) (l := l) (.inr (by rw [pyA]))
  unfold oIn oB inA
  simp only [dicAt, this, inl_]
  cases pyA A 40 y <;> cases allSome (l.map (pyA A 39)) <;> rfl
theorem z2h : oNotIn y (.tup l) A = inl_ A y l true := by
  have := inData_l (A := A) (x := .tup l) (y := y) (l := l) (.inr (by rw [pyA]))
  unfold oNotIn oB inA
  simp only [dicAt, this, inl_]
  cases pyA A 40 y <;> cases allSome (l.map (pyA A 39)) <;> rfl
theorem py_ints {ns : List Int} : allSome ((ns.map D.int).map (pyA A n)) = some (ns.map PyData.int) := by
  induction ns with
  | nil => rfl
  | cons b r ih => rw [List.map_cons, List.map_cons, show pyA A n (.int b) = some (.int b) by cases n <;> simp [pyA], allSome, ih]; rfl
theorem z2v {ns : List Int} {p : Int} {neg : Bool} : inl_ A (.int p) (ns.map D.int) neg = .ok (.bl (if neg then !decide (p ∈ ns) else decide (p ∈ ns))) A := by
  unfold inl_
  rw [py_ints, show pyA A 40 (.int p) = some (.int p) by simp [pyA]]
  have : ((ns.map PyData.int).any fun z => PyData.eqv z (.int p)) = decide (p ∈ ns) := by
    rw [List.any_map]
    induction ns with
    | nil => rfl
    | cons b r ih =>
      rw [List.any_cons, ih]
      simp [PyData.eqv]
      congr 1
      rw [Bool.eq_iff_iff, beq_iff_eq, decide_eq_true_eq]; exact eq_comm
  simp only [this]
end
end SM

/-! ## more equations -/
namespace SM
open PySem L2
section
variable {A A1 A2 : Hs} {env : Sl} {a b c : E} {x y z d : D} {l : List D} {os xs : List String} {tb : List (String × String × Bool)} {s : String}
theorem z17 : oIsi os xs tb (dS s) (.ty "str") A = .ok (.bl true) A := rfl
theorem z1l : oIsi os xs tb (dS s) (.ty "int") A = .ok (.bl false) A := rfl
theorem z08 : oIsi os xs tb (dS s) (.ty "bool") A = .ok (.bl false) A := rfl
theorem z04 : oIsi os xs tb (dS s) (.ty "tuple") A = .ok (.bl false) A := rfl
/-- a comprehension by what stays true of what it has made -/
theorem lc_run {g : G} {t : Tt} {gd : Hs → Prop} (P : Nat → List D → Hs → Prop) {ds : List D} (h0 : P 0 [] A) (hl : ds.length < 16000000) (hg : ∀ i l A, P i l A → gd A)
    (hs : ∀ i d, ds[i]? = some d → ∀ l A, P i l A → Got (g d env A) fun e1 => Rk (t e1 A) (Tst (fun A1 => Rk (a e1 A1) fun v A2 => P (i + 1) (l ++ [v]) A2) fun A1 => P (i + 1) l A1)) : Rk (lcL g t a gd env ds [] A) (P ds.length) := by
  have main : ∀ (n i : Nat) (acc : List D) (A : Hs), n + i = ds.length → P i acc A → acc.length ≤ i → Rk (lcL g t a gd env (ds.drop i) acc A) (P ds.length) := by
    intro n
    induction n with
    | zero =>
      intro i acc A hi h0 hle
      have : i = ds.length := by omega
      subst this
      rw [List.drop_length, lcL, if_pos (hg _ _ _ h0)]; exact h0
    | succ n ih =>
      intro i acc A hi h0 hle
      have hlt : i < ds.length := by omega
      have h2 := hs i ds[i] (by simp [hlt]) acc A h0
      rw [List.drop_eq_getElem_cons hlt]
      cases q0 : g ds[i] env A with
      | none => rw [q0] at h2; exact h2.elim
      | some e1 =>
        rw [q0, z7u] at h2
        obtain ⟨c, A1, e, h3⟩ := h2.ex
        rw [lcL, if_pos (hg _ _ _ h0), q0]
        simp only [e]
        cases c with
        | false => exact ih (i + 1) acc A1 (by omega) h3 (by omega)
        | true =>
          obtain ⟨v, A2, e2, h4⟩ := Rk.ex h3
          simp only [e2]
          rw [if_pos (small_line' (by omega))]
          exact ih (i + 1) _ A2 (by omega) h4 (by rw [List.length_append, List.length_singleton]; omega)
  have := main ds.length 0 [] A rfl h0 (Nat.le_refl _)
  rwa [List.drop_zero] at this
def kset_ (y v : D) (kv : List (D × D)) : List (D × D) := kv.map fun p => if keq p.1 y then (p.1, v) else p
theorem z2b {v : D} : kset_ y v [] = [] := rfl
theorem z13 {v : D} {kv : List (D × D)} : kset_ y v ((x, z) :: kv) = (if keq x y = true then (x, v) else (x, z)) :: kset_ y v kv := rfl
theorem z2g : khas [] y = false := rfl
theorem z1g {kv : List (D × D)} : khas ((x, z) :: kv) y = if keq x y = true then true else khas kv y := by
  unfold khas; rw [List.any_cons]; cases keq x y <;> rfl
theorem z26 {v : D} : kput [] y v = [(y, v)] := rfl
theorem z18 {v : D} {kv : List (D × D)} : kput ((x, z) :: kv) y v = if khas ((x, z) :: kv) y = true then kset_ y v ((x, z) :: kv) else ((x, z) :: kv) ++ [(y, v)] := rfl
theorem z8b : dNil env A = .ok [] A := rfl
theorem z76 {k v : E} {r : Dps} : dCons k v r env A = (k env A).bind fun x A1 => (v env A1).bind fun y A2 => (r env A2).bind fun ps A3 => .ok ((x, y) :: ps) A3 := rfl
def dsp_ (A : Hs) (ps : List (D × D)) : RE D := if (ps.all fun p => (keyK p.1).isSome) && decide (ps.length ≤ 15) then alloc A (.dic false false (kmerge [] ps)) else .stuck
theorem z6n {d : Dps} : eDisp d env A = (d env A).bind fun ps A1 => dsp_ A1 ps := rfl
theorem z74 {ps : List (D × D)} (h : (ps.all fun p => (keyK p.1).isSome) = true) (hl : ps.length ≤ 15) : dsp_ A ps = .ok (.ref A.length) (A ++ [.dic false false (kmerge [] ps)]) := by
  unfold dsp_; rw [h, decide_eq_true hl]; rfl
theorem z0i {l : List (D × D)} : kmerge l [] = l := by rw [kmerge]
theorem z02 {l r : List (D × D)} {v : D} : kmerge l ((x, v) :: r) = kmerge (kput l x v) r := by rw [kmerge]
end
end SM

/-! ## min of four -/
namespace PySem
open Sem (wp)
section
variable {prog : Program} {w : World} {A : Around} {E : Value → Shared → Prop} {s : Shared}
end
end PySem
namespace SM
open PySem L2
section
variable {K : PySem.W.Frag} {ca : CaT}
def c4 (f : D → D → D → D → Hs → RE D) : List D → Hs → RE D := fun ds A => match ds with
  | [d, e, g, h] => f d e g h A
  | _ => .stuck
def oMin4 (x y z w : D) (A : Hs) : RE D := match x, y, z, w with
  | .int i, .int j, .int k, .int l => .ok (.int (min (min (min i j) k) l)) A
  | _, _, _, _ => .stuck
end
theorem c4_ {A : Hs} {d d1 d2 d3 : D} {f : D → D → D → D → Hs → RE D} : c4 f [d, d1, d2, d3] A = f d d1 d2 d3 A := rfl
theorem z3r {A : Hs} {p q r s : Int} : oMin4 (.int p) (.int q) (.int r) (.int s) A = .ok (.int (min (min (min p q) r) s)) A := rfl
def ad_ (A : Hs) : Option (List D) → Option (List D) → RE D
  | some l, some k => if l.length + k.length ≤ sizeLine then .ok (.ref A.length) (A ++ [.lst (l ++ k)]) else .stuck
  | _, _ => .stuck
theorem zbf {A : Hs} {l k : List D} (h : l.length + k.length ≤ 16000000) : ad_ A (some l) (some k) = .ok (.ref A.length) (A ++ [.lst (l ++ k)]) := by
  show (if l.length + k.length ≤ sizeLine then _ else _) = _
  rw [if_pos (z0a h)]
theorem z71 {A : Hs} {i j : Nat} : oAdd (.ref i) (.ref j) A = ad_ A (sq_ A[i]?) (sq_ A[j]?) := by
  unfold oAdd ad_ sq_
  simp only
  rcases A[i]? with _ | u
  · rfl
  · cases u with
    | lst l =>
      rcases A[j]? with _ | v
      · rfl
      · cases v <;> rfl
    | _ => rfl
/-- a statement that goes on, by what holds of it -/
def Nx (r : RS) (P : Sl → Hs → Prop) : Prop := match r with
  | .nx e A => P e A
  | _ => False
theorem z84 {e : Sl} {A : Hs} {P : Sl → Hs → Prop} : Nx (.nx e A) P = P e A := rfl
theorem Nx.call {r : RS} {P : Sl → Hs → Prop} (Q : RS → Prop) (h : Nx r P) (k : ∀ e A, P e A → Q (.nx e A)) : Q r := by
  cases r with
  | nx e A => exact k e A h
  | _ => exact h.elim
theorem rep_nS {n : Nat} : List.replicate (n + 1) (none : Option D) = none :: List.replicate n none := rfl
theorem rep_n0 : List.replicate 0 (none : Option D) = [] := rfl
end SM

/-! ## list.index of flat items -/
namespace SM
open PySem L2
open DL (Ex ExK)
def fV : D → Option V
  | .non => some .non
  | .bl b => some (.bl b)
  | .int i => some (.int i)
  | .str s => some (.str s)
  | _ => none
def fVs : List D → Option (List V)
  | [] => some []
  | d :: r => match fV d, fVs r with
    | some v, some vs => some (v :: vs)
    | _, _ => none
section
variable {K : PySem.W.Frag} {ca : CaT} {F : Hp} {m : List Addr}
end
/-- the first place of y -/
def idxV (y : V) : List V → Option Nat
  | [] => none
  | z :: r => if eqV z y = true then some 0 else (idxV y r).map (· + 1)
def oIndex (x : D) (ds : List D) (A : Hs) : RE D := match (seqL A x).bind fVs, ds with
  | some ws, [d] => match fV d with
    | some y => match idxV y ws with
      | some j => .ok (.int (j : Nat)) A
      | none => .stuck
    | none => .stuck
  | _, _ => .stuck
section
variable {K : PySem.W.Frag} {ca : CaT}
end
/-! equations -/
section
variable {A : Hs} {x y d : D} {i : Nat} {l : List D}
def ix3 (A : Hs) (y : V) : Option (List V) → RE D
  | some ws => at_ A ((idxV y ws).map fun j => .int (j : Nat))
  | none => .stuck
theorem z24 {b : Bool} : oIndex (.ref i) [.bl b] A = ix3 A (.bl b) ((sq_ A[i]?).bind fVs) := by
  unfold oIndex ix3; rw [z5q]
  cases (sq_ A[i]?).bind fVs with
  | none => rfl
  | some ws => simp only [fV]; cases idxV (V.bl b) ws <;> rfl
theorem z2d {n : Int} : oIndex (.ref i) [.int n] A = ix3 A (.int n) ((sq_ A[i]?).bind fVs) := by
  unfold oIndex ix3; rw [z5q]
  cases (sq_ A[i]?).bind fVs with
  | none => rfl
  | some ws => simp only [fV]; cases idxV (V.int n) ws <;> rfl
theorem z7k {y : V} {ws : List V} : ix3 A y (some ws) = at_ A ((idxV y ws).map fun j => .int (j : Nat)) := rfl
theorem z4x : fVs [] = some [] := rfl
theorem z87 {b : Bool} {r : List D} : fVs (.bl b :: r) = (fVs r).map (V.bl b :: ·) := by
  conv => lhs; unfold fVs
  simp only [fV]; cases fVs r <;> rfl
theorem z7j {b : Int} {r : List D} : fVs (.int b :: r) = (fVs r).map (V.int b :: ·) := by
  conv => lhs; unfold fVs
  simp only [fV]; cases fVs r <;> rfl
theorem z2y {y : V} : idxV y [] = none := rfl
theorem z64 {b c : Bool} {r : List V} : idxV (.bl c) (.bl b :: r) = if b = c then some 0 else (idxV (.bl c) r).map (· + 1) := by
  rw [idxV]; cases b <;> cases c <;> rfl
end
/-! try, count -/
section
variable {A A1 : Hs} {env e1 : Sl} {d : D} {i j : Nat} {C : String} {cts : List String} {b s : S}
def tryK_ (cts : List String) (i j : Nat) (r : RS) : RS := match r with
  | .exc C env1 A1 => if C ∈ cts then .nx (((env1.set i (some (.exc C))).set j (some (.exc C))).set i none) A1 else .stuck
  | r => r
theorem z5y : sTryK cts i j b env A = tryK_ cts i j (b env A) := rfl
theorem z3z : tryK_ cts i j (.nx env A) = .nx env A := rfl
theorem z47 : tryK_ cts i j (.rt d A) = .rt d A := rfl
theorem z2z (h : C ∈ cts) : tryK_ cts i j (.exc C env A) = .nx (((env.set i (some (.exc C))).set j (some (.exc C))).set i none) A := if_pos h
def tryO_ (cts : List String) (s : S) (r : RS) : RS := match r with
  | .exc C env1 A1 => if C ∈ cts then s env1 A1 else .stuck
  | r => r
theorem z50 : sTryO cts b s env A = tryO_ cts s (b env A) := rfl
theorem z4g : tryO_ cts s (.nx env A) = .nx env A := rfl
theorem z4j : tryO_ cts s (.rt d A) = .rt d A := rfl
theorem z2m (h : C ∈ cts) : tryO_ cts s (.exc C env A) = s env A := if_pos h
def cn_ (A : Hs) (c : Bool) : Option (List Bool) → RE D
  | some bs => .ok (.int (bs.count c : Nat)) A
  | none => .stuck
theorem z2i {c : Bool} : oCount (.ref i) [.bl c] A = cn_ A c ((sq_ A[i]?).bind boolsOf) := by
  unfold oCount; rw [z5q]; cases (sq_ A[i]?).bind boolsOf <;> rfl
theorem zau {c : Bool} {bs : List Bool} : cn_ A c (some bs) = .ok (.int (bs.count c : Nat)) A := rfl
theorem z5b : boolsOf [] = some [] := rfl
theorem z4k {c : Bool} {r : List D} : boolsOf (.bl c :: r) = (boolsOf r).map (c :: ·) := rfl
theorem z38 {c : Bool} : List.count c [] = 0 := rfl
theorem z1r {c b : Bool} {r : List Bool} : List.count c (b :: r) = List.count c r + (if b = c then 1 else 0) := by
  rw [List.count_cons]; cases b <;> cases c <;> rfl
end
/-! a, b, c = x, y, z -/
def sPar3 (i j l : Nat) (as : As) : S := fun env A => match as env A with
  | .ok [x, y, z] A1 => .nx (((env.set i (some x)).set j (some y)).set l (some z)) A1
  | .exc C A1 => .exc C env A1
  | _ => .stuck
section
variable {K : PySem.W.Frag} {ca : CaT} {W : WX} {i j l : Nat} {as : As} {ts : TA} {A : Hs} {env : Sl} {x y z : D}
def par3_ (env : Sl) (i j l : Nat) (r : RE (List D)) : RS := match r with
  | .ok [x, y, z] A1 => .nx (((env.set i (some x)).set j (some y)).set l (some z)) A1
  | .exc C A1 => .exc C env A1
  | _ => .stuck
theorem z56 : sPar3 i j l as env A = par3_ env i j l (as env A) := rfl
theorem z3n : par3_ env i j l (.ok [x, y, z] A) = .nx (((env.set i (some x)).set j (some y)).set l (some z)) A := rfl
end
/-- o.f where a block stands -/
theorem pe_fldK {X : Cx} {K : PySem.W.Frag} {e : Expr} {f : Str} {pos : Pos} {ta : TE} (hK : X.K = K) (he : PE X e ta) (hb : attributeBase e f X.env (eval e X.env) = eval e X.env) : PE X (.Attribute e f pos) (tFld K ta f) := by
  subst hK; exact pe_fld he hb
/-! tuple(range(n)) -/
def eTupRg (a : E) : E := fun env A => (a env A).bind fun x A1 => match x with
  | .int n => if 0 ≤ n ∧ n ≤ 16777216 then .ok (.tup (rgL 0 1 n.toNat)) A1 else .stuck
  | _ => .stuck
section
variable {K : PySem.W.Frag} {ca : CaT} {W : WX} {te : TE} {a : E} {A : Hs} {n : Int}
def tupRg_ (A : Hs) : D → RE D
  | .int n => if 0 ≤ n ∧ n ≤ 16777216 then .ok (.tup (rgL 0 1 n.toNat)) A else .stuck
  | _ => .stuck
theorem z4o {env : Sl} : eTupRg a env A = (a env A).bind fun x A1 => tupRg_ A1 x := by
  unfold eTupRg tupRg_; rfl
theorem z3j (h : 0 ≤ n ∧ n ≤ 16777216) : tupRg_ A (.int n) = .ok (.tup (rgL 0 1 n.toNat)) A := if_pos h
end
/-- a def that has a second name -/
theorem Dx.of2 {P : Program} {w : World} {K : PySem.W.Frag} {mg : Str → Option Value} {base : Heap} {k : Nat} {x x0 qn : Str} {st : Stmt} {fa : Addr} {fd : FuncData} {ps : List Str} {sp : Sp} (h : FnOk P w K mg base (L2.CX P w) k fa fd ps sp) (F : Fun K x0 qn st fa fd) (hm : mg x = some (.ref fa)) (b : Binds K fd ps []) : DL.Dx P w K mg base k x sp := ⟨fa, fd, ps, h, hm, F.kp, b⟩
end SM

/-! ## defs with defaults -/
namespace L2
open PySem PySem.Spec PyProof.Rows
section
variable {X : Cx} {CX : CXT} {k : Nat} {f C : Addr} {fd : FuncData} {ps : List Str} {sp : Sp} {E : St → XK} {x : Str} {p pos : Pos} {e : Expr} {es : List Expr} {t : TA} {ds : List Value} {dvs : List V}
end
end L2
namespace DL
open PySem L2
/-- a class whose __init__ is called with its defaults dvs -/
structure MxD (P : Program) (w : World) (K : PySem.W.Frag) (mg : Str → Option Value) (base : Heap) (k : Nat) (x : Str) (C : Addr) (sp : Sp) (dvs : List V) : Prop where
  ex : ∃ (f : Addr) (fd : FuncData) (ps : List Str) (ds : List Value), Mk K C f ∧ FnOk P w K mg base (L2.CX P w) k f fd ps sp ∧ mg x = some (.ref C) ∧ Binds K fd ps ds ∧ Vals dvs ds
theorem MxD.of {P : Program} {w : World} {K : PySem.W.Frag} {mg : Str → Option Value} {base : Heap} {k : Nat} {x : Str} {C fa : Addr} {fd : FuncData} {ps : List Str} {sp : Sp} {dvs : List V} (M : Mk K C fa) (h : FnOk P w K mg base (L2.CX P w) k fa fd ps sp) (hm : mg x = some (.ref C)) (b : ∃ ds, Vals dvs ds ∧ Binds K fd ps ds) : MxD P w K mg base k x C sp dvs := by
  obtain ⟨ds, v, b⟩ := b
  exact ⟨fa, fd, ps, ds, M, h, hm, b, v⟩
theorem MxD.full {P : Program} {w : World} {K : PySem.W.Frag} {mg : Str → Option Value} {base : Heap} {k : Nat} {x : Str} {C : Addr} {sp : Sp} (h : MxD P w K mg base k x C sp []) : Mx P w K mg base k x C sp := by
  obtain ⟨fa, fd, ps, ds, M, h, hm, b, v⟩ := h.ex
  cases v
  exact ⟨fa, fd, ps, M, h, hm, b⟩
section
variable {X : Cx} {W : WX} {k j : Nat} {x : Str} {C : Addr} {sp : Sp} {p pos : Pos} {e : Expr} {es : List Expr} {t : TA} {dvs : List V}
end
end DL
namespace SM
open PySem L2
open DL (Ex ExK)
section
variable {K : PySem.W.Frag} {ca : CaT} {W : WX} {as : As} {ts : TA} {C : String} {f : Fn} {A : Hs} {env : Sl} {l : List D}
def eMakeD (C : String) (f : Fn) (dd : List D) (as : As) : E := fun env A => (as env A).bind fun ds A1 => make C f (ds ++ dd) A1
def eMakeD0 (C : String) (f : Fn) (dd : List D) (as : As) : E := fun env A => (as env A).bind fun ds A1 => (make C f (ds ++ dd) A1).noX
theorem z3f {dd : List D} : eMakeD C f dd as env A = (as env A).bind fun ds A1 => make C f (ds ++ dd) A1 := rfl
theorem z20 {dd : List D} : eMakeD0 C f dd as env A = (as env A).bind fun ds A1 => (make C f (ds ++ dd) A1).noX := rfl
end
section
variable {P : Program} {w : World} {K : PySem.W.Frag} {mg : Str → Option Value} {base : Heap} {ca : CaT} {x qn : Str} {st : Stmt} {fa : Addr} {fd : FuncData} {N ps : List Str} {k : Nat}
end
end SM

/-! ## t[::e] of a tuple, e = 1 or -1 -/
namespace SM
open PySem L2 PySem.Spec PyProof.Rows
section
variable {prog : Program} {w : World} {A : Around} {E : Value → Shared → Prop} {s : Shared}
end
section
open DL (Ex ExK)
variable {K : PySem.W.Frag} {ca : CaT} {W : WX} {ta tb : TE} {a b : E}
def oStT (x y : D) (A : Hs) : RE D := match seqT x with
  | some l => match y with
    | .int i => if i = 1 then .ok x A else if i = -1 then .ok (.tup l.reverse) A else .stuck
    | _ => .stuck
  | _ => .stuck
theorem z66 {l : List D} {A : Hs} : oStT (.tup l) (.int 1) A = .ok (.tup l) A := rfl
theorem z6w {l : List D} {A : Hs} : oStT (.tup l) (.int (-1)) A = .ok (.tup l.reverse) A := rfl
end
end SM

/-! ## text * 0, text * 1 -/
namespace L2
open PySem PySem.Spec PyProof.Rows
end L2
namespace SM
open PySem L2
open DL (Ex ExK)
section
variable {K : PySem.W.Frag} {ca : CaT}
def oMulS (x y : D) (A : Hs) : RE D := match x, y with
  | .str s, .int i => if i = 1 then .ok (.str s) A else if i = 0 then .ok (.str Str.empty) A else .stuck
  | _, _ => .stuck
end
theorem z4w {A : Hs} {s : String} : oMulS (dS s) (.int 1) A = .ok (dS s) A := rfl
theorem z36 {A : Hs} {s : String} : oMulS (dS s) (.int 0) A = .ok (dS "") A := rfl
section
variable {A : Hs} {env : Sl} {o a e : E} {i : Nat} {x y z d : D} {kv : List (D × D)} {t lk : Bool}
theorem z5s : eGet2 o a e env A = (o env A).bind fun x A1 => if isDic A1 x = true then (a env A1).bind fun y A2 => (e env A2).bind fun z A3 => ofO A3 (getD A3 x y z) else .stuck := rfl
def gD_ (y z : D) : Option O → Option D
  | some (.dic t _ kv) => if keyOk t y = true then some ((kget kv y).getD z) else none
  | _ => none
theorem z75 : getD A (.ref i) y z = gD_ y z A[i]? := by
  unfold getD gD_ dicAt
  rcases h : A[i]? with _ | u
  · simp only [h]
  · cases u <;> simp only [h]
theorem za8 : gD_ y z (some (.dic t lk kv)) = if keyOk t y = true then some ((kget kv y).getD z) else none := rfl
theorem z96 {α : Type} {d : α} : ofO A (some d) = .ok d A := rfl
end
def oL_ (r : RE D) (x : D) (A : Hs) : Option (List D) → RE D
  | some l => if l.isEmpty = true then r else .ok x A
  | none => .stuck
theorem z7t {A : Hs} {env : Sl} {a b : E} : eOrL a b env A = (a env A).bind fun x A1 => oL_ (b env A1) x A1 (seqL A1 x) := by
  unfold eOrL
  cases a env A with
  | ok x A1 =>
    simp only [RE.bind]
    cases seqL A1 x <;> rfl
  | exc _ _ => rfl
  | stuck => rfl
theorem zae {r : RE D} {x : D} {A : Hs} {l : List D} : oL_ r x A (some l) = if l.isEmpty = true then r else .ok x A := rfl
/-! len(set(xs)) of ints -/
def eLenSet (a : E) : E := fun env A => (a env A).bind fun x A1 => match (seqL A1 x).bind intsOf with
  | some ns => if ns.length ≤ 4000 then .ok (.int (L2.unlike ns : Nat)) A1 else .stuck
  | none => .stuck
def lnS_ (A : Hs) : Option (List Int) → RE D
  | some ns => if ns.length ≤ 4000 then .ok (.int (L2.unlike ns : Nat)) A else .stuck
  | none => .stuck
theorem z2t {a : E} {env : Sl} {A : Hs} : eLenSet a env A = (a env A).bind fun x A1 => lnS_ A1 ((seqL A1 x).bind intsOf) := by
  unfold eLenSet lnS_; rfl
theorem z9b {A : Hs} {ns : List Int} (h : ns.length ≤ 4000) : lnS_ A (some ns) = .ok (.int (L2.unlike ns : Nat)) A := if_pos h
/-- a def that is called by no run -/
theorem Dx.never {P : Program} {w : World} {K : PySem.W.Frag} {mg : Str → Option Value} {base : Heap} {ca : CaT} {k : Nat} {x x0 qn : Str} {st : Stmt} {fa : Addr} {fd : FuncData} {ps : List Str} (F : Fun K x0 qn st fa fd) (hm : mg x = some (.ref fa)) (b : Binds K fd ps []) : DL.Dx P w K mg base k x (SpF K ca fun _ _ => .stuck) := by
  refine ⟨fa, fd, ps, ⟨fun vs H Q E h => ?_, fun A outer s H args us vs Q E _ _ _ _ h => ?_⟩, hm, F.kp, b⟩
  · obtain ⟨_, _, _, _, _, _, p⟩ := h; exact p.elim
  · obtain ⟨_, _, _, _, _, _, p⟩ := h; exact p.elim
end SM

/-! ## z.join(xs).replace(y, w), int(text) -/
namespace DL
open PySem L2 PySem.Spec PyProof.Rows
section
variable {X : Cx} {e : Expr} {te : TE} {x y z : Str} {j k i : Nat} {c c0 c1 ap1 p1 apos pos : Pos}
end
def rIntT : List V → Hp → VK → Prop := fun xs H Q => rInt1 xs H Q ∨ ∃ a n, xs = [.str a] ∧ PySem.intText? a = some n ∧ a.length ≤ 640 ∧ Q (.int n) H
def rStrI : List V → Hp → VK → Prop := fun xs H Q => ∃ i, xs = [V.int i] ∧ i.natAbs.log2 < 1920 ∧ Q (.str (toString i)) H
end DL
namespace SM
open PySem L2
open DL (rJoin rIntT rStrI)
section
variable {K : PySem.W.Frag} {ca : CaT} {F H H1 : Hp} {m : List Addr} {A A1 : Hs} {σ : L2.St} {env : Sl} {W : WX} {Q : VK}
variable {to : TE} {o : E}
def rpl (y z : Str) (A : Hs) : D → RE D
  | .str x => if x.length + (x.length + 1) * z.length ≤ 16777216 then .ok (.str (Txt.replace x y z)) A else .stuck
  | _ => .stuck
def eRepl (y z : Str) (o : E) : E := fun env A => (o env A).bind fun x A1 => rpl y z A1 x
def oIntT (x : D) (A : Hs) : RE D := match x with
  | .int i => .ok (.int i) A
  | .bl b => .ok (.int (if b then 1 else 0)) A
  | .str a => if a.length ≤ 640 then match PySem.intText? a with
    | some n => .ok (.int n) A
    | none => .stuck
    else .stuck
  | _ => .stuck
/-- not by rfl alone: else the kernel may unfold the whole def that is called -/
theorem z8j {α β : Type} {a : α} {A : Hs} {f : α → Hs → RE β} : (RE.ok a A).bind f = f a A := id rfl
theorem z9u {e : Sl} {A : Hs} {f : S} : seqR (.nx e A) f = f e A := id rfl
theorem z8k {a b : S} : sSeq a b env A = seqR (a env A) b := id rfl
theorem z5h {y z : Str} : eRepl y z o env A = (o env A).bind fun x A1 => rpl y z A1 x := rfl
theorem z4c {p : Int} : oIntT (.int p) A = .ok (.int p) A := rfl
theorem z32 {b : Bool} : oIntT (.bl b) A = .ok (.int (if b then 1 else 0)) A := rfl
end
/-- a module's own tuple of ints -/
def KTpl (K : PySem.W.Frag) (a : Addr) (ns : List Int) : Prop := ∃ (o : Obj) (its : Array Value) (n : Nat), K.lookup a = some o ∧ o.cls = .type "tuple" ∧ o.data = .seq its n ∧ its.size ≤ sizeLine ∧ Vals (ns.map V.int) its.toList
theorem repL_ints {K : PySem.W.Frag} {ca : CaT} {F : Hp} {m : List Addr} : ∀ ns : List Int, RepL K ca F m (ns.map V.int) (ns.map D.int)
  | [] => .nil
  | n :: ns => .cons (.int n) (repL_ints ns)
theorem KTpl.rep {K : PySem.W.Frag} {ca : CaT} {a : Addr} {ns : List Int} (h : KTpl K a ns) (F : Hp) (m : List Addr) : Rep K ca F m (.ref a) (.wt (ns.map D.int)) := .wt (.inr h) (repL_ints ns)
end SM

/-! ## dicts walked: locked while a loop runs; their keys, values, pairs; dict(x); sorted(ints) -/
namespace SM
open PySem L2
open DL (Ex ExK)
section
variable {K : PySem.W.Frag} {ca : CaT} {F F1 F2 H H1 H2 : Hp} {m m1 m2 : List Addr} {A A1 A2 : Hs} {σ : L2.St} {env : Sl} {W : WX} {i : Nat} {u : HO} {t : Bool} {l : List (D × D)}
theorem Rl.put1 {a : Addr} {o' : O} (R : Rl K ca F m A H) (ha : m[i]? = some a) (r : ORep K ca F m (upd H a u) a o') : Rl K ca F m (A.set i o') (upd H a u) := by
  have hm : a ∈ m := List.mem_of_getElem? ha
  have fa := R.fr a hm
  obtain ⟨w0, e0, o0⟩ := R.ordy ha
  refine ⟨R.fh.right fa, by simp [R.len], R.nd, R.fr, fun j o b h1 h2 => ?_, tabs_upd R.tb e0 o0, R.ft⟩
  by_cases q : i = j
  · subst q
    rw [ha] at h2; cases h2
    rw [List.getElem?_set] at h1
    split at h1
    · split at h1
      · cases h1; exact r
      · cases h1
    · rename_i z; exact absurd rfl z
  · rw [List.getElem?_set_ne q] at h1
    have nb : b ≠ a := fun z => q (by
      subst z
      exact (List.getElem?_inj (List.getElem?_eq_some_iff.mp ha).1 R.nd).mp (ha.trans h2.symm))
    exact (R.ob j o b h1 h2).mono (Ex.refl _) (Pre.refl _) fun w hw => by rw [upd_ne nb]; exact hw
/-- a dict's object is there -/
theorem Rl.dic (R : Rl K ca F m A H) (h : A[i]? = some (.dic t false l)) : ∃ a u, m[i]? = some a ∧ H a = some u ∧ Mut (some u) ∧ (∀ od w, u ≠ .frz od w) ∧ ∀ od, ORep K ca F m (upd H a (.frz od u)) a (.dic t true l) := by
  have l0 : i < m.length := by rw [R.len]; exact (List.getElem?_eq_some_iff.mp h).1
  have ha : m[i]? = some m[i] := List.getElem?_eq_getElem l0
  have r := R.ob i _ m[i] h ha
  cases t with
  | false =>
    obtain ⟨kvs, h1, h2⟩ := r
    exact ⟨m[i], .dK kvs, ha, h1, trivial, fun od w z => (by cases z), fun od => ⟨kvs, ⟨od, upd_same⟩, h2⟩⟩
  | true =>
    obtain ⟨kvs, h1, h2⟩ := r
    exact ⟨m[i], .dT kvs, ha, h1, trivial, fun od w z => (by cases z), fun od => ⟨kvs, ⟨od, upd_same⟩, h2⟩⟩
theorem Rl.lock (R : Rl K ca F m A H) (h : A[i]? = some (.dic t false l)) : ∃ a u, H a = some u ∧ Mut (some u) ∧ ∀ od, (Rl K ca F m (A.set i (.dic t true l)) (upd H a (.frz od u)) ∧ Stp F m H F m (upd H a (.frz od u))) ∧
    ∀ F' m' A' H' l' t', Rl K ca F' m' A' H' → Stp F m (upd H a (.frz od u)) F' m' H' → A'[i]? = some (.dic t' true l') → H' a = some (.frz od u) ∧ Rl K ca F' m' (A'.set i (.dic t' false l')) (upd H' a u) ∧ Stp F m H F' m' (upd H' a u) := by
  obtain ⟨a, u, ha, hu, mu, nz, hr⟩ := R.dic h
  have hm : a ∈ m := List.mem_of_getElem? ha
  refine ⟨a, u, hu, mu, fun od => ⟨R.put ha (fun od' w z => by rw [hu] at z; cases z; exact nz _ _ rfl) (hr od), fun F' m' A' H' l' t' R' g' hA' => ?_⟩⟩
  have hfz : H' a = some (.frz od u) := g'.fz a od u upd_same
  have ha' : m'[i]? = some a := g'.mm.get ha
  have r := R'.ob i _ a hA' ha'
  have new : ORep K ca F' m' (upd H' a u) a (.dic t' false l') := by
    cases t' with
    | false =>
      obtain ⟨kvs, ⟨od', x⟩, h2⟩ := r
      rw [hfz] at x
      cases x
      exact ⟨kvs, upd_same, h2⟩
    | true =>
      obtain ⟨kvs, ⟨od', x⟩, h2⟩ := r
      rw [hfz] at x
      cases x
      exact ⟨kvs, upd_same, h2⟩
  refine ⟨hfz, R'.put1 ha' new, ⟨g'.ff, g'.mm, fun b w hb n nt => ?_, fun b hb => ?_, fun b hb => ?_, fun b hb => ?_, fun b o w hb => ?_⟩⟩
  · have nb : b ≠ a := fun z => n (by rw [z]; exact hm)
    rw [upd_ne nb]
    exact g'.kp b w (by rw [upd_ne nb]; exact hb) n nt
  · rcases g'.gn b hb with q | q | q
    · exact .inl q
    · by_cases z : b = a
      · rw [z] at q; exact (q.no upd_same trivial).elim
      · exact .inr (.inl (q.back fun u hu => by rw [upd_ne z]; exact hu))
    · exact .inr (.inr q)
  · rcases g'.gm b hb with q | q
    · exact .inl q
    · by_cases z : b = a
      · rw [z]; exact .inl hm
      · exact .inr (q.back fun u hu => by rw [upd_ne z]; exact hu)
  · by_cases q : b = a
    · rw [q] at hb
      obtain ⟨w1, e1, o1⟩ := new.ordy
      exact (hb.no e1 o1).elim
    · exact (g'.th b (hb.back fun u hu => by rw [upd_ne q]; exact hu)).back fun u hu => by rw [upd_ne q]; exact hu
  · have nb : b ≠ a := fun z => by rw [z, hu] at hb; cases hb; exact nz _ _ rfl
    rw [upd_ne nb]
    exact g'.fz b o w (by rw [upd_ne nb]; exact hb)
end
def pkR : RE D → Option Nat
  | .ok (.ref i) _ => some i
  | _ => none
/-- unlocked again -/
def un1 {β : Type} (k : Hs → β) (s : β) (A : Hs) (i : Nat) : Option O → β
  | some (.dic t true l) => k (A.set i (.dic t false l))
  | _ => s
def ulR (i : Nat) : RS → RS
  | .nx e A => un1 (fun B => .nx e B) .stuck A i A[i]?
  | .bk e A => un1 (fun B => .bk e B) .stuck A i A[i]?
  | .ct e A => un1 (fun B => .ct e B) .stuck A i A[i]?
  | .rt d A => un1 (fun B => .rt d B) .stuck A i A[i]?
  | .exc C e A => .exc C e A
  | .stuck => .stuck
def lk2 (f : S) (env : Sl) (A : Hs) (i : Nat) : Option O → RS
  | some (.dic t false l) => ulR i (f env (A.set i (.dic t true l)))
  | _ => .stuck
def lk1 (f : S) (env : Sl) (A : Hs) : Option Nat → RS
  | some i => lk2 f env A i A[i]?
  | none => .stuck
def sLk (x : E) (f : S) : S := fun env A => lk1 f env A (pkR (x env A))
def ulE (i : Nat) : RE D → RE D
  | .ok d A => un1 (fun B => .ok d B) .stuck A i A[i]?
  | .exc C A => .exc C A
  | .stuck => .stuck
def lkE2 (f : E) (env : Sl) (A : Hs) (i : Nat) : Option O → RE D
  | some (.dic t false l) => ulE i (f env (A.set i (.dic t true l)))
  | _ => .stuck
def lkE1 (f : E) (env : Sl) (A : Hs) : Option Nat → RE D
  | some i => lkE2 f env A i A[i]?
  | none => .stuck
def eLk (x : E) (f : E) : E := fun env A => lkE1 f env A (pkR (x env A))
section
variable {K : PySem.W.Frag} {ca : CaT} {W : WX}
theorem un1_inv {β : Type} {k : Hs → β} {s : β} {A : Hs} {i : Nat} (P : β → Prop) (h : P (un1 k s A i A[i]?)) (hs : ¬ P s) : ∃ t l, A[i]? = some (.dic t true l) ∧ P (k (A.set i (.dic t false l))) := by
  cases hA : A[i]? with
  | none => rw [hA] at h; exact absurd h hs
  | some o =>
    rw [hA] at h
    cases o with
    | dic t lk l =>
      cases lk with
      | true => exact ⟨t, l, rfl, h⟩
      | false => exact absurd h hs
    | lst l => exact absurd h hs
    | obj C fs => exact absurd h hs
theorem se_lk {t : TE} {f x : E} (h : SimE K ca W t f) : SimE K ca W (tLockE t) (eLk x f) := fun F m A σ H env Q R S p => by
  unfold eLk at p
  cases q : pkR (x env A) with
  | none => rw [q] at p; exact p.elim
  | some i =>
    rw [q] at p
    have p : Po K ca (Rep K ca) F m H W σ Q (lkE2 f env A i A[i]?) := p
    cases hA : A[i]? with
    | none => rw [hA] at p; exact p.elim
    | some o =>
      rw [hA] at p
      cases o with
      | lst l => exact p.elim
      | obj C fs => exact p.elim
      | dic tt_ lk l =>
        cases lk with
        | true => exact p.elim
        | false =>
          obtain ⟨a, u, hu, mu, hl⟩ := R.lock hA
          refine ⟨a, u, hu, mu, fun od => ?_⟩
          obtain ⟨⟨R1, g1⟩, hul⟩ := hl od
          refine h F m _ σ _ env _ R1 (S.stp g1) ?_
          have p : Po K ca (Rep K ca) F m H W σ Q (ulE i (f env (A.set i (.dic tt_ true l)))) := p
          cases z : f env (A.set i (.dic tt_ true l)) with
          | ok d A2 =>
            rw [z] at p
            obtain ⟨t', l', hA2, p⟩ := un1_inv (fun r => Po K ca (Rep K ca) F m H W σ Q r) p (fun z => z)
            exact fun v F' m' H' R' g' S' => ⟨(hul F' m' A2 H' l' t' R' g' hA2).1, p v F' m' _ (hul F' m' A2 H' l' t' R' g' hA2).2.1 (hul F' m' A2 H' l' t' R' g' hA2).2.2 S'⟩
          | exc C A2 =>
            rw [z] at p
            exact fun F' m' H' R' g' => p F' m' H' R' (g1.trans g')
          | stuck => rw [z] at p; exact p.elim
end
/-! what is walked -/
def wd_ (A : Hs) (i : Nat) (f : Bool → List (D × D) → Option (List D)) : Option O → Option Wk
  | some (.dic t true l) => (f t l).map fun ds => ⟨ds, fun A' => A'[i]? = some (.dic t true l)⟩
  | _ => none
def wdA (f : Bool → List (D × D) → Option (List D)) (A : Hs) : D → Option Wk
  | .ref i => wd_ A i f A[i]?
  | _ => none
def wkK : Hs → D → Option Wk := wdA fun _ l => some (l.map Prod.fst)
def wkV : Hs → D → Option Wk := wdA fun t l => if t = false then some (l.map Prod.snd) else none
def wkI : Hs → D → Option Wk := wdA fun t l => if t = false then some (l.map fun p => .tup [p.1, p.2]) else none
section
variable {K : PySem.W.Frag} {ca : CaT} {F F1 F2 H H1 H2 : Hp} {m m1 m2 : List Addr} {A A1 A2 : Hs} {W : WX} {te : TE} {a : E}
theorem rep_kD (k : Key) : Rep K ca F m (kV k) (kD k) := by
  cases k with
  | inl i => exact .int i
  | inr x => exact .str x
theorem KvR.at_ {κ δ : Type} {kd : κ → δ} : ∀ {kvs : List (κ × V)} {l : List (δ × D)}, KvR K ca F m kd kvs l → ∀ {i : Nat} {k : κ} {v : V}, kvs[i]? = some (k, v) → ∃ d, l[i]? = some (kd k, d) ∧ Rep K ca F m v d
  | _, _, .nil, i, k, v, h => by simp at h
  | _, _, .cons r t, i, k, v, h => by
    cases i with
    | zero =>
      rw [List.getElem?_cons_zero] at h ⊢
      cases h
      exact ⟨_, rfl, r⟩
    | succ i =>
      rw [List.getElem?_cons_succ] at h ⊢
      exact KvR.at_ t h
/-- a locked dict -/
theorem dic_lk {v : V} {i : Nat} {t : Bool} {l : List (D × D)} (R : Rl K ca F m A H) (r : Rep K ca F m v (.ref i)) (h : A[i]? = some (.dic t true l)) : ∃ a, v = .ref a ∧ m[i]? = some a ∧ ((t = false ∧ ∃ kvs od, H a = some (.frz od (.dK kvs)) ∧ KvR K ca F m kD kvs l) ∨ (t = true ∧ ∃ kvs od, H a = some (.frz od (.dT kvs)) ∧ KvR K ca F m kT kvs l)) := by
  obtain ⟨a, e, ha, r⟩ := R.at h r
  cases t with
  | false => obtain ⟨kvs, ⟨od, x⟩, y⟩ := r; exact ⟨a, e, ha, .inl ⟨rfl, kvs, od, x, y⟩⟩
  | true => obtain ⟨kvs, ⟨od, x⟩, y⟩ := r; exact ⟨a, e, ha, .inr ⟨rfl, kvs, od, x, y⟩⟩
theorem wd_inv {f : Bool → List (D × D) → Option (List D)} {x : D} {kk : Wk} (h : wdA f A x = some kk) : ∃ i t l ds, x = .ref i ∧ A[i]? = some (.dic t true l) ∧ f t l = some ds ∧ kk = ⟨ds, fun A' => A'[i]? = some (.dic t true l)⟩ := by
  cases x with
  | ref i =>
    have h : wd_ A i f A[i]? = some kk := h
    cases q : A[i]? with
    | none => rw [q] at h; cases h
    | some o =>
      rw [q] at h
      cases o with
      | dic t lk l =>
        cases lk with
        | false => cases h
        | true =>
          obtain ⟨ds, h1, h2⟩ := Option.map_eq_some_iff.mp h
          exact ⟨i, t, l, ds, rfl, q, h1, h2.symm⟩
      | lst l => cases h
      | obj C fs => cases h
  | _ => cases h
theorem walk_keys {d : Addr} {o : Obj} {kvs : List (Key × V)} : Walk (Itk d o kvs) kvs.length (fun H => H d = some (.frz o (.dK kvs))) (fun i H x H' => H' = H ∧ ∃ k v, kvs[i]? = some (k, v) ∧ x = kV k) :=
  ⟨fun i _ hi q => ⟨q, hi⟩, fun _ q => ⟨q, Nat.le_refl _⟩, fun _ _ _ _ _ _ y => y⟩
theorem walk_keysT {d : Addr} {o : Obj} {kvs : List (List Key × V)} : Walk (Itkt d o kvs) kvs.length (fun H => H d = some (.frz o (.dT kvs))) (fun i H x H' => H' = H ∧ ∃ (k : List Key) (v : V) (q : Addr), kvs[i]? = some (k, v) ∧ x = .ref q ∧ H q = some (.tup (k.map kV))) :=
  ⟨fun i _ hi q => ⟨q, hi⟩, fun _ q => ⟨q, Nat.le_refl _⟩, fun _ _ _ _ _ _ y => y⟩
theorem repL_kT : ∀ ks : List Key, RepL K ca F m (ks.map kV) (ks.map kD)
  | [] => .nil
  | k :: ks => .cons (rep_kD k) (repL_kT ks)
theorem sw_keys (h : SimE K ca W te a) : SimI K ca W (iKeys te) (wOf wkK a) := fun F m A σ H env Q R S p => wOf_bind h R S p fun F1 m1 A1 H1 x d kk R1 r hk p1 => by
  obtain ⟨i, t, l, ds, rfl, hA, hf, rfl⟩ := wd_inv hk
  cases hf
  obtain ⟨ad, rfl, ha, q⟩ := dic_lk R1 r hA
  rcases q with ⟨rfl, kvs, od, hd, hkv⟩ | ⟨rfl, kvs, od, hd, hkv⟩
  · refine ⟨ad, od, rfl, .inl ⟨kvs, hd, p1 _ F1 m1 H1 R1 Stp.refl ⟨_, (fun i H x H' => H' = H ∧ ∃ k v, kvs[i]? = some (k, v) ∧ x = kV k), ?_, fun F2 m2 A2 H2 hg R2 g2 => g2.fz _ _ _ hd, fun i' d' x' F2 m2 A2 H2 H3 e hg R2 g2 y => .inl ?_⟩⟩⟩
    · rw [show (Wk.mk (l.map Prod.fst) _).ds.length = kvs.length from (List.length_map _).trans hkv.length.symm]; exact walk_keys
    · obtain ⟨e1, k, v, e2, e3⟩ := y
      obtain ⟨dd, e4, _⟩ := hkv.at_ e2
      refine ⟨e1, ?_⟩
      have e : (l.map Prod.fst)[i']? = some d' := e
      rw [List.getElem?_map, e4] at e
      cases e
      rw [e3]
      exact rep_kD k
  · refine ⟨ad, od, rfl, .inr ⟨kvs, hd, p1 _ F1 m1 H1 R1 Stp.refl ⟨_, (fun i H x H' => H' = H ∧ ∃ (k : List Key) (v : V) (q : Addr), kvs[i]? = some (k, v) ∧ x = .ref q ∧ H q = some (.tup (k.map kV))), ?_, fun F2 m2 A2 H2 hg R2 g2 => g2.fz _ _ _ hd, fun i' d' x' F2 m2 A2 H2 H3 e hg R2 g2 y => .inr (.inr (.inl ?_))⟩⟩⟩
    · rw [show (Wk.mk (l.map Prod.fst) _).ds.length = kvs.length from (List.length_map _).trans hkv.length.symm]; exact walk_keysT
    · obtain ⟨e1, k, v, q, e2, e3, e5⟩ := y
      obtain ⟨dd, e4, _⟩ := hkv.at_ e2
      have e : (l.map Prod.fst)[i']? = some d' := e
      rw [List.getElem?_map, e4] at e
      cases e
      exact ⟨q, k.map kV, k.map kD, rfl, e3, e5, e1, repL_kT k⟩
end
/-! dict(xs), sorted(xs) -/
def pairsD : List D → Option (List (D × D))
  | [] => some []
  | .tup [k, v] :: r => if (keyK k).isSome = true then (pairsD r).map ((k, v) :: ·) else none
  | _ => none
def oDict (x : D) (A : Hs) : RE D := match x with
  | .ref i => match A[i]? with
    | some (.dic false _ l) => alloc A (.dic false false l)
    | some (.lst l) => match pairsD l with
      | some ps => alloc A (.dic false false (kmerge [] ps))
      | none => .stuck
    | _ => .stuck
  | _ => .stuck
def srt (l : List Int) : List Int := l.mergeSort fun a b => decide (a ≤ b)
def oSorted (x : D) (A : Hs) : RE D := match (seqL A x).bind intsOf with
  | some ns => alloc A (.lst ((srt ns).map D.int))
  | none => .stuck
section
variable {K : PySem.W.Frag} {ca : CaT} {F F1 F2 H H1 H2 : Hp} {m m1 m2 : List Addr} {A A1 A2 : Hs} {W : WX} {te : TE} {a : E}
end
/-! for plain proofs -/
section
variable {A B : Hs} {i : Nat} {e env : Sl} {d : D} {t : Bool} {l : List (D × D)} {f : S} {x g : E} {β : Type} {k : Hs → β} {s : β} {C : String}
theorem z9m : sLk x f env A = lk1 f env A (pkR (x env A)) := rfl
theorem zbd : eLk x g env A = lkE1 g env A (pkR (x env A)) := rfl
theorem z72 : pkR (.ok (.ref i) A) = some i := rfl
theorem z7q : lk1 f env A (some i) = lk2 f env A i A[i]? := rfl
theorem z77 : lkE1 g env A (some i) = lkE2 g env A i A[i]? := rfl
theorem z8m : lk2 f env A i (some (.dic t false l)) = ulR i (f env (A.set i (.dic t true l))) := id rfl
theorem z6t : lkE2 g env A i (some (.dic t false l)) = ulE i (g env (A.set i (.dic t true l))) := id rfl
theorem z6e : ulR i (.nx e A) = un1 (fun B => .nx e B) .stuck A i A[i]? := rfl
theorem z52 : ulR i (.bk e A) = un1 (fun B => .bk e B) .stuck A i A[i]? := rfl
theorem z6u : ulR i (.ct e A) = un1 (fun B => .ct e B) .stuck A i A[i]? := rfl
theorem z6m : ulR i (.rt d A) = un1 (fun B => .rt d B) .stuck A i A[i]? := rfl
theorem z41 : ulR i (.exc C e A) = .exc C e A := rfl
theorem z6x : ulE i (.ok d A) = un1 (fun B => .ok d B) .stuck A i A[i]? := rfl
theorem z3c : ulE i (.exc C A) = .exc C A := rfl
theorem z7v : un1 k s A i (some (.dic t true l)) = k (A.set i (.dic t false l)) := rfl
theorem z7c : wkK A (.ref i) = wd_ A i (fun _ l => some (l.map Prod.fst)) A[i]? := rfl
theorem z9d : wkV A (.ref i) = wd_ A i (fun t l => if t = false then some (l.map Prod.snd) else none) A[i]? := rfl
theorem z7x : wkI A (.ref i) = wd_ A i (fun t l => if t = false then some (l.map fun p => .tup [p.1, p.2]) else none) A[i]? := rfl
theorem zaq {f : Bool → List (D × D) → Option (List D)} : wd_ A i f (some (.dic t true l)) = (f t l).map fun ds => ⟨ds, fun A' => A'[i]? = some (.dic t true l)⟩ := rfl
def od_ (A : Hs) : Option O → RE D
  | some (.dic false _ l) => .ok (.ref A.length) (A ++ [.dic false false l])
  | some (.lst l) => match pairsD l with
    | some ps => .ok (.ref A.length) (A ++ [.dic false false (kmerge [] ps)])
    | none => .stuck
  | _ => .stuck
theorem z35 : oDict (.ref i) A = od_ A A[i]? := by
  unfold oDict od_
  cases h : A[i]? with
  | none => simp only [h]
  | some o =>
    simp only [h]
    cases o with
    | dic t lk l => cases t <;> rfl
    | lst l => cases pairsD l <;> rfl
    | obj C fs => rfl
theorem z9w {lk : Bool} : od_ A (some (.dic false lk l)) = .ok (.ref A.length) (A ++ [.dic false false l]) := rfl
def os_ (A : Hs) : Option (List Int) → RE D
  | some ns => .ok (.ref A.length) (A ++ [.lst ((srt ns).map D.int)])
  | none => .stuck
theorem z1n : oSorted x_ A = os_ A ((seqL A x_).bind intsOf) := by
  unfold oSorted os_
  cases (seqL A x_).bind intsOf <;> rfl
theorem zbe {ns : List Int} : os_ A (some ns) = .ok (.ref A.length) (A ++ [.lst ((srt ns).map D.int)]) := rfl
end
end SM

/-! ## a lambda handed to a def that tries it: told = work(), an error is kept by a name -/
namespace SM
open PySem PySem.Spec PyProof.Rows L2
open DL (Ex ExK)
/-- what a def's end hands back where nothing may be let out -/
def retS : RS → RE D
  | .nx _ A => .ok .non A
  | .rt d A => .ok d A
  | _ => .stuck
/-- slots: 0 what is tried, 1 what it told, 2 what was caught, 3 the handler's name -/
def trK (cts : List String) (frest : S) : RE D → RE D
  | .ok d A1 => retS (frest [none, some d, some .non, none] A1)
  | .exc C A1 => if C ∈ cts then retS (frest [none, none, some (.exc C), none] A1) else .stuck
  | .stuck => .stuck
def eTried (cts : List String) (frest : S) (th : E) : E := fun env A => trK cts frest (th env A)
section
variable {K : PySem.W.Frag} {ca : CaT} {F F1 F2 H H1 H2 : Hp} {m m1 m2 : List Addr} {A A1 A2 : Hs} {σ : L2.St} {env : Sl} {W : WX}
theorem Po.any {α β : Type} {Rr : Hp → List Addr → β → α → Prop} {Q : β → Hp → Prop} {r : RE α} {σ' : L2.St} {W' : WX} (h : Po K ca Rr F m H W σ Q r) (hx : ∀ C A, r ≠ .exc C A) : Po K ca Rr F m H W' σ' Q r := by
  cases r with
  | ok a A' => exact h
  | exc C A' => exact absurd rfl (hx C A')
  | stuck => exact h
end
section
variable {P : Program} {w : World} {K : PySem.W.Frag} {mg : Str → Option Value} {base : Heap} {k : Nat} {x qn : Str} {st : Stmt} {fa : Addr} {fd : FuncData} {N ps : List Str} {ca : CaT}
end
/-! ### the end -/
/-- no table is seen -/
def noT (H : Hp) : Hp := fun b => match H b with
  | some (.tbl _) => none
  | o => o
theorem noT_some {H : Hp} {b : Addr} {u : HO} (h : noT H b = some u) : H b = some u ∧ ∀ ps, u ≠ .tbl ps := by
  unfold noT at h
  split at h
  · cases h
  · rename_i n
    exact ⟨h, fun ps z => n ps (by rw [h, z])⟩
theorem noT_of {H : Hp} {b : Addr} {u : HO} (h : H b = some u) (n : ∀ ps, u ≠ .tbl ps) : noT H b = some u := by
  unfold noT
  split
  · rename_i ps z; rw [h] at z; exact absurd (Option.some.inj z) (n ps)
  · exact h
theorem SqL.noT {K : PySem.W.Frag} {H : Hp} {a : Addr} {xs : List V} (h : SqL K H a xs) : SqL K (noT H) a xs := by
  rcases h with (h | ⟨o, h⟩) | h
  · exact .inl (.inl (noT_of h (by intro _ z; cases z)))
  · exact .inl (.inr ⟨o, noT_of h (by intro _ z; cases z)⟩)
  · exact .inr h
theorem Rl.start {K : PySem.W.Frag} {ca : CaT} {H : Hp} (h : ∀ p ∈ ca.T, H p.1 = some (.tbl #[])) : Rl K ca (SM.noT H) [] [] H :=
  ⟨fun a o h => (noT_some h).1, rfl, List.nodup_nil, fun a h => by simp at h, fun i o a h => by simp at h, fun p hp => LamX.TabS.nil (h p hp), fun a ps h => (noT_some h).2 ps rfl⟩
end SM
/-! ### the script and a list -/
namespace L2
open PySem PySem.Spec PyProof.Rows
end L2
namespace SM
open PySem PySem.Spec PyProof.Rows L2
open DL (Ex ExK)
def oAddS (x y : D) (A : Hs) : RE D := match x, y with
  | .scr l, .ref j => match A[j]? with
    | some (.lst k) => if l.length + k.length ≤ sizeLine then alloc A (.lst (l ++ k)) else .stuck
    | _ => .stuck
  | _, _ => .stuck
theorem z6y {A : Hs} {l k : List D} {j : Nat} (h : A[j]? = some (.lst k)) (hl : l.length + k.length ≤ 16000000) : oAddS (.scr l) (.ref j) A = .ok (.ref A.length) (A ++ [.lst (l ++ k)]) := by
  unfold oAddS; simp only [h]; rw [if_pos (z0a hl)]; rfl
/-! ### equations for the plain proofs -/
theorem z4a {cts : List String} {fr : S} {th : E} {env : Sl} {A : Hs} : eTried cts fr th env A = trK cts fr (th env A) := id rfl
theorem z5x {cts : List String} {fr : S} {d : D} {A1 : Hs} : trK cts fr (.ok d A1) = retS (fr [none, some d, some .non, none] A1) := id rfl
theorem z4v {cts : List String} {fr : S} {C : String} {A1 : Hs} (h : C ∈ cts) : trK cts fr (.exc C A1) = retS (fr [none, none, some (.exc C), none] A1) := by
  show (if C ∈ cts then _ else _) = _
  rw [if_pos h]
theorem z4d {d : D} {A : Hs} : retS (.rt d A) = .ok d A := id rfl
theorem z4n {env : Sl} {A : Hs} : retS (.nx env A) = .ok .non A := id rfl
end SM

/-! ## min, max, sorted of data (ints, truths, texts, tuples of these); min, max with a default; max of a dict's keys -/
namespace L2
open PySem PySem.Spec PyProof.Rows PySem.W
/-- the place of the first of the least (gt: of the greatest) -/
def bix (gt : Bool) (ds : List PyData) : Nat := argBest (fun i j => if gt = true then dataLt (ds.getD j .none) (ds.getD i .none) else dataLt (ds.getD i .none) (ds.getD j .none)) (ds.length - 1)
def rBest (K : PySem.W.Frag) (gt : Bool) : List V → Hp → VK → Prop := fun vs H Q => ∃ (a : Addr) (xs : List V) (ds : List PyData), vs = [.ref a] ∧ SqL K H a xs ∧ DpAll K H xs ds ∧ AlikeAll ds ∧ PyData.depthAll ds ≤ 60 ∧ 0 < ds.length ∧ ∀ v, xs[bix gt ds]? = some v → Q v H
theorem Vals.at_ {xs : List V} {us : List Value} (r : Vals xs us) : ∀ {i : Nat} {u : Value}, us[i]? = some u → ∃ x, xs[i]? = some x ∧ RelV x u := by
  induction r with
  | nil => intro i u h; simp at h
  | cons h t ih =>
    intro i u e
    cases i with
    | zero => rw [List.getElem?_cons_zero] at e ⊢; cases e; exact ⟨_, rfl, h⟩
    | succ i => rw [List.getElem?_cons_succ] at e ⊢; exact ih e
theorem call_minD {X : Cx} (hu : X.A.units + 65 < cLine) (hc : X.calm = true) : CallR X (.builtin "min") (rBest X.K false) := by
  intro pins s σ H vs us Q I r h
  obtain ⟨a, xs, ds, rfl, hs, hd, ha, hdp, hl, q⟩ := h
  obtain ⟨its, rv, hl2, _⟩ := I.list hs
  obtain ⟨as, hr⟩ := Dp.readsAll I ds xs its hd rv
  rw [Vals.ref1 r]
  have hn : its.toArray.size = ds.length := readsAll_len hr
  refine call_min_walkH (iter_listW (A := X.A.in1) (I.ok.hd hc) hl2.isList fun s₂ e W st hfp hw hk => ?_)
  refine ⟨_, _, _, _, _, _, _, s.heap, _, rfl, W, st, hfp, by omega, hw, hk, cmpIn_lt (A := X.A.in1) hr ha (by show X.A.units + 1 + _ < _; omega), fun v s' hP m => ?_⟩
  obtain ⟨h', tk, rfl, hk'⟩ := moved_old e rfl m
  rw [hn] at hP
  have hP : its[argBest (fun i j => dataLt (ds.getD i .none) (ds.getD j .none)) (ds.length - 1)]? = some v := by simpa using hP
  obtain ⟨x, hx, rx⟩ := Vals.at_ rv hP
  exact ⟨x, H, I.kept hk', rx, q x (by unfold bix; simpa using hx)⟩
/-- max(d, default=z), d a dict with int keys -/
def rMaxKDf : List V → List V → Hp → VK → Prop := fun vs zs H Q => ∃ (a : Addr) (kvs : List (Key × V)) (is : List Int) (z : V), vs = [.ref a] ∧ zs = [z] ∧ H a = some (.dK kvs) ∧ kvs.map (·.1) = is.map Sum.inl ∧
  (is = [] → Q z H) ∧ (is ≠ [] → ∀ m, m ∈ is → (∀ j ∈ is, j ≤ m) → Q (.int m) H)
theorem call_maxKDf {X : Cx} (hc : X.calm = true) : CallRK X (.builtin "max") [Str.ofString "default"] rMaxKDf := by
  intro pins s σ H xs zs us ws Q I r rz h
  obtain ⟨a, kvs, is, z, rfl, rfl, ha, hv, q0, q⟩ := h
  rw [Vals.ref1 r]
  obtain ⟨w1, rfl, rw1⟩ := vals1 rz
  obtain ⟨_, hsys, vs, rel, dof⟩ := dk_of I.hok ha
  obtain ⟨ep, dat⟩ := dof.dictAt
  obtain ⟨ob, es, ho, hex, hdat, hko, hpr, hnd⟩ := id dat
  have hlt : a < s.heap.objs.size := Heap.lt_size ho
  have hkeys : vs.map (·.1) = is.map Sum.inl := (KV.keys rel).symm.trans hv
  have hlv : vs.length = is.length := by
    have e1 := congrArg List.length hkeys
    rw [List.length_map, List.length_map] at e1
    exact e1
  have hval : ∀ (i : Nat) (v : Value), (∃ k x, vs[i]? = some (k, x) ∧ (mixKind X.prog X.w).is k v = true) → ∃ t, v = Value.int (is.getD i 0) t := fun i v ⟨k, x, hk, hkey⟩ => by
    have e1 : (vs.map (·.1))[i]? = some k := by rw [List.getElem?_map, hk] <;> rfl
    rw [hkeys, List.getElem?_map] at e1
    obtain ⟨j, hj, e2⟩ := Option.map_eq_some_iff.mp e1
    subst e2
    have hi : Value.isInt j v = true := hkey
    obtain ⟨t, e3⟩ := Value.isInt_shape (k := j) (v := v) hi
    refine ⟨t, ?_⟩
    rw [e3, List.getD_eq_getElem?_getD, hj] <;> rfl
  have W := (Walks.dictKeys (knd := mixKind X.prog X.w) (prog := X.prog) (w := X.w) (A := X.A.in1) (I.ok.hd hc) s.heap.objs.size a (Nat.ne_of_lt hlt) vs ep).toS
  refine call_max_walkD (d := w1) (wpAny_pyIter_dict (knd := mixKind X.prog X.w) hsys dat ?_)
  refine ⟨_, _, _, _, _, _, _, s.heap, (fun i j => decide (is.getD i 0 > is.getD j 0)), rfl, W,
    ⟨⟨_, Heap.get?_push_size _ rfl, rfl, rfl⟩, dat.keep fun b u e => Heap.get?_push_of_some _ e⟩, fun b hb => ?_, fun b o e hb => ?_, fun b o e => Heap.get?_push_of_some _ e, fun hz s' m => ?_, fun hp => ⟨?_, fun v s' hP m => ?_⟩⟩
  · show b < (s.heap.push _).objs.size
    rw [Heap.size_push]
    rcases List.mem_cons.mp hb with e | hb
    · rw [e]
      exact Nat.lt_succ_self _
    · rw [List.mem_singleton.mp hb]
      exact Nat.lt_succ_of_lt hlt
  · exact absurd (Heap.lt_size e) ((List.mem_singleton.mp hb) ▸ Nat.lt_irrefl _)
  · obtain ⟨h', tk, rfl, hk'⟩ := moved_old rfl rfl m
    exact ⟨z, H, I.kept hk', rw1, q0 (List.eq_nil_of_length_eq_zero (by omega))⟩
  · intro i j vi vj s2 Q2 E2 hk hi hj hq
    obtain ⟨t1, rfl⟩ := hval i vi hi
    obtain ⟨t2, rfl⟩ := hval j vj hj
    exact CmpOf.ints_gt (fun i => is.getD i 0) hval i j _ _ s2 Q2 E2 hi hj hq
  · obtain ⟨h', tk, rfl, hk'⟩ := moved_old rfl rfl m
    obtain ⟨t, rfl⟩ := hval _ v hP
    obtain ⟨b1, b2⟩ := argBest_gt (fun i => is.getD i 0) (vs.length - 1)
    refine ⟨.int _, H, I.kept hk', ⟨t, rfl⟩, q (fun z => by rw [z] at hlv; rw [hlv] at hp; exact Nat.lt_irrefl _ hp) _ ?_ fun j hj => ?_⟩
    · have hb : argBest (fun i j => decide (is.getD i 0 > is.getD j 0)) (vs.length - 1) < is.length := by omega
      rw [List.getD_eq_getElem?_getD, List.getElem?_eq_getElem hb]
      exact List.getElem_mem hb
    · obtain ⟨i, hi, e⟩ := List.mem_iff_getElem.mp hj
      have e2 : is.getD i 0 = j := by rw [List.getD_eq_getElem?_getD, List.getElem?_eq_getElem hi, ← e] <;> rfl
      rw [← e2]
      exact b2 i (by omega)
theorem call_minU {X : Cx} {K : PySem.W.Frag} (hu : X.A.units + 65 < cLine) (hc : X.calm = true) (e : X.K = K := by rfl) : CallR X (.builtin "min") (rBest K false) := by subst e; exact call_minD hu hc
end L2
namespace SM
open PySem L2
open DL (Ex ExK)
def alikeB (ds : List PyData) : Bool := ds.all fun x => ds.all fun y => PySem.W.alike x y
def nonone : PyData → Bool
  | .none => false
  | _ => true
theorem alikeB_all {ds : List PyData} (h : alikeB ds = true) : PySem.W.AllAlike ds := fun d hd d' hd' => (List.all_eq_true.mp (List.all_eq_true.mp h d hd)) d' hd'
theorem alikeB_of {ds : List PyData} (h : alikeB ds = true) (k : ds.all nonone = true) : PySem.W.AlikeAll ds := ⟨fun x hx y hy => alikeB_all h x hx y hy, fun x hx e => by
  have := List.all_eq_true.mp k x hx
  rw [e] at this; cases this⟩
def pyAll (A : Hs) (l : List D) : Option (List PyData) := allSome (l.map (pyA A 40))
def oBest (gt : Bool) (x : D) (A : Hs) : RE D := match seqL A x with
  | some l => match pyAll A l with
    | some ds => if alikeB ds = true ∧ ds.all nonone = true ∧ 0 < ds.length then match l[bix gt ds]? with
      | some d => .ok d A
      | none => .stuck
      else .stuck
    | none => .stuck
  | none => .stuck
def mx : List Int → Int
  | [] => 0
  | [a] => a
  | a :: r => if mx r ≤ a then a else mx r
theorem mx_ok : ∀ {l : List Int}, l ≠ [] → mx l ∈ l ∧ ∀ j ∈ l, j ≤ mx l
  | [], h => absurd rfl h
  | [a], _ => ⟨List.mem_singleton_self a, fun j hj => by rw [List.mem_singleton] at hj; rw [hj]; exact Int.le_refl _⟩
  | a :: b :: r, _ => by
    obtain ⟨h1, h2⟩ := mx_ok (l := b :: r) (by simp)
    unfold mx
    split
    · rename_i q
      exact ⟨List.mem_cons_self, fun j hj => by
        rcases List.mem_cons.mp hj with e | hj
        · rw [e]; exact Int.le_refl _
        · exact Int.le_trans (h2 j hj) q⟩
    · rename_i q
      exact ⟨List.mem_cons_of_mem _ h1, fun j hj => by
        rcases List.mem_cons.mp hj with e | hj
        · rw [e]; omega
        · exact h2 j hj⟩
theorem mx_eq {l : List Int} {m : Int} (h : m ∈ l) (k : ∀ j ∈ l, j ≤ m) : m = mx l := by
  obtain ⟨h1, h2⟩ := mx_ok (l := l) (fun e => by rw [e] at h; cases h)
  have := k _ h1
  have := h2 _ h
  omega
def oMaxKDf (x z : D) (A : Hs) : RE D := match x with
  | .ref i => match A[i]? with
    | some (.dic false false l) => match intsOf (l.map Prod.fst) with
      | some [] => .ok z A
      | some ns => .ok (.int (mx ns)) A
      | none => .stuck
    | _ => .stuck
  | _ => .stuck
/-- a built-in called with one argument and one keyword -/
def eCK (f : D → D → Hs → RE D) (a b : E) : E := fun env A => (a env A).bind fun x A1 => (b env A1).bind fun y A2 => f x y A2
section
variable {K : PySem.W.Frag} {ca : CaT} {F F1 F2 H H1 H2 : Hp} {m m1 m2 : List Addr} {A A1 A2 : Hs} {W : WX} {ta tb : TE} {a b : E}
theorem py_all (R : Rl K ca F m A H) {vs : List V} {l : List D} {ds : List PyData} (h : RepL K ca F m vs l) (k : pyAll A l = some ds) : DpAll K H vs ds ∧ PyData.depthAll ds ≤ 60 := by
  obtain ⟨h1, _, h3⟩ := dp_all R (fun r e => dp_of R r e) h k
  exact ⟨h1, by omega⟩
theorem allSome_len {α : Type} : ∀ {l : List (Option α)} {r : List α}, allSome l = some r → l.length = r.length
  | [], r, h => by cases h; rfl
  | some a :: l, r, h => by
    unfold allSome at h
    obtain ⟨r', h1, rfl⟩ := Option.map_eq_some_iff.mp h
    rw [List.length_cons, List.length_cons, allSome_len h1]
  | none :: _, _, h => by cases h
theorem cs_best {gt : Bool} : CbS K ca (rBest K gt) (c1 (oBest gt)) := cs_1 fun F m A H x dx W σ Q R rx p => by
  unfold oBest at p
  split at p
  · rename_i l hl
    split at p
    · rename_i ds hd
      split at p
      · rename_i hc
        split at p
        · rename_i d hx
          obtain ⟨ad, vs, e, h3, h4⟩ := seqL_at R rx hl
          subst e
          obtain ⟨h5, h6⟩ := py_all R h4 hd
          refine ⟨ad, vs, ds, rfl, h3, h5, alikeB_of hc.1 hc.2.1, h6, hc.2.2, fun v hv => ?_⟩
          obtain ⟨v', e1, e2⟩ := h4.get hx
          rw [hv] at e1; cases e1
          exact po_ok R e2 p
        · exact p.elim
      · exact p.elim
    · exact p.elim
  · exact p.elim
theorem se_ck {r : List V → List V → Hp → VK → Prop} {o : D → D → Hs → RE D} (h : ∀ F m A H x y dx dy W σ Q, Rl K ca F m A H → Rep K ca F m x dx → Rep K ca F m y dy → Po K ca (Rep K ca) F m H W σ Q (o dx dy A) → r [x] [y] H Q) (ha : SimE K ca W ta a) (hb : SimE K ca W tb b) : SimE K ca W (tCKw r (tCons ta tNil) (tCons tb tNil)) (eCK o a b) := fun F m A σ H env Q R S p =>
  ha.bind R S p fun F1 m1 A1 H1 x dx R1 g1 S1 rx p1 => hb.bind R1 S1 p1 fun F2 m2 A2 H2 y dy R2 g2 S2 ry p2 => h F2 m2 A2 H2 x y dx dy W σ Q R2 (rx.mono g2.ff g2.mm) ry p2
theorem kvR_keys {κ δ : Type} {kd : κ → δ} : ∀ {kvs : List (κ × V)} {l : List (δ × D)}, KvR K ca F m kd kvs l → l.map Prod.fst = kvs.map fun p => kd p.1
  | _, _, .nil => rfl
  | _, _, .cons _ r => by rw [List.map_cons, List.map_cons, kvR_keys r]
theorem keys_ints : ∀ {ks : List Key} {ns : List Int}, ks.map kD = ns.map D.int → ks = ns.map Sum.inl
  | [], [], _ => rfl
  | [], _ :: _, h => by cases h
  | _ :: _, [], h => by cases h
  | k :: ks, n :: ns, h => by
    rw [List.map_cons, List.map_cons] at h
    injection h with h1 h2
    rw [List.map_cons, keys_ints h2]
    cases k with
    | inl i => cases h1; rfl
    | inr x => cases h1
theorem ck_maxKDf : ∀ F m A H x y dx dy W σ Q, Rl K ca F m A H → Rep K ca F m x dx → Rep K ca F m y dy → Po K ca (Rep K ca) F m H W σ Q (oMaxKDf dx dy A) → rMaxKDf [x] [y] H Q := fun F m A H x y dx dy W σ Q R rx ry p => by
  unfold oMaxKDf at p
  split at p
  · rename_i i
    split at p
    · rename_i l hA
      obtain ⟨ad, e, ha, kvs, h1, h2⟩ := R.at hA rx
      subst e
      have hk := kvR_keys h2
      split at p
      · rename_i hi
        have e2 := intsOf_eq hi
        rw [hk] at e2
        have e3 := keys_ints (ks := kvs.map Prod.fst) (ns := []) (by rw [List.map_map]; exact e2)
        exact ⟨ad, kvs, [], y, rfl, rfl, h1, e3, fun _ => po_ok R ry p, fun z => absurd rfl z⟩
      · rename_i ns hne hi
        have e2 := intsOf_eq hi
        rw [hk] at e2
        have e3 := keys_ints (ks := kvs.map Prod.fst) (ns := ns) (by rw [List.map_map]; exact e2)
        exact ⟨ad, kvs, ns, y, rfl, rfl, h1, e3, fun z => absurd z (by rintro rfl; exact hne rfl), fun _ mm h5 h6 => by rw [mx_eq h5 h6]; exact po_ok R (.int _) p⟩
      · exact p.elim
    · exact p.elim
  · exact p.elim
end
end SM

/-! ## dicts with tuple keys: values(), items(), pop; setdefault; what no run reaches -/
namespace L2
open PySem PySem.Spec PyProof.Rows
section
variable {X : Cx} {pins : List (Addr × Obj)} {σ : St} {H : Hp} {s : Shared} {d : Addr} {o : Obj}
theorem Inv.frzT2 {kvs : List (List Key × V)} (I : Inv X pins σ H s) (h : H d = some (.frz o (.dT kvs))) :
    (d == sysModules) = false ∧ s.heap.get? d = some o ∧ o.ExactDict ∧ ∃ (es : Array DictEntry) (ep : Nat), o.data = .dict es ep ∧ es.size = kvs.length ∧
      ∀ (i : Nat) (k : List Key) (v : V), kvs[i]? = some (k, v) → ∃ (en : DictEntry) (q : Addr), es[i]? = some en ∧ en.key = .ref q ∧ H q = some (.tup (k.map kV)) ∧ RelV v en.val := by
  obtain ⟨hd, z, hs, xs, pr, o', es, ep, ho, hx, hdt, he, _⟩ := I.hok d _ h
  rw [hd] at ho
  cases ho
  refine ⟨hs, hd, hx, es, ep, hdt, ?_, fun i k v e => ?_⟩
  · have l1 : es.size = xs.length := size_of_entries he
    have l2 : kvs.length = xs.length := Paired.length pr
    omega
  · obtain ⟨b, hb, e1, e2, e3⟩ := paired_get pr e
    have q := entry_at he i
    rw [hb] at q
    exact ⟨_, b.2.1, q, rfl, e2, e3⟩
end
/-- the values -/
def Itdt (d : Addr) (o : Obj) (kvs : List (List Key × V)) : It :=
  ⟨fun i H => H d = some (.frz o (.dT kvs)) ∧ i < kvs.length, fun i H x H' => H' = H ∧ ∃ k, kvs[i]? = some (k, x), fun i H => H d = some (.frz o (.dT kvs)) ∧ kvs.length ≤ i⟩
/-- the pairs, each a new tuple -/
def Itit (d : Addr) (o : Obj) (kvs : List (List Key × V)) : It :=
  ⟨fun i H => H d = some (.frz o (.dT kvs)) ∧ i < kvs.length, fun i H x H' => ∃ T k v q, kvs[i]? = some (k, v) ∧ x = .ref T ∧ H q = some (.tup (k.map kV)) ∧ H T = none ∧ H' = upd H T (.tup [.ref q, v]), fun i H => H d = some (.frz o (.dT kvs)) ∧ kvs.length ≤ i⟩
section
variable {P : Program} {w : World} {K : PySem.W.Frag} {tg : Expr} {d : Addr} {o : Obj} {es : Array DictEntry} {ep : Nat}
theorem raw_of {h : Heap} (hgd : h.get? d = some o) (hx : o.ExactDict) (hod : o.data = .dict es ep) : h.DictRaw d es ep := ⟨o, hgd, hx, hod⟩
theorem turn_valsT {kvs : List (List Key × V)} (it : Addr) (hod : o.data = .dict es ep) : Turn P w K tg (Itdt d o kvs) [it] it (fun i h => h.IsValIter it d i kvs.length ep) where
  mem := by simp
  obj := fun i h st b hb => by
    have e : b = it := by simpa using hb
    subst e
    obtain ⟨oi, e, c, dd⟩ := st
    exact ⟨oi, e, fun v z => by rw [dd] at z; cases z⟩
  keep := fun i h h' st k => st.at fun oi e => k it (by simp) oi e
  item := by
    intro X hP hw hK hc i pins s σ H E I hf st hg
    subst hP hw hK
    obtain ⟨hd, hi⟩ := hg
    obtain ⟨f0, f1, f2, f3, f4, f5⟩ := hf it (by simp)
    obtain ⟨hs, hgd, hx, es', ep', hdt, hsz, ent⟩ := I.frzT2 hd
    obtain ⟨rfl, rfl⟩ := dict_ep hod hdt
    obtain ⟨⟨k, v⟩, hkv⟩ : ∃ p, kvs[i]? = some p := ⟨kvs[i], List.getElem?_eq_getElem hi⟩
    obtain ⟨en, q, hen, hkey, hq, rv⟩ := ent i k v hkv
    have hlt : i < es'.size := by omega
    have e1 : es'[i] = en := by
      rw [Array.getElem?_eq_getElem hlt] at hen
      exact Option.some.inj hen
    rw [← hsz] at st
    refine wpAny_pyNext_values_item_raw st (raw_of hgd hx hdt) hlt fun h' st' sb => ?_
    have I1 : Inv X pins σ H { s with heap := h' } := I.turned (t' := s.toks) (fun b ob hb e => (sb.2 b hb).trans e) f0 f1 f3 f4 f5
    obtain ⟨oi, e, c, dd⟩ := id st'
    refine ⟨_, rfl, go_of (s := { s with heap := h' }) e c dd (by decide) ⟨v, H, I1, by rw [e1]; exact rv, ⟨rfl, k, hkv⟩, ?_, fun b hb => (hf b hb).1⟩⟩
    show h'.IsValIter it d (i + 1) kvs.length _
    rw [← hsz]
    exact st'
  done := by
    intro X hP hw hK hc i pins s σ H E I hf st hg
    subst hP hw hK
    obtain ⟨hd, hi⟩ := hg
    obtain ⟨f0, f1, f2, f3, f4, f5⟩ := hf it (by simp)
    obtain ⟨hs, hgd, hx, es', ep', hdt, hsz, ent⟩ := I.frzT2 hd
    obtain ⟨rfl, rfl⟩ := dict_ep hod hdt
    rw [← hsz] at st
    exact wpAny_pyNext_values_end_raw (I.ok.hd hc) st (raw_of hgd hx hdt) (by omega) fun h' eb => ⟨rfl, I.turned (t' := s.toks) (fun b ob hb e => eb b ob hb e) f0 f1 f3 f4 f5⟩
  self := fun A i s Q E st h => wpAny_pyIter_valiter st h
theorem turn_itemsT {kvs : List (List Key × V)} {elts : List Expr} {kk : Nat} {tpos : Pos} (it : Addr) (hod : o.data = .dict es ep) :
    Turn P w K (.Tuple elts kk tpos) (Itit d o kvs) [it] it (fun i h => ∃ ok ov, IsItemIter h it d i kvs.length ep ok ov) where
  mem := by simp
  obj := fun i h st b hb => by
    have e : b = it := by simpa using hb
    subst e
    obtain ⟨ok, ov, e⟩ := st
    exact ⟨_, e, fun v z => nomatch z⟩
  keep := fun i h h' st k => let ⟨ok, ov, e⟩ := st; ⟨ok, ov, k it (by simp) _ e⟩
  item := by
    intro X hP hw hK hc i pins s σ H E I hf st hg
    subst hP hw hK
    obtain ⟨hd, hi⟩ := hg
    obtain ⟨hs, hgd, hx, es', ep', hdt, hsz, ent⟩ := I.frzT2 hd
    obtain ⟨rfl, rfl⟩ := dict_ep hod hdt
    obtain ⟨⟨k, v⟩, hkv⟩ : ∃ p, kvs[i]? = some p := ⟨kvs[i], List.getElem?_eq_getElem hi⟩
    obtain ⟨en, q, hen, hkey, hq, rv⟩ := ent i k v hkv
    have hlt0 : i < es'.size := by omega
    have e1 : es'[i] = en := by
      rw [Array.getElem?_eq_getElem hlt0] at hen
      exact Option.some.inj hen
    obtain ⟨ok, ov, he⟩ := st
    rw [← hsz] at he
    have hlt : it < s.heap.objs.size := Heap.lt_size he
    refine wpAny_pyNext_items_item_raw he (raw_of hgd hx hdt) hlt0 fun h' ho hT hz hk => ?_
    refine ⟨_, rfl, wpAny_letOwnedTupleGo_items (s := { s with heap := h' }) ho fun h'' he' sb => ?_⟩
    rw [e1] at hT he'
    have hT2 : h''.get? s.heap.objs.size = some { cls := .type "tuple", data := .seq #[en.key, en.val] } := (sb.2 _ (Nat.ne_of_gt hlt)).trans hT
    have new : ObjOk X.prog X.w (upd H s.heap.objs.size (.tup [.ref q, v])) h'' s.heap.objs.size (.tup [.ref q, v]) :=
      ⟨by show 2 ≤ sizeLine; decide, [en.key, en.val], .cons (show RelV (.ref q) en.key from hkey) (.cons rv .nil), ⟨_, hT2, rfl, _, rfl⟩⟩
    have I1 : Inv X pins σ (upd H s.heap.objs.size (.tup [.ref q, v])) { s with heap := h'' } :=
      I.turnedNew (t' := s.toks) (ch := [it]) (fun b ob hb e => (sb.2 b (by simpa using hb)).trans (hk b ob (by simpa using hb) e)) hf (Nat.le_refl _) new
    refine ⟨.ref s.heap.objs.size, _, I1, rfl, ⟨_, k, v, q, hkv, rfl, hq, I.hok.fresh (Nat.le_refl _), rfl⟩, ⟨en.key, en.val, ?_⟩, fun b hb => ?_⟩
    · rw [← hsz]; exact he'
    · have e : b = it := by simpa using hb
      rw [e, upd_ne (Nat.ne_of_lt hlt)]
      exact (hf it (by simp)).1
  done := by
    intro X hP hw hK hc i pins s σ H E I hf st hg
    subst hP hw hK
    obtain ⟨hd, hi⟩ := hg
    obtain ⟨f0, f1, f2, f3, f4, f5⟩ := hf it (by simp)
    obtain ⟨hs, hgd, hx, es', ep', hdt, hsz, ent⟩ := I.frzT2 hd
    obtain ⟨rfl, rfl⟩ := dict_ep hod hdt
    obtain ⟨ok, ov, he⟩ := st
    rw [← hsz] at he
    exact wpAny_pyNext_items_end_raw (I.ok.hd hc) he (raw_of hgd hx hdt) (by omega) fun h' eb => ⟨rfl, I.turned (t' := s.toks) (fun b ob hb e => eb b ob hb e) f0 f1 f3 f4 f5⟩
  self := fun A i s Q E st h => let ⟨_, _, e⟩ := st; PySem.W.kcp_self e h
end
def iValsT (td : TE) : TI := fun σ H R => td σ H fun x H1 => ∃ d o kvs, x = .ref d ∧ H1 d = some (.frz o (.dT kvs)) ∧ R (Itdt d o kvs) H1
def iItemsT (td : TE) : TI := fun σ H R => td σ H fun x H1 => ∃ d o kvs, x = .ref d ∧ H1 d = some (.frz o (.dT kvs)) ∧ R (Itit d o kvs) H1
theorem DictRaw.typeIs' {s : Shared} {d : Addr} {es : Array DictEntry} {ep : Nat} (x : s.heap.DictRaw d es ep) : s.TypeIs (.ref d) "dict" := let ⟨o, ho, hc, _⟩ := x; ⟨o, ho, hc.1⟩
theorem DictRaw.push' {h : Heap} {d : Addr} {es : Array DictEntry} {ep : Nat} (x : h.DictRaw d es ep) (u : Obj) : (h.push u).DictRaw d es ep := let ⟨o, ho, r⟩ := x; ⟨o, Heap.get?_push_of_some _ ho, r⟩
section
variable {X : Cx} {tg e : Expr} {td : TE} {apos cpos : Pos}
theorem pi_valuesT (he : PE X e td) (hbase : attributeBase e "values" X.env (eval e X.env) = eval e X.env := by rfl) (hline : (apos.endLine == cpos.line) = true := by rfl) : PI X tg (.Call (.Attribute e "values" apos) [] [] cpos) (iValsT td) := by
  refine ⟨fun pins s σ H R I h => ?_⟩
  refine wpAny_Call_method (T := "dict") (id := "dict.values") hbase rfl hline F.plainAttrs_dict F.slot_dict_values F.type_dict_values (thn (he.run pins s σ H _ I h) fun u s1 ⟨x, H1, I1, rx, d, o, kvs, ex, hd, q⟩ => ?_)
  subst ex
  obtain rfl : u = Value.ref d := rx
  obtain ⟨hs, hgd, hx, es, ep, hdt, hsz, ent⟩ := I1.frzT2 hd
  have hm : s1.heap.DictRaw d es ep := raw_of hgd hx hdt
  refine ⟨DictRaw.typeIs' hm, fun a e => ?_, ?_⟩
  · cases e; exact ⟨o, hgd, hx.2.1⟩
  have I2 : Inv X pins σ H1 { s1 with heap := s1.heap.push { cls := .type "dict_values", data := .fields #[.ref d] } } := I1.kept (t' := s1.toks) fun b ob q => Heap.get?_push_of_some _ q
  have fin : wpAny (model X.prog X.w) X.A (pyIter (.ref s1.heap.objs.size)) (PIE X pins σ tg R) X.xe { s1 with heap := s1.heap.push { cls := .type "dict_values", data := .fields #[.ref d] } } := by
    refine wpAny_pyIter_values_raw (d := d) ⟨_, Heap.get?_push_size _ rfl, rfl, rfl⟩ (DictRaw.push' hm _) (pi_one (tk := s1.toks) I2 _ (turn_valsT _ hdt) ⟨_, Heap.get?_push_size _ rfl, rfl, ?_⟩ q)
    rw [hsz] <;> rfl
  show wpAny _ _ (callWith cpos (.builtin "dict.values") [.ref d] [] []) _ X.xe s1
  exact method_meetsIn F.slot_dict_values F.entry_dict_values rfl (PySem.evalArgs_none ⟨rfl, DictRaw.typeIs' hm, F.args_dict_values_1 _, _, meets_dict_values_raw d hs, ⟨es, ep, hm⟩, fin⟩)
theorem pi_itemsT {elts : List Expr} {kk : Nat} {tpos : Pos} (he : PE X e td) (hbase : attributeBase e "items" X.env (eval e X.env) = eval e X.env := by rfl) (hline : (apos.endLine == cpos.line) = true := by rfl) :
    PI X (.Tuple elts kk tpos) (.Call (.Attribute e "items" apos) [] [] cpos) (iItemsT td) := by
  refine ⟨fun pins s σ H R I h => ?_⟩
  refine wpAny_Call_method (T := "dict") (id := "dict.items") hbase rfl hline F.plainAttrs_dict F.slot_dict_items F.type_dict_items (thn (he.run pins s σ H _ I h) fun u s1 ⟨x, H1, I1, rx, d, o, kvs, ex, hd, q⟩ => ?_)
  subst ex
  obtain rfl : u = Value.ref d := rx
  obtain ⟨hs, hgd, hx, es, ep, hdt, hsz, ent⟩ := I1.frzT2 hd
  have hm : s1.heap.DictRaw d es ep := raw_of hgd hx hdt
  refine ⟨DictRaw.typeIs' hm, fun a e => ?_, ?_⟩
  · cases e; exact ⟨o, hgd, hx.2.1⟩
  have I2 : Inv X pins σ H1 { s1 with heap := s1.heap.push { cls := .type "dict_items", data := .fields #[.ref d] } } := I1.kept (t' := s1.toks) fun b ob q => Heap.get?_push_of_some _ q
  have fin : wpAny (model X.prog X.w) X.A (pyIter (.ref s1.heap.objs.size)) (PIE X pins σ (.Tuple elts kk tpos) R) X.xe { s1 with heap := s1.heap.push { cls := .type "dict_items", data := .fields #[.ref d] } } := by
    refine wpAny_pyIter_items_raw (d := d) ⟨_, Heap.get?_push_size _ rfl, rfl, rfl⟩ (DictRaw.push' hm _) (pi_one (tk := s1.toks) I2 _ (turn_itemsT _ hdt) ⟨.none, .none, ?_⟩ q)
    rw [hsz]
    exact Heap.get?_push_size _ rfl
  show wpAny _ _ (callWith cpos (.builtin "dict.items") [.ref d] [] []) _ X.xe s1
  exact method_meetsIn F.slot_dict_items F.entry_dict_items rfl (PySem.evalArgs_none ⟨rfl, DictRaw.typeIs' hm, F.args_dict_items_1 _, _, meets_dict_items_raw d hs, ⟨es, ep, hm⟩, fin⟩)
end
end L2
namespace DT
open PySem PySem.W PySem.Calls PyProof.Rows PyProof.V PySem.Spec
section
variable {K : Type} [DecidableEq K] {prog : Program} {w : World} {knd : HeapKind prog w K} {A : Around} {E : Value → Shared → Prop} {s : Shared}
theorem meetsPop1 {d b : Addr} {k : K} (hd : (d == sysModules) = false) :
    MeetsIn prog w (Builtin.«dict.pop» ⟨[.ref d, .ref b], []⟩) (fun A R s => ∃ xs, knd.room A.in1 ∧ knd.is s.heap k b ∧ s.heap.DictOfH knd d xs ∧ xs.length ≤ sizeLine ∧
      atKey xs k ≠ none ∧
      ∀ p, atKey xs k = some p → ∀ h' tk, h'.DictOfH knd d (dropH xs k) → Heap.SameBut d s.heap h' → R (.ok (.ret p.2)) { s with heap := h', toks := tk }) :=
  .of_wp fun A R s ⟨xs, hu, hkey, hm, hsz, hsm, hsome⟩ => by
    obtain ⟨o, es, ep, ho, hc, hdat, he, his, hn⟩ := id hm
    have hes : es.size = xs.length := size_of_entries he
    have hpart : (keyPart (Value.ref b)).isSome = false := rfl
    unfold Builtin.«dict.pop»
    refine wpAny_bind ?_
    unfold Builtin.Dict.keyAndDefault
    refine wpAny_bind (wpAny_notOrdered_dict hm.typeIs ?_)
    show wpAny _ _ (pure (d, Value.ref b, none)) _ _ s
    refine wpAny_pure ?_
    simp only [hpart, Bool.false_eq_true, if_false]
    refine wpAny_bind (wpAny_dictEntries ho hdat (wpAny_bind (wpAny_pure ?_)))
    cases hem : es.isEmpty with
    | true =>
      have h0 : xs = [] := by
        have z : es.size = 0 := by simpa using hem
        exact List.length_eq_zero_iff.mp (by omega)
      exact absurd (by rw [h0]; rfl) hsm
    | false =>
      simp only [Bool.false_eq_true, if_false]
      refine wpAny_bind (takeH hu hkey hm hsz (fun hno => absurd hno hsm) fun p e hp hev h' hm' hs' => ?_)
      simp only [Option.isNone_some, Bool.false_eq_true, if_false]
      exact wpAny_bind (wpAny_letGo (wpAny_pure ⟨e.val, rfl, by rw [hev]; exact hsome p hp h' _ hm' hs'⟩))
end
end DT
namespace L2
open PySem PySem.Spec PyProof.Rows
def rPopT1 : V → List V → Hp → VK → Prop := fun x xs H Q => ∃ (a : Addr) (kvs : List (List L2.Key × V)) (k : List L2.Key) (b : Addr) (v : V), x = .ref a ∧ xs = [.ref b] ∧ H a = some (.dT kvs) ∧ H b = some (.tup (k.map kV)) ∧
  valV kvs k = some v ∧ Q v (upd H a (.dT (dropK kvs k)))
theorem mt_popT1 {X : Cx} (hu : X.A.units + 1 < cLine) : MtR X "dict.pop" rPopT1 := by
  intro pins s σ H x xs v us Q I rx rxs h
  obtain ⟨a, kvs, k, b, d, rfl, rfl, ha, hb, q1, q2⟩ := h
  cases rx
  have := Vals.ref1 rxs
  subst this
  obtain ⟨z, hd, xs', rel, dd⟩ := dt_of I.hok ha
  have hz : xs'.length ≤ sizeLine := by rw [← Paired.length rel]; exact z
  have rk := rel.val k
  rw [q1] at rk
  refine call_meetsIn PySem.F.slot_dict_pop dd.typeIs PySem.F.entry_dict_pop (PySem.F.args_dict_pop_2 _ _) (DT.meetsPop1 (knd := tupleKind (mixKind X.prog X.w)) (k := k) hd)
    ⟨xs', tupleKind_room_in1 hu, key_of I.hok hb, dd, hz, fun hn => ?_, fun p hp h' tk dd' hs => ?_⟩
  · rw [hn] at rk
    exact rk
  · rw [hp] at rk
    have rv : RelV d p.2 := rk
    obtain ⟨o, es, ep, hq, h2, h3, h4, _, h5⟩ := dd'
    have I2 : Inv X pins σ (upd H a (.dT (dropK kvs k))) { s with heap := h', toks := tk } :=
      d_write I (by rw [ha]; exact True.intro) hs ⟨o, hq⟩ ⟨Nat.le_trans (dropK_le kvs k) z, hd, _, (L2.DX.KT_drop k rel).keeps (fun c ys ec => (by rw [upd_ne (ne_of ec ha (fun z => nomatch z))]; exact ec)), o, es, ep, hq, h2, h3, h4, h5⟩
    show EP X pins σ Q p.2 _
    exact ⟨d, _, I2, rv, q2⟩
end L2
namespace SM
open PySem L2
open DL (Ex ExK)
section
variable {K : PySem.W.Frag} {ca : CaT} {F F1 F2 H H1 H2 : Hp} {m m1 m2 : List Addr} {A A1 A2 : Hs} {σ : L2.St} {env : Sl} {W : WX} {Q : VK}
variable {to ti ta tb tc te tz : TE} {a b c e : E} {i : Nat} {d : D} {ts : TA} {as : As} {x y : V} {dx dy : D}
/-! walks -/
def wkVT : Hs → D → Option Wk := wdA fun t l => if t = true then some (l.map Prod.snd) else none
def wkIT : Hs → D → Option Wk := wdA fun t l => if t = true then some (l.map fun p => .tup [p.1, p.2]) else none
theorem walk_valsT {d : Addr} {o : Obj} {kvs : List (List Key × V)} : Walk (Itdt d o kvs) kvs.length (fun H => H d = some (.frz o (.dT kvs))) (fun i H x H' => H' = H ∧ ∃ k, kvs[i]? = some (k, x)) :=
  ⟨fun i _ hi q => ⟨q, hi⟩, fun _ q => ⟨q, Nat.le_refl _⟩, fun _ _ _ _ _ _ y => y⟩
theorem walk_itemsT {d : Addr} {o : Obj} {kvs : List (List Key × V)} : Walk (Itit d o kvs) kvs.length (fun H => H d = some (.frz o (.dT kvs))) (fun i H x H' => ∃ T k v q, kvs[i]? = some (k, v) ∧ x = .ref T ∧ H q = some (.tup (k.map kV)) ∧ H T = none ∧ H' = upd H T (.tup [.ref q, v])) :=
  ⟨fun i _ hi q => ⟨q, hi⟩, fun _ q => ⟨q, Nat.le_refl _⟩, fun _ _ _ _ _ _ y => y⟩
theorem sw_valsT (h : SimE K ca W te a) : SimI K ca W (iValsT te) (wOf wkVT a) := fun F m A σ H env Q R S p => wOf_bind h R S p fun F1 m1 A1 H1 x d kk R1 r hk p1 => by
  obtain ⟨i, t, l, ds, rfl, hA, hf, rfl⟩ := wd_inv hk
  obtain ⟨ad, rfl, ha, q⟩ := dic_lk R1 r hA
  rcases q with ⟨rfl, kvs, od, hd, hkv⟩ | ⟨rfl, kvs, od, hd, hkv⟩
  · cases hf
  · cases hf
    refine ⟨ad, od, kvs, rfl, hd, p1 _ F1 m1 H1 R1 Stp.refl ⟨_, (fun i H x H' => H' = H ∧ ∃ k, kvs[i]? = some (k, x)), ?_, fun F2 m2 A2 H2 hg R2 g2 => g2.fz _ _ _ hd, fun i' d' x' F2 m2 A2 H2 H3 e hg R2 g2 y => .inl ?_⟩⟩
    · rw [show (Wk.mk (l.map Prod.snd) _).ds.length = kvs.length from (List.length_map _).trans hkv.length.symm]; exact walk_valsT
    · obtain ⟨e1, k, e2⟩ := y
      obtain ⟨dd, e4, e5⟩ := hkv.at_ e2
      refine ⟨e1, ?_⟩
      have e : (l.map Prod.snd)[i']? = some d' := e
      rw [List.getElem?_map, e4] at e
      cases e
      exact e5.mono g2.ff g2.mm
theorem sw_itemsT (h : SimE K ca W te a) : SimI K ca W (iItemsT te) (wOf wkIT a) := fun F m A σ H env Q R S p => wOf_bind h R S p fun F1 m1 A1 H1 x d kk R1 r hk p1 => by
  obtain ⟨i, t, l, ds, rfl, hA, hf, rfl⟩ := wd_inv hk
  obtain ⟨ad, rfl, ha, q⟩ := dic_lk R1 r hA
  rcases q with ⟨rfl, kvs, od, hd, hkv⟩ | ⟨rfl, kvs, od, hd, hkv⟩
  · cases hf
  · cases hf
    refine ⟨ad, od, kvs, rfl, hd, p1 _ F1 m1 H1 R1 Stp.refl ⟨_, (fun i H x H' => ∃ T k v q, kvs[i]? = some (k, v) ∧ x = .ref T ∧ H q = some (.tup (k.map kV)) ∧ H T = none ∧ H' = upd H T (.tup [.ref q, v])), ?_, fun F2 m2 A2 H2 hg R2 g2 => g2.fz _ _ _ hd, fun i' d' x' F2 m2 A2 H2 H3 e hg R2 g2 y => .inr (.inr (.inr ?_))⟩⟩
    · rw [show (Wk.mk (l.map fun p => D.tup [p.1, p.2]) _).ds.length = kvs.length from (List.length_map _).trans hkv.length.symm]; exact walk_itemsT
    · obtain ⟨T, k, v, q, e2, e3, e4, e5, e6⟩ := y
      obtain ⟨dd, e7, e8⟩ := hkv.at_ e2
      have e : (l.map fun p => D.tup [p.1, p.2])[i']? = some d' := e
      rw [List.getElem?_map, e7] at e
      cases e
      obtain ⟨F3, R3, g3, hT⟩ := R2.catch e4
      obtain ⟨R4, g4⟩ := R3.new (u := .tup [.ref q, v]) e5
      subst e3 e6
      refine ⟨_, R4, g3.trans g4, .tup upd_same (.cons (.tup (g4.ff _ _ hT) (repL_kT k)) (.cons ((e8.mono (g2.trans g3).ff (g2.trans g3).mm).mono g4.ff g4.mm) .nil))⟩
/-! pop -/
def oDPopT (x y : D) (A : Hs) : RE D := match x with
  | .ref i => match A[i]? with
    | some (.dic true false l) => if keyOk true y = true then match kget l y with
      | some d => .ok d (A.set i (.dic true false (kdel l y)))
      | none => .stuck
      else .stuck
    | _ => .stuck
  | _ => .stuck
def oDPopT2 (x y z : D) (A : Hs) : RE D := match x with
  | .ref i => match A[i]? with
    | some (.dic true false l) => if keyOk true y = true then match kget l y with
      | some d => .ok d (A.set i (.dic true false (kdel l y)))
      | none => .ok z A
      else .stuck
    | _ => .stuck
  | _ => .stuck
def isDicU (A : Hs) : D → Bool
  | .ref i => match A[i]? with
    | some (.dic _ false _) => true
    | _ => false
  | _ => false
theorem tyD_at (R : Rl K ca F m A H) (r : Rep K ca F m x dx) (q : isDicU A dx = true) : tyV K "dict" x H := by
  unfold isDicU at q
  split at q
  · rename_i i
    split at q
    · rename_i t l hA
      obtain ⟨aa, e, ha, h⟩ := R.at hA r
      subst e
      cases t with
      | false => obtain ⟨kvs, h1, _⟩ := h; exact .inr (.inr (.inl ⟨rfl, .inl ⟨kvs, h1⟩⟩))
      | true => obtain ⟨kvs, h1, _⟩ := h; exact .inr (.inr (.inl ⟨rfl, .inr ⟨kvs, h1⟩⟩))
    · cases q
  · cases q
theorem dT_at {l : List (D × D)} {t : Nat} (R : Rl K ca F m A H) (rx : Rep K ca F m x (.ref t)) (hA : A[t]? = some (.dic true false l)) : ∃ a kvs, x = .ref a ∧ m[t]? = some a ∧ H a = some (.dT kvs) ∧ KvR K ca F m kT kvs l := by
  obtain ⟨a, e, ha, r⟩ := R.at hA rx
  obtain ⟨kvs, h1, h2⟩ := r
  exact ⟨a, kvs, e, ha, h1, h2⟩
theorem keyT_inv (h : keyOk true dy = true) : ∃ ks : List Key, dy = kT ks := by
  cases dy with
  | tup l =>
    obtain ⟨ks, hk⟩ := Option.isSome_iff_exists.mp h
    exact ⟨ks, by unfold kT; rw [keysK_kT hk]⟩
  | _ => cases h
theorem repL_kT_inv : ∀ {ks : List Key} {vs : List V}, RepL K ca F m vs (ks.map kD) → vs = ks.map kV
  | [], _, h => by cases h; rfl
  | k :: ks, _, h => by
    cases h with
    | cons r t => rw [kV_of r, repL_kT_inv t]; rfl
theorem kT_at {ks : List Key} (R : Rl K ca F m A H) (r : Rep K ca F m y (kT ks)) : ∃ b, y = .ref b ∧ H b = some (.tup (ks.map kV)) := by
  unfold kT at r
  cases r with
  | tup s rs =>
    rw [repL_kT_inv rs] at s
    exact ⟨_, rfl, R.fh _ _ s⟩
theorem dT_drop {ks : List Key} {l : List (D × D)} {t : Nat} {aa : Addr} {kvs : List (List Key × V)} (R : Rl K ca F m A H) (ha : m[t]? = some aa) (h1 : H aa = some (.dT kvs)) (h2 : KvR K ca F m kT kvs l) : Rl K ca F m (A.set t (.dic true false (kdel l (kT ks)))) (upd H aa (.dT (dropK kvs ks))) ∧ Stp F m H F m (upd H aa (.dT (dropK kvs ks))) :=
  R.put (u := .dT (dropK kvs ks)) (o' := .dic true false (kdel l (kT ks))) ha (fun od w z => by rw [h1] at z; cases z) ⟨_, upd_same, kdel_rep keq_kT h2⟩
def eBD (o : D → List D → Hs → RE D) (a : E) (as : As) : E := fun env A => (a env A).bind fun x A1 => if isDicU A1 x = true then (as env A1).bind fun ds A2 => o x ds A2 else .stuck
theorem se_bd {r : V → List V → Hp → VK → Prop} {o : D → List D → Hs → RE D} (h : MbS K ca r o) (ha : SimE K ca W ta a) (hs : SimA K ca W ts as) : SimE K ca W (tBM K "dict" r ta ts) (eBD o a as) := fun F m A σ H env Q R S p =>
  ha.bind R S p fun F1 m1 A1 H1 x dx R1 g1 S1 rx p1 => by
    by_cases q : isDicU A1 dx = true
    · rw [if_pos q] at p1
      exact ⟨tyD_at R1 rx q, hs.bind R1 S1 p1 fun F2 m2 A2 H2 vs ds R2 g2 S2 rs p2 => h F2 m2 A2 H2 x dx vs ds W σ Q R2 (rx.mono g2.ff g2.mm) rs p2⟩
    · rw [if_neg q] at p1; exact p1.elim
def d1_ (f : D → D → Hs → RE D) (x : D) : List D → Hs → RE D
  | [y], A => f x y A
  | _, _ => .stuck
def d2_ (f : D → D → D → Hs → RE D) (x : D) : List D → Hs → RE D
  | [y, z], A => f x y z A
  | _, _ => .stuck
theorem ms_popT1 : MbS K ca rPopT1 (d1_ oDPopT) := fun F m A H x dx xs ds W σ Q R rx rs p => by
  match ds, rs, p with
  | [], _, p => exact p.elim
  | _ :: _ :: _, _, p => exact p.elim
  | [dy], .cons ry .nil, p =>
    have p : Po K ca (Rep K ca) F m H W σ Q (oDPopT dx dy A) := p
    unfold oDPopT at p
    split at p
    · rename_i i
      split at p
      · rename_i l hA
        split at p
        · rename_i hk
          obtain ⟨ks, rfl⟩ := keyT_inv hk
          split at p
          · rename_i d hg
            obtain ⟨aa, kvs, e, ha, h1, h2⟩ := dT_at R rx hA
            subst e
            obtain ⟨b, e2, hb⟩ := kT_at R ry
            subst e2
            obtain ⟨v, g1, g2⟩ := (kget_rep keq_kT (k := ks) h2).1 d hg
            obtain ⟨R2, s2⟩ := dT_drop (ks := ks) R ha h1 h2
            exact ⟨aa, kvs, ks, b, v, rfl, rfl, h1, hb, g1, p v F m _ R2 s2 g2⟩
          · exact p.elim
        · exact p.elim
      · exact p.elim
    · exact p.elim
/-! setdefault -/
def oDSetd (x y z : D) (A : Hs) : RE D := match x with
  | .ref i => match A[i]? with
    | some (.dic false false l) => if (keyK y).isSome = true ∧ l.length < sizeLine then match kget l y with
      | some d => .ok d A
      | none => .ok z (A.set i (.dic false false (kput l y z)))
      else .stuck
    | _ => .stuck
  | _ => .stuck
def eDSetd (a b c : E) : E := fun env A => (a env A).bind fun x A1 => if isDic A1 x then (b env A1).bind fun y A2 => (c env A2).bind fun z A3 => oDSetd x y z A3 else .stuck
theorem se_dsetd (ho : SimE K ca W to a) (hi : SimE K ca W ti b) (hz : SimE K ca W tz c) : SimE K ca W (tDSetd to ti tz) (eDSetd a b c) := fun F m A σ H env Q R S p =>
  ho.bind R S p fun F1 m1 A1 H1 x dx R1 g1 S1 rx p1 => by
    by_cases q : isDic A1 dx = true
    · rw [if_pos q] at p1
      obtain ⟨aa, e1, h1⟩ := isD_of R1 rx q
      refine ⟨aa, e1, h1, hi.bind R1 S1 p1 fun F2 m2 A2 H2 y dy R2 g2 S2 ry p2 => hz.bind R2 S2 p2 fun F3 m3 A3 H3 z dz R3 g3 S3 rz p3 => ?_⟩
      unfold oDSetd at p3
      split at p3
      · rename_i i
        split at p3
        · rename_i l hA
          split at p3
          · rename_i hk
            obtain ⟨kk, hk1⟩ := Option.isSome_iff_exists.mp hk.1
            have e2 := keyK_kD hk1
            subst e2
            obtain ⟨a2, kvs, e3, ha, h3, h4⟩ := dk_at R3 (rx.mono (g2.trans g3).ff (g2.trans g3).mm) hA
            rw [e1] at e3; cases e3
            obtain ⟨k1, k2⟩ := kget_rep keq_kD (k := kk) h4
            refine ⟨kvs, kk, h3, kV_of (ry.mono g3.ff g3.mm), by rw [h4.length]; exact hk.2, fun v hv => ?_, fun hv => ?_⟩
            · split at p3
              · rename_i d hg
                obtain ⟨v2, q1, q2⟩ := k1 d hg
                rw [hv] at q1; cases q1
                exact po_ok R3 q2 p3
              · rename_i hg
                rw [k2 hg] at hv; cases hv
            · split at p3
              · rename_i d hg
                obtain ⟨v2, q1, q2⟩ := k1 d hg
                rw [hv] at q1; cases q1
              · obtain ⟨R4, s4⟩ := R3.put (u := .dK (putK kvs kk z)) (o' := .dic false false (kput l (kD kk) dz)) ha (fun od w z => by rw [h3] at z; cases z) ⟨_, upd_same, kput_rep keq_kD rz h4⟩
                exact p3 z F3 m3 _ R4 s4 rz
          · exact p3.elim
        · exact p3.elim
      · exact p3.elim
    · rw [if_neg q] at p1; exact p1.elim
/-! list(d) -/
def oListT (x : D) (A : Hs) : RE D := match x with
  | .ref i => match A[i]? with
    | some (.dic true _ l) => alloc A (.lst (l.map Prod.fst))
    | _ => .stuck
  | _ => .stuck
def rListT : List V → Hp → VK → Prop := fun xs H Q => ∃ d kvs, xs = [V.ref d] ∧ Rd H d (.dT kvs) ∧ ∀ p bs, H p = none → IsKeys H kvs bs → Q (.ref p) (upd H p (.lst (bs.map V.ref)))
theorem keys_catch : ∀ {kvs : List (List Key × V)} {l : List (D × D)} {bs : List Addr} {F : Hp}, Rl K ca F m A H → KvR K ca F m kT kvs l → IsKeys H kvs bs → ∃ F1, Rl K ca F1 m A H ∧ Stp F m H F1 m H ∧ RepL K ca F1 m (bs.map V.ref) (l.map Prod.fst) := by
  intro kvs
  induction kvs with
  | nil =>
    intro l bs F R hkv hk
    cases hkv
    cases hk
    exact ⟨F, R, Stp.refl, .nil⟩
  | cons q kvs ih =>
    intro l bs F R hkv hk
    cases hkv with
    | cons r t =>
      cases hk with
      | cons h1 h2 =>
        obtain ⟨F1, R1, g1, hT⟩ := R.catch h1
        obtain ⟨F2, R2, g2, rs⟩ := ih R1 (t.mono g1.ff g1.mm) h2
        exact ⟨F2, R2, g1.trans g2, .cons (.tup (g2.ff _ _ hT) (repL_kT _)) rs⟩
theorem cs_listT : CbS K ca rListT (c1 oListT) := cs_1 fun F m A H x dx W σ Q R rx p => by
  unfold oListT at p
  split at p
  · rename_i i
    split at p
    · rename_i lk l hA
      obtain ⟨ad, e, ha, kvs, h1, h2⟩ := R.at hA rx
      subst e
      have hrd : Rd H ad (.dT kvs) := by
        cases lk with
        | false => exact .inl h1
        | true => obtain ⟨od, h1⟩ := h1; exact .inr ⟨od, h1⟩
      refine ⟨ad, kvs, rfl, hrd, fun q bs hq hk => ?_⟩
      obtain ⟨F1, R1, g1, rs⟩ := keys_catch R h2 hk
      obtain ⟨R2, g2, hm⟩ := R1.alloc (u := .lst (bs.map V.ref)) (o := .lst (l.map Prod.fst)) hq ⟨_, upd_same, rs.mono (Ex.refl _) ⟨_, rfl⟩⟩
      exact p _ _ _ _ R2 (g1.trans g2) hm
    · exact p.elim
  · exact p.elim
end
/-! for plain proofs -/
section
variable {A : Hs} {i : Nat} {env : Sl} {x y z d : D} {t lk gt : Bool} {l : List (D × D)} {a b c : E} {as : As} {ds : List D} {o : D → List D → Hs → RE D} {o2 : D → D → Hs → RE D}
theorem z67 : wkVT A (.ref i) = wd_ A i (fun t l => if t = true then some (l.map Prod.snd) else none) A[i]? := rfl
theorem z6f : wkIT A (.ref i) = wd_ A i (fun t l => if t = true then some (l.map fun p => .tup [p.1, p.2]) else none) A[i]? := rfl
theorem za5 : eBD o a as env A = (a env A).bind fun x A1 => if isDicU A1 x = true then (as env A1).bind fun ds A2 => o x ds A2 else .stuck := rfl
def idu_ : Option O → Bool
  | some (.dic _ false _) => true
  | _ => false
theorem z2s : isDicU A (.ref i) = idu_ A[i]? := by
  unfold isDicU idu_
  cases h : A[i]? with
  | none => simp only [h]
  | some u =>
    simp only [h] <;> (cases u with
    | dic t lk l => cases lk <;> rfl
    | _ => rfl)
theorem z95 : idu_ (some (.dic t false l)) = true := rfl
theorem zak {f : D → D → Hs → RE D} : d1_ f x [y] A = f x y A := rfl
theorem z9y {f : D → D → D → Hs → RE D} : d2_ f x [y, z] A = f x y z A := rfl
def dpT_ (A : Hs) (i : Nat) (y : D) : Option O → RE D
  | some (.dic true false l) => if keyOk true y = true then match kget l y with
    | some d => .ok d (A.set i (.dic true false (kdel l y)))
    | none => .stuck
    else .stuck
  | _ => .stuck
theorem z2e : oDPopT (.ref i) y A = dpT_ A i y A[i]? := by
  unfold oDPopT dpT_
  cases h : A[i]? with
  | none => simp only [h]
  | some u =>
    simp only [h] <;> (cases u with
    | dic t lk l => cases t <;> cases lk <;> rfl
    | _ => rfl)
theorem z97 {d : D} (hk : keyOk true y = true) (h : kget l y = some d) : dpT_ A i y (some (.dic true false l)) = .ok d (A.set i (.dic true false (kdel l y))) := by
  unfold dpT_
  simp only
  rw [if_pos hk, h]
def dpT2_ (A : Hs) (i : Nat) (y z : D) : Option O → RE D
  | some (.dic true false l) => if keyOk true y = true then match kget l y with
    | some d => .ok d (A.set i (.dic true false (kdel l y)))
    | none => .ok z A
    else .stuck
  | _ => .stuck
theorem z1q : oDPopT2 (.ref i) y z A = dpT2_ A i y z A[i]? := by
  unfold oDPopT2 dpT2_
  cases h : A[i]? with
  | none => simp only [h]
  | some u =>
    simp only [h] <;> (cases u with
    | dic t lk l => cases t <;> cases lk <;> rfl
    | _ => rfl)
theorem z6p {d : D} (hk : keyOk true y = true) (h : kget l y = some d) : dpT2_ A i y z (some (.dic true false l)) = .ok d (A.set i (.dic true false (kdel l y))) := by
  unfold dpT2_
  simp only
  rw [if_pos hk, h]
theorem z65 (hk : keyOk true y = true) (h : kget l y = none) : dpT2_ A i y z (some (.dic true false l)) = .ok z A := by
  unfold dpT2_
  simp only
  rw [if_pos hk, h]
theorem z4m : eDSetd a b c env A = (a env A).bind fun x A1 => if isDic A1 x = true then (b env A1).bind fun y A2 => (c env A2).bind fun z A3 => oDSetd x y z A3 else .stuck := rfl
def dsd_ (A : Hs) (i : Nat) (y z : D) : Option O → RE D
  | some (.dic false false l) => if (keyK y).isSome = true ∧ l.length < sizeLine then match kget l y with
    | some d => .ok d A
    | none => .ok z (A.set i (.dic false false (kput l y z)))
    else .stuck
  | _ => .stuck
theorem z1y : oDSetd (.ref i) y z A = dsd_ A i y z A[i]? := by
  unfold oDSetd dsd_
  cases h : A[i]? with
  | none => simp only [h]
  | some u =>
    simp only [h] <;> (cases u with
    | dic t lk l => cases t <;> cases lk <;> rfl
    | _ => rfl)
theorem z8g {d : D} (hk : (keyK y).isSome = true) (hl : l.length < 16000000) (h : kget l y = some d) : dsd_ A i y z (some (.dic false false l)) = .ok d A := by
  unfold dsd_
  simp only
  rw [if_pos ⟨hk, Nat.lt_of_lt_of_le hl (by rw [sizeLine_eq]; decide)⟩, h]
theorem z7a (hk : (keyK y).isSome = true) (hl : l.length < 16000000) (h : kget l y = none) : dsd_ A i y z (some (.dic false false l)) = .ok z (A.set i (.dic false false (kput l y z))) := by
  unfold dsd_
  simp only
  rw [if_pos ⟨hk, Nat.lt_of_lt_of_le hl (by rw [sizeLine_eq]; decide)⟩, h]
theorem za9 : eCK o2 a b env A = (a env A).bind fun x A1 => (b env A1).bind fun y A2 => o2 x y A2 := rfl
def mxd_ (z : D) (A : Hs) : Option O → RE D
  | some (.dic false false l) => match intsOf (l.map Prod.fst) with
    | some [] => .ok z A
    | some ns => .ok (.int (mx ns)) A
    | none => .stuck
  | _ => .stuck
theorem z11 : oMaxKDf (.ref i) z A = mxd_ z A A[i]? := by
  unfold oMaxKDf mxd_
  cases h : A[i]? with
  | none => simp only [h]
  | some u =>
    simp only [h] <;> (cases u with
    | dic t lk l => cases t <;> cases lk <;> first | rfl | (simp only; cases intsOf (l.map Prod.fst) with | none => rfl | some ns => cases ns <;> rfl)
    | _ => rfl)
theorem z8w : mxd_ z A (some (.dic false false [])) = .ok z A := rfl
theorem z9c {ns : List Int} (h : l.map Prod.fst = ns.map D.int) (hn : ns ≠ []) : mxd_ z A (some (.dic false false l)) = .ok (.int (mx ns)) A := by
  unfold mxd_
  simp only
  rw [h, z0h]
  cases ns with
  | nil => exact absurd rfl hn
  | cons n ns => rfl
def lT_ (A : Hs) : Option O → RE D
  | some (.dic true _ l) => .ok (.ref A.length) (A ++ [.lst (l.map Prod.fst)])
  | _ => .stuck
theorem z2n : oListT (.ref i) A = lT_ A A[i]? := by
  unfold oListT lT_
  cases h : A[i]? with
  | none => simp only [h]
  | some u =>
    simp only [h] <;> (cases u with
    | dic t lk l => cases t <;> cases lk <;> rfl
    | _ => rfl)
theorem zax : lT_ A (some (.dic true lk l)) = .ok (.ref A.length) (A ++ [.lst (l.map Prod.fst)]) := rfl
end
end SM

/-! ## dicts with tuple keys: setdefault -/
namespace L2
open PySem PySem.Spec PySem.Calls PyProof.Rows PyProof.V
def rSetdT : V → List V → Hp → VK → Prop := fun x xs H Q => ∃ (a : Addr) (kvs : List (List L2.Key × V)) (k : List L2.Key) (b : Addr) (d : V), x = .ref a ∧ xs = [.ref b, d] ∧ H a = some (.dT kvs) ∧ H b = some (.tup (k.map kV)) ∧ kvs.length < sizeLine ∧
  (∀ v, valV kvs k = some v → Q v H) ∧ (valV kvs k = none → Q d (upd H a (.dT (putK kvs k d))))
theorem mt_setdT {X : Cx} (hu : X.A.units + 1 < cLine) : MtR X "dict.setdefault" rSetdT := by
  intro pins s σ H x xs v us Q I rx rxs h
  obtain ⟨a, kvs, k, b, d, rfl, rfl, ha, hb, hl, q1, q2⟩ := h
  cases rx
  obtain ⟨u1, u2, rfl, r1, r2⟩ := vals2 rxs
  cases r1
  obtain ⟨z, hd, xs', rel, dd⟩ := dt_of I.hok ha
  have hz : xs'.length ≤ sizeLine := by rw [← Paired.length rel]; exact z
  have hl2 : (putK kvs k d).length ≤ sizeLine := by have := length_putK kvs k d; omega
  refine call_setdefault_heap (hsz := hz) (knd := tupleKind (mixKind X.prog X.w)) (k := k) (tupleKind_room_in1 hu) (key_of I.hok hb) hd dd (fun p hp => ?_) (fun hn h' dd' hs => ?_)
  · have r := rel.val k
    rw [hp] at r
    obtain ⟨v0, ev, rv⟩ : ∃ v0, valV kvs k = some v0 ∧ RelV v0 p.2 := by
      cases ev : valV kvs k with
      | none =>
        rw [ev] at r
        exact (show False from r).elim
      | some v0 =>
        rw [ev] at r
        exact ⟨v0, rfl, r⟩
    show EP X pins σ Q p.2 _
    exact ⟨v0, H, I.tok _, rv, q1 v0 ev⟩
  · have r := rel.val k
    rw [hn] at r
    have e : valV kvs k = none := by
      cases ev : valV kvs k with
      | none => rfl
      | some v0 =>
        rw [ev] at r
        exact (show False from r).elim
    obtain ⟨o, es, ep, hq, h2, h3, h4, _, h5⟩ := dd'
    have I2 : Inv X pins σ (upd H a (.dT (putK kvs k d))) { s with heap := h', toks := s.toks + (tupleKind (mixKind X.prog X.w)).draws k } :=
      d_write I (by rw [ha]; exact True.intro) hs ⟨o, hq⟩ ⟨hl2, hd, _, (rel.put k hb r2).keeps (fun c ys ec => (by rw [upd_ne (ne_of ec ha (fun z => nomatch z))]; exact ec)), o, es, ep, hq, h2, h3, h4, h5⟩
    show EP X pins σ Q u2 _
    exact ⟨d, _, I2, r2, q2 e⟩
end L2
namespace SM
open PySem L2
open DL (Ex ExK)
section
variable {K : PySem.W.Frag} {ca : CaT} {F : Hp} {H : Hp} {m : List Addr} {A : Hs} {σ : L2.St} {env : Sl} {W : WX} {Q : VK} {i : Nat} {d x y z : D} {l : List (D × D)}
def oDSetdT (x y z : D) (A : Hs) : RE D := match x with
  | .ref i => match A[i]? with
    | some (.dic true false l) => if keyOk true y = true ∧ l.length < sizeLine then match kget l y with
      | some d => .ok d A
      | none => .ok z (A.set i (.dic true false (kput l y z)))
      else .stuck
    | _ => .stuck
  | _ => .stuck
theorem ms_setdT : MbS K ca rSetdT (d2_ oDSetdT) := fun F m A H x dx xs ds W σ Q R rx rs p => by
  match ds, rs, p with
  | [], _, p => exact p.elim
  | [_], _, p => exact p.elim
  | _ :: _ :: _ :: _, _, p => exact p.elim
  | [dy, dz], .cons ry (.cons rz .nil), p =>
    have p : Po K ca (Rep K ca) F m H W σ Q (oDSetdT dx dy dz A) := p
    unfold oDSetdT at p
    split at p
    · rename_i i
      split at p
      · rename_i l hA
        split at p
        · rename_i hk
          obtain ⟨ks, rfl⟩ := keyT_inv hk.1
          obtain ⟨aa, kvs, e, ha, h1, h2⟩ := dT_at R rx hA
          subst e
          obtain ⟨b, e2, hb⟩ := kT_at R ry
          subst e2
          obtain ⟨k1, k2⟩ := kget_rep keq_kT (k := ks) h2
          refine ⟨aa, kvs, ks, b, _, rfl, rfl, h1, hb, by rw [h2.length]; exact hk.2, fun v hv => ?_, fun hv => ?_⟩
          · split at p
            · rename_i d hg
              obtain ⟨v2, g1, g2⟩ := k1 d hg
              rw [hv] at g1; cases g1
              exact po_ok R g2 p
            · rename_i hg
              rw [k2 hg] at hv; cases hv
          · split at p
            · rename_i d hg
              obtain ⟨v2, g1, g2⟩ := k1 d hg
              rw [hv] at g1; cases g1
            · obtain ⟨R2, s2⟩ := R.put (u := .dT (putK kvs ks _)) (o' := .dic true false (kput l (kT ks) dz)) ha (fun od w z => by rw [h1] at z; cases z) ⟨_, upd_same, kput_rep keq_kT rz h2⟩
              exact p _ F m _ R2 s2 rz
        · exact p.elim
      · exact p.elim
    · exact p.elim
def dst_ (A : Hs) (i : Nat) (y z : D) : Option O → RE D
  | some (.dic true false l) => if keyOk true y = true ∧ l.length < sizeLine then match kget l y with
    | some d => .ok d A
    | none => .ok z (A.set i (.dic true false (kput l y z)))
    else .stuck
  | _ => .stuck
theorem z15 : oDSetdT (.ref i) y z A = dst_ A i y z A[i]? := by
  unfold oDSetdT dst_
  cases h : A[i]? with
  | none => simp only [h]
  | some u =>
    simp only [h] <;> (cases u with
    | dic t lk l => cases t <;> cases lk <;> rfl
    | _ => rfl)
theorem z85 {d : D} (hk : keyOk true y = true) (hl : l.length < 16000000) (h : kget l y = some d) : dst_ A i y z (some (.dic true false l)) = .ok d A := by
  unfold dst_
  simp only
  rw [if_pos ⟨hk, Nat.lt_of_lt_of_le hl (by rw [sizeLine_eq]; decide)⟩, h]
theorem z7r (hk : keyOk true y = true) (hl : l.length < 16000000) (h : kget l y = none) : dst_ A i y z (some (.dic true false l)) = .ok z (A.set i (.dic true false (kput l y z))) := by
  unfold dst_
  simp only
  rw [if_pos ⟨hk, Nat.lt_of_lt_of_le hl (by rw [sizeLine_eq]; decide)⟩, h]
end
end SM

namespace DL
open PySem L2
/-! ### division of rows of bits (polynomials over two elements), in plain Lean -/
def bl (n : Nat) : Nat := if n = 0 then 0 else n.log2 + 1
theorem bl_le {n m : Nat} : bl n ≤ m ↔ n < 2 ^ m := by
  unfold bl
  by_cases h : n = 0
  · subst h
    simp [Nat.two_pow_pos]
  · rw [if_neg h]
    exact (Nat.succ_le_iff).trans (Nat.log2_lt h)
theorem bl_lt {n m : Nat} : bl n < m ↔ n < 2 ^ (m - 1) ∧ 0 < m := by
  cases m with
  | zero => simp
  | succ m => rw [Nat.lt_succ_iff, bl_le]; simp
theorem lt_bl (n : Nat) : n < 2 ^ bl n := bl_le.mp (Nat.le_refl _)
theorem bl_ge {n : Nat} (h : n ≠ 0) : 2 ^ (bl n - 1) ≤ n := by
  apply Nat.le_of_not_lt
  intro q
  have := bl_le.mpr q
  have : bl n ≠ 0 := by unfold bl; rw [if_neg h]; omega
  omega
theorem bl_pos {n : Nat} (h : n ≠ 0) : 0 < bl n := by unfold bl; rw [if_neg h]; omega
theorem top_bit {x m : Nat} (h1 : 2 ^ m ≤ x) (h2 : x < 2 ^ (m + 1)) : x.testBit m = true := by
  rw [Nat.testBit_eq_decide_div_mod_eq]
  have : x / 2 ^ m = 1 := by
    rw [Nat.pow_succ] at h2
    have hp := Nat.two_pow_pos m
    apply Nat.div_eq_of_lt_le <;> omega
  rw [this]; rfl
theorem shl_range {c k : Nat} (hc : c ≠ 0) : 2 ^ (bl c - 1 + k) ≤ c <<< k ∧ c <<< k < 2 ^ (bl c - 1 + k + 1) := by
  rw [Nat.shiftLeft_eq, Nat.pow_add]
  have h1 := bl_ge hc
  have h2 := lt_bl c
  have hp := bl_pos hc
  refine ⟨Nat.mul_le_mul_right _ h1, ?_⟩
  rw [show bl c - 1 + k + 1 = bl c + k by omega, Nat.pow_add]
  exact Nat.mul_lt_mul_of_pos_right h2 (Nat.two_pow_pos k)
/-- the sums of c, shifted by less than K -/
def Sp (c : Nat) : Nat → Nat → Prop
  | 0, x => x = 0
  | K + 1, x => Sp c K x ∨ Sp c K (x ^^^ c <<< K)
theorem Sp.more {c K x : Nat} (h : Sp c K x) : Sp c (K + 1) x := .inl h
theorem Sp.mono {c x : Nat} : ∀ {K L : Nat}, K ≤ L → Sp c K x → Sp c L x := fun {K L} h s => by
  induction h with
  | refl => exact s
  | step _ ih => exact ih.more
theorem Sp.zero {c : Nat} : ∀ K, Sp c K 0
  | 0 => rfl
  | K + 1 => .inl (Sp.zero K)
theorem Sp.one {c k : Nat} : Sp c (k + 1) (c <<< k) := by
  refine .inr ?_
  rw [Nat.xor_self]
  exact Sp.zero k
theorem Sp.lt {c : Nat} (hc : c ≠ 0) : ∀ {K x : Nat}, Sp c K x → x < 2 ^ (bl c - 1 + K)
  | 0, x, h => by
    have h : x = 0 := h
    subst h; exact Nat.two_pow_pos _
  | K + 1, x, h => by
    rcases h with h | h
    · exact Nat.lt_of_lt_of_le (Sp.lt hc h) (Nat.pow_le_pow_right (by decide) (by omega))
    · have h1 := Nat.lt_of_lt_of_le (Sp.lt hc h) (Nat.pow_le_pow_right (by decide) (show bl c - 1 + K ≤ bl c - 1 + (K + 1) by omega))
      have h2 := (shl_range (k := K) hc).2
      have e : x = (x ^^^ c <<< K) ^^^ c <<< K := by rw [Nat.xor_assoc, Nat.xor_self, Nat.xor_zero]
      rw [e]
      exact Nat.xor_lt_two_pow h1 (by rw [show bl c - 1 + (K + 1) = bl c - 1 + K + 1 by omega]; exact h2)
/-- a sum that is no nought is as wide as c at the least -/
theorem Sp.wide {c : Nat} (hc : c ≠ 0) : ∀ {K x : Nat}, Sp c K x → x ≠ 0 → 2 ^ (bl c - 1) ≤ x
  | 0, x, h, n => absurd h n
  | K + 1, x, h, n => by
    rcases h with h | h
    · exact Sp.wide hc h n
    · have h1 := Sp.lt hc h
      have ⟨h2, h3⟩ := shl_range (k := K) hc
      have t : x.testBit (bl c - 1 + K) = true := by
        have e : x = (x ^^^ c <<< K) ^^^ c <<< K := by rw [Nat.xor_assoc, Nat.xor_self, Nat.xor_zero]
        rw [e, Nat.testBit_xor, Nat.testBit_lt_two_pow h1, top_bit h2 h3]; rfl
      have := Nat.ge_two_pow_of_testBit t
      exact Nat.le_trans (Nat.pow_le_pow_right (by decide) (by omega)) this
/-- the multiples of c -/
def Mu (c x : Nat) : Prop := ∃ K, Sp c K x
theorem Mu.zero {c : Nat} : Mu c 0 := ⟨0, rfl⟩
theorem Mu.one {c : Nat} (k : Nat) : Mu c (c <<< k) := ⟨k + 1, Sp.one⟩
theorem Mu.small {c x : Nat} (hc : c ≠ 0) (h : Mu c x) (hx : bl x < bl c) : x = 0 := by
  obtain ⟨K, h⟩ := h
  by_cases z : x = 0
  · exact z
  · have := h.wide hc z
    have := (bl_lt.mp hx).1
    omega
def red (c : Nat) : Nat → Nat → Nat
  | 0, n => n
  | f + 1, n => if bl c ≤ bl n then red c f (n ^^^ c <<< (bl n - bl c)) else n
/-- the rest of n by c -/
def dv (c n : Nat) : Nat := red c (bl n) n
section
variable {c : Nat} (hc : c ≠ 0)
include hc
end
end DL
namespace DL
open PySem L2
/-- a row's number -/
def gN (l : List Int) : Nat := (gath l).toNat
end DL


namespace Kk
open PySem L2 SM
def os_ : List String := ["Heap", "Joiner", "Packet"]
def xs_ : List String := ["NoNumber", "NoPacket", "NoTick"]
def tb_ : List (String × String × Bool) := [("NoneType", "Packet", false), ("bool", "Packet", false), ("int", "Packet", false), ("str", "Packet", false), ("tuple", "Packet", false), ("list", "Packet", false), ("dict", "Packet", false), ("Heap", "Packet", false), ("Heap", "bool", false), ("Heap", "int", false), ("Heap", "tuple", false), ("Joiner", "Packet", false), ("Joiner", "bool", false), ("Joiner", "int", false), ("Joiner", "tuple", false), ("Packet", "Packet", true), ("Packet", "bool", false), ("Packet", "int", false), ("Packet", "tuple", false), ("NoNumber", "Packet", false), ("NoNumber", "bool", false), ("NoNumber", "int", false), ("NoNumber", "tuple", false), ("NoPacket", "Packet", false), ("NoPacket", "bool", false), ("NoPacket", "int", false), ("NoPacket", "tuple", false), ("NoTick", "Packet", false), ("NoTick", "bool", false), ("NoTick", "int", false), ("NoTick", "tuple", false)]
/- slots of need_many: 0=thing -/
noncomputable def F_need_many : Fn := mkFn 1 1
  (sIf (tOo (tOf (eCB (c2 (oIsi os_ xs_ tb_)) (aCons (eVar 0) (aCons (eC (.ty "bool")) aNil)))) (tOo (tNo (tOf (eCB (c2 (oIsi os_ xs_ tb_)) (aCons (eVar 0) (aCons (eC (.ty "int")) aNil))))) (tOf (eOp oLt (eVar 0) (eC (.int 1)))))) (sRaise "NoNumber") sNx)
/- slots of Joiner.__init__: 0=self 1=patience 2=room -/
noncomputable def F_Joiner___init__ : Fn := mkFn 3 3
  (sSeq (sDrop (eCall F_need_many (aCons (eVar 1) aNil))) (sSeq (sDrop (eCall F_need_many (aCons (eVar 2) aNil))) (sSeq (sFl ["Joiner"] "patience" (eVar 0) (eVar 1)) (sSeq (sFl ["Joiner"] "most_held" (eVar 0) (eVar 2)) (sSeq (sFl ["Joiner"] "last_tick" (eVar 0) (eC (.int 0))) (sFl ["Joiner"] "heaps" (eVar 0) (eDNew true)))))))
/- slots of Heap.__init__: 0=self 1=tick 2=life -/
noncomputable def F_Heap___init__ : Fn := mkFn 3 3
  (sSeq (sFl ["Heap"] "since" (eVar 0) (eVar 1)) (sSeq (sFl ["Heap"] "least_life" (eVar 0) (eVar 2)) (sSeq (sFl ["Heap"] "end_place" (eVar 0) (eC .non)) (sFl ["Heap"] "by_places" (eVar 0) (eDNew false)))))
/- slots of Heap.hold: 0=self 1=packet 2=k 3=byte 4=end -/
noncomputable def F_Heap_hold : Fn := mkFn 2 5
  (sSeq (sFl ["Heap"] "least_life" (eVar 0) (eCB (c2 oMin2) (aCons (eFld ["Heap"] "least_life" (eVar 0)) (aCons (eFld ["Packet"] "life" (eVar 1)) aNil)))) (sSeq (sFor (wOf wkEA (eFld ["Packet"] "data" (eVar 1))) (gT [(gN 2), (gN 3)]) (sDrop (eDSetd (eFld ["Heap"] "by_places" (eVar 0)) (eOp oAdd (eFld ["Packet"] "first" (eVar 1)) (eVar 2)) (eVar 3)))) (sSeq (sIf (tNo (tOf (eFld ["Packet"] "more" (eVar 1)))) (sSeq (sSet 4 (eOp oAdd (eFld ["Packet"] "first" (eVar 1)) (eCB (c1 oLen) (aCons (eFld ["Packet"] "data" (eVar 1)) aNil)))) (sSeq (sIf (tAn (tOf (eOp oIsNot (eFld ["Heap"] "end_place" (eVar 0)) (eC .non))) (tOf (eOp oNe (eFld ["Heap"] "end_place" (eVar 0)) (eVar 4)))) (sRet (eC (.bl false))) sNx) (sFl ["Heap"] "end_place" (eVar 0) (eVar 4)))) sNx) (sRet (eOr (eOp oIs (eFld ["Heap"] "end_place" (eVar 0)) (eC .non)) (eOp oLt (eCK oMaxKDf (eFld ["Heap"] "by_places" (eVar 0)) (eUn oNeg (eC (.int 1)))) (eFld ["Heap"] "end_place" (eVar 0))))))))
/- slots of Heap.is_there: 0=self -/
noncomputable def F_Heap_is_there : Fn := mkFn 1 1
  (sRet (eAnd (eOp oIsNot (eFld ["Heap"] "end_place" (eVar 0)) (eC .non)) (eOp oEq (eCB (c1 oLen) (aCons (eFld ["Heap"] "by_places" (eVar 0)) aNil)) (eFld ["Heap"] "end_place" (eVar 0)))))
/- slots of is_number: 0=thing 1=most -/
noncomputable def F_is_number : Fn := mkFn 2 2
  (sRet (eAnd (eCB (c2 (oIsi os_ xs_ tb_)) (aCons (eVar 0) (aCons (eC (.ty "int")) aNil))) (eAnd (eNot (eCB (c2 (oIsi os_ xs_ tb_)) (aCons (eVar 0) (aCons (eC (.ty "bool")) aNil)))) (eCh oLe oLe (eC (.int 0)) (eVar 0) (eVar 1)))))
/- slots of are_bytes: 0=thing 1=most 2=byte -/
noncomputable def F_are_bytes : Fn := mkFn 2 3
  (sRet (eAnd (eCB (c2 (oIsi os_ xs_ tb_)) (aCons (eVar 0) (aCons (eC (.ty "tuple")) aNil))) (eAnd (eOp oLe (eCB (c1 oLen) (aCons (eVar 0) aNil)) (eVar 1)) (eCB (c1 oAll) (aCons (eLc (wSeq (eVar 0)) (gN 2) tYe (eCall0 F_is_number (aCons (eVar 2) (aCons (eC (.int 255)) aNil))) [2]) aNil)))))
/- slots of Packet.__init__: 0=self 1=source 2=target 3=kind 4=life 5=name 6=first 7=more 8=data 9=thing -/
noncomputable def F_Packet___init__ : Fn := mkFn 9 10
  (sSeq (sIf (tNo (tOf (eCB (c1 oAll) (aCons (eLc (wSeq (eTup (aCons (eVar 1) (aCons (eVar 2) (aCons (eVar 3) (aCons (eVar 4) aNil)))))) (gN 9) tYe (eCall0 F_is_number (aCons (eVar 9) (aCons (eC (.int 255)) aNil))) [9]) aNil)))) (sRaise "NoPacket") sNx) (sSeq (sIf (tOo (tNo (tOf (eCall F_is_number (aCons (eVar 5) (aCons (eC (.int 65535)) aNil))))) (tOo (tNo (tOf (eCall F_is_number (aCons (eVar 6) (aCons (eC (.int 1000)) aNil))))) (tNo (tOf (eCB (c2 (oIsi os_ xs_ tb_)) (aCons (eVar 7) (aCons (eC (.ty "bool")) aNil))))))) (sRaise "NoPacket") sNx) (sSeq (sIf (tNo (tOf (eCall F_are_bytes (aCons (eVar 8) (aCons (eOp oSub (eC (.int 1000)) (eVar 6)) aNil))))) (sRaise "NoPacket") sNx) (sSeq (sFl ["Packet"] "source" (eVar 0) (eVar 1)) (sSeq (sFl ["Packet"] "target" (eVar 0) (eVar 2)) (sSeq (sFl ["Packet"] "kind" (eVar 0) (eVar 3)) (sSeq (sFl ["Packet"] "life" (eVar 0) (eVar 4)) (sSeq (sFl ["Packet"] "name" (eVar 0) (eVar 5)) (sSeq (sFl ["Packet"] "first" (eVar 0) (eVar 6)) (sSeq (sFl ["Packet"] "more" (eVar 0) (eVar 7)) (sFl ["Packet"] "data" (eVar 0) (eVar 8))))))))))))
/- slots of Heap.packet_made: 0=self 1=four 2=found 3=place -/
noncomputable def F_Heap_packet_made : Fn := mkFn 2 4
  (sSeq (sSet 2 (eCB (c1 oTuple) (aCons (eLc (wAs rg1 (aCons (eFld ["Heap"] "end_place" (eVar 0)) aNil)) (gN 3) tYe (eOp oDGet (eFld ["Heap"] "by_places" (eVar 0)) (eVar 3)) [3]) aNil))) (sRet (eMake "Packet" F_Packet___init__ (aCons (eOp oIx (eVar 1) (eC (.int 0))) (aCons (eOp oIx (eVar 1) (eC (.int 1))) (aCons (eOp oIx (eVar 1) (eC (.int 2))) (aCons (eFld ["Heap"] "least_life" (eVar 0)) (aCons (eOp oIx (eVar 1) (eC (.int 3))) (aCons (eC (.int 0)) (aCons (eC (.bl false)) (aCons (eVar 2) aNil)))))))))))
/- slots of Joiner.let_first_go: 0=self 1=heap 2=four -/
noncomputable def F_Joiner_let_first_go : Fn := mkFn 1 3
  (sWh (tOf (eOp oGt (eCB (c1 oSum) (aCons (eLk (eFld ["Joiner"] "heaps" (eVar 0)) (eLc (wOf wkVT (eFld ["Joiner"] "heaps" (eVar 0))) (gN 1) tYe (eCB (c1 oLen) (aCons (eFld ["Heap"] "by_places" (eVar 1)) aNil)) [1])) aNil)) (eFld ["Joiner"] "most_held" (eVar 0)))) (sDrop (eBD (d1_ oDPopT) (eFld ["Joiner"] "heaps" (eVar 0)) (aCons (eOp oIx (eCB (c1 (oBest false)) (aCons (eLk (eFld ["Joiner"] "heaps" (eVar 0)) (eLc (wOf wkIT (eFld ["Joiner"] "heaps" (eVar 0))) (gT [(gN 2), (gN 1)]) tYe (eTup (aCons (eFld ["Heap"] "since" (eVar 1)) (aCons (eVar 2) aNil))) [2, 1])) aNil)) (eC (.int 1))) aNil))))
/- slots of Joiner.let_old_go: 0=self 1=tick 2=four -/
noncomputable def F_Joiner_let_old_go : Fn := mkFn 2 3
  (sFor (wSeq (eCB (c1 oListT) (aCons (eFld ["Joiner"] "heaps" (eVar 0)) aNil))) (gN 2) (sIf (tOf (eOp oGe (eOp oSub (eVar 1) (eFld ["Heap"] "since" (eOp oDGet (eFld ["Joiner"] "heaps" (eVar 0)) (eVar 2)))) (eFld ["Joiner"] "patience" (eVar 0)))) (sDrop (eBD (d1_ oDPopT) (eFld ["Joiner"] "heaps" (eVar 0)) (aCons (eVar 2) aNil))) sNx))
/- slots of Joiner.take: 0=self 1=packet 2=tick 3=four 4=heap -/
noncomputable def F_Joiner_take : Fn := mkFn 3 5
  (sSeq (sIf (tOo (tOf (eCB (c2 (oIsi os_ xs_ tb_)) (aCons (eVar 2) (aCons (eC (.ty "bool")) aNil)))) (tOo (tNo (tOf (eCB (c2 (oIsi os_ xs_ tb_)) (aCons (eVar 2) (aCons (eC (.ty "int")) aNil))))) (tOf (eOp oLt (eVar 2) (eFld ["Joiner"] "last_tick" (eVar 0)))))) (sRaise "NoTick") sNx) (sSeq (sFl ["Joiner"] "last_tick" (eVar 0) (eVar 2)) (sSeq (sDrop (eMeth "let_old_go" [("Joiner", F_Joiner_let_old_go)] (eVar 0) (aCons (eVar 2) aNil))) (sSeq (sIf (tAn (tOf (eOp oEq (eFld ["Packet"] "first" (eVar 1)) (eC (.int 0)))) (tNo (tOf (eFld ["Packet"] "more" (eVar 1))))) (sRet (eVar 1)) sNx) (sSeq (sSet 3 (eTup (aCons (eFld ["Packet"] "source" (eVar 1)) (aCons (eFld ["Packet"] "target" (eVar 1)) (aCons (eFld ["Packet"] "kind" (eVar 1)) (aCons (eFld ["Packet"] "name" (eVar 1)) aNil)))))) (sSeq (sIf (tOf (eOp oNotIn (eVar 3) (eFld ["Joiner"] "heaps" (eVar 0)))) (sPut (eFld ["Joiner"] "heaps" (eVar 0)) (eVar 3) (eMake "Heap" F_Heap___init__ (aCons (eVar 2) (aCons (eFld ["Packet"] "life" (eVar 1)) aNil)))) sNx) (sSeq (sSet 4 (eOp oDGet (eFld ["Joiner"] "heaps" (eVar 0)) (eVar 3))) (sSeq (sIf (tNo (tOf (eMeth "hold" [("Heap", F_Heap_hold)] (eVar 4) (aCons (eVar 1) aNil)))) (sSeq (sDrop (eBD (d1_ oDPopT) (eFld ["Joiner"] "heaps" (eVar 0)) (aCons (eVar 3) aNil))) (sRet (eC .non))) sNx) (sSeq (sIf (tOf (eMeth "is_there" [("Heap", F_Heap_is_there)] (eVar 4) aNil)) (sSeq (sDrop (eBD (d1_ oDPopT) (eFld ["Joiner"] "heaps" (eVar 0)) (aCons (eVar 3) aNil))) (sRet (eMeth "packet_made" [("Heap", F_Heap_packet_made)] (eVar 4) (aCons (eVar 3) aNil)))) sNx) (sSeq (sDrop (eMeth "let_first_go" [("Joiner", F_Joiner_let_first_go)] (eVar 0) aNil)) (sRet (eC .non))))))))))))
/- slots of Packet.told: 0=self 1=ends -/
noncomputable def F_Packet_told : Fn := mkFn 1 2
  (sSeq (sSet 1 (eTup (aCons (eFld ["Packet"] "source" (eVar 0)) (aCons (eFld ["Packet"] "target" (eVar 0)) (aCons (eFld ["Packet"] "kind" (eVar 0)) (aCons (eFld ["Packet"] "life" (eVar 0)) aNil)))))) (sRet (eOp oAdd (eVar 1) (eTup (aCons (eFld ["Packet"] "name" (eVar 0)) (aCons (eFld ["Packet"] "first" (eVar 0)) (aCons (eFld ["Packet"] "more" (eVar 0)) (aCons (eFld ["Packet"] "data" (eVar 0)) aNil))))))))
/- slots of _law_cell_at: 0=_law_script 1=_law_k -/
noncomputable def F_l_cell_at : Fn := mkFn 2 2
  (sSeq (sIf (tOf (eOp oLt (eVar 1) (eCB (c1 oLen) (aCons (eVar 0) aNil)))) (sRet (eOp oIx (eVar 0) (eVar 1))) sNx) (sRet (eC (.int 0))))
/- slots of _law_next: 0=_law_state_here 1=_law_size 2=_law_found 3=_law_mixed -/
noncomputable def F_l_next : Fn := mkFn 2 4
  (sSeq (sIf (tOf (eOp oGt (eOp oIx (eVar 0) (eC (.int 0))) (eC (.int 0)))) (sSeq (sSet 2 (eOp oMod (eOp oIx (eVar 0) (eC (.int 0))) (eVar 1))) (sSeq (sPut (eVar 0) (eC (.int 0)) (eOp oDiv (eOp oIx (eVar 0) (eC (.int 0))) (eVar 1))) (sRet (eVar 2)))) sNx) (sSeq (sPut (eVar 0) (eC (.int 1)) (eOp oMod (eOp oAdd (eOp oMul (eOp oIx (eVar 0) (eC (.int 1))) (eC (.int 69621))) (eC (.int 11))) (eC (.int 2147483629)))) (sSeq (sSet 3 (eOp oMod (eOp oMul (eOp oIx (eVar 0) (eC (.int 1))) (eOp oIx (eVar 0) (eC (.int 1)))) (eC (.int 2147483587)))) (sRet (eOp oMod (eOp oDiv (eOp oMod (eOp oAdd (eOp oMul (eVar 3) (eC (.int 40692))) (eOp oIx (eVar 0) (eC (.int 1)))) (eC (.int 2147483399))) (eC (.int 7))) (eVar 1))))))
/- slots of _law_packet_of: 0=_law_row -/
noncomputable def F_l_packet_of : Fn := mkFn 1 1
  (sRet (eMake "Packet" F_Packet___init__ (aCons (eOp oIx (eVar 0) (eC (.int 0))) (aCons (eOp oIx (eVar 0) (eC (.int 1))) (aCons (eOp oIx (eVar 0) (eC (.int 2))) (aCons (eOp oIx (eVar 0) (eC (.int 3))) (aCons (eOp oIx (eVar 0) (eC (.int 4))) (aCons (eOp oIx (eVar 0) (eC (.int 5))) (aCons (eOp oIx (eVar 0) (eC (.int 6))) (aCons (eOp oIx (eVar 0) (eC (.int 7))) aNil))))))))))
/- slots of _law_piece: 0=_law_state_here 1=_law_head 2=_law_first 3=_law_data 4=_law_k -/
noncomputable def F_l_piece : Fn := mkFn 1 5
  (sSeq (sSet 1 (eTup (aCons (eC (.int 1)) (aCons (eOp oIx (eLst (aCons (eC (.int 2)) (aCons (eC (.int 2)) (aCons (eC (.int 3)) aNil)))) (eCall F_l_next (aCons (eVar 0) (aCons (eC (.int 3)) aNil)))) (aCons (eC (.int 4)) (aCons (eCall F_l_next (aCons (eVar 0) (aCons (eC (.int 256)) aNil))) (aCons (eCall F_l_next (aCons (eVar 0) (aCons (eC (.int 2)) aNil))) aNil))))))) (sSeq (sSet 2 (eOp oIx (eLst (aCons (eC (.int 0)) (aCons (eCall F_l_next (aCons (eVar 0) (aCons (eC (.int 12)) aNil))) (aCons (eOp oMul (eC (.int 3)) (eCall F_l_next (aCons (eVar 0) (aCons (eC (.int 4)) aNil)))) aNil)))) (eCall F_l_next (aCons (eVar 0) (aCons (eC (.int 3)) aNil))))) (sSeq (sSet 3 (eCB (c1 oTuple) (aCons (eLc (wAs rg1 (aCons (eOp oIx (eLst (aCons (eCall F_l_next (aCons (eVar 0) (aCons (eC (.int 10)) aNil))) (aCons (eC (.int 3)) aNil))) (eCall F_l_next (aCons (eVar 0) (aCons (eC (.int 2)) aNil)))) aNil)) (gN 4) tYe (eCall0 F_l_next (aCons (eVar 0) (aCons (eC (.int 256)) aNil))) [4]) aNil))) (sRet (eOp oAdd (eVar 1) (eTup (aCons (eVar 2) (aCons (eOp oGt (eCall F_l_next (aCons (eVar 0) (aCons (eC (.int 3)) aNil))) (eC (.int 0))) (aCons (eVar 3) aNil)))))))))
/- slots of _law_same: 0=_law_found 1=_law_due 2=_law_told 3=_law_k 4=_law_byte -/
noncomputable def F_l_same : Fn := mkFn 2 5
  (sSeq (sIf (tOo (tOf (eOp oIs (eVar 1) (eC .non))) (tNo (tOf (eCB (c2 (oIsi os_ xs_ tb_)) (aCons (eVar 0) (aCons (eC (.nm "Packet")) aNil)))))) (sRet (eAnd (eOp oIs (eVar 1) (eC .non)) (eOp oIs (eVar 0) (eC .non)))) sNx) (sSeq (sSet 2 (eMeth "told" [("Packet", F_Packet_told)] (eVar 0) aNil)) (sSeq (sIf (tOo (tNo (tOf (eCB (c2 (oIsi os_ xs_ tb_)) (aCons (eVar 2) (aCons (eC (.ty "tuple")) aNil))))) (tOo (tOf (eOp oNe (eVar 2) (eVar 1))) (tNo (tOf (eCB (c2 (oIsi os_ xs_ tb_)) (aCons (eOp oIx (eVar 2) (eC (.int 7))) (aCons (eC (.ty "tuple")) aNil))))))) (sRet (eC (.bl false))) sNx) (sSeq (sIf (tOf (eOp oNe (eLc (wAs rg1 (aCons (eC (.int 8)) aNil)) (gN 3) (tOf (eOp oNe (eCB (c2 (oIsi os_ xs_ tb_)) (aCons (eOp oIx (eVar 2) (eVar 3)) (aCons (eC (.ty "bool")) aNil))) (eOp oEq (eVar 3) (eC (.int 6))))) (eVar 3) [3]) (eLst aNil))) (sRet (eC (.bl false))) sNx) (sRet (eOp oEq (eLc (wSeq (eOp oIx (eVar 2) (eC (.int 7)))) (gN 4) (tOf (eCB (c2 (oIsi os_ xs_ tb_)) (aCons (eVar 4) (aCons (eC (.ty "bool")) aNil)))) (eVar 4) [4]) (eLst aNil)))))))
/- slots of _law_state: 0=_law_cell 1=_law_k 2=_law_drawn -/
noncomputable def F_l_state : Fn := mkFn 2 3
  (sSeq (sSet 2 (eOp oMod (eOp oMul (eOp oAdd (eOp oAdd (eVar 0) (eOp oMul (eC (.int 7919)) (eVar 1))) (eC (.int 1))) (eC (.int 48271))) (eC (.int 2147483647)))) (sRet (eLst (aCons (eOp oMul (eVar 0) (eCB (c1 oInt) (aCons (eOp oGe (eVar 0) (eOp oPow (eC (.int 10)) (eC (.int 18)))) aNil))) (aCons (eOp oMod (eOp oAdd (eOp oAdd (eOp oMul (eVar 2) (eVar 2)) (eOp oMul (eC (.int 7)) (eVar 2))) (eVar 1)) (eC (.int 2147483629))) aNil)))))
/- slots of _law_taken: 0=_law_m 1=_law_row 2=_law_tick 3=_law_four 4=_law_heap 5=_law_k 6=_law_byte 7=_law_ends 8=_law_unlike 9=_law_place 10=_law_data 11=_law_one 12=_law_key -/
noncomputable def F_l_taken : Fn := mkFn 3 13
  (sSeq (sFor (wSeq (eCB (c1 oListT) (aCons (eOp oDGet (eVar 0) (eC (dS "held"))) aNil))) (gN 3) (sIf (tOf (eOp oGe (eOp oSub (eVar 2) (eOp oIx (eOp oDGet (eOp oDGet (eVar 0) (eC (dS "held"))) (eVar 3)) (eC (.int 0)))) (eOp oDGet (eVar 0) (eC (dS "patience"))))) (sDrop (eBD (d1_ oDPopT) (eOp oDGet (eVar 0) (eC (dS "held"))) (aCons (eVar 3) aNil))) sNx)) (sSeq (sIf (tAn (tOf (eOp oEq (eOp oIx (eVar 1) (eC (.int 5))) (eC (.int 0)))) (tNo (tOf (eOp oIx (eVar 1) (eC (.int 6)))))) (sRet (eVar 1)) sNx) (sSeq (sSet 3 (eOp oAdd (eSl oSl (eVar 1) oNo (oSo (eC (.int 3)))) (eTup (aCons (eOp oIx (eVar 1) (eC (.int 4))) aNil)))) (sSeq (sSet 4 (eBD (d2_ oDSetdT) (eOp oDGet (eVar 0) (eC (dS "held"))) (aCons (eVar 3) (aCons (eLst (aCons (eVar 2) (aCons (eOp oIx (eVar 1) (eC (.int 3))) (aCons (eC .non) (aCons (eDNew false) aNil))))) aNil)))) (sSeq (sPut (eVar 4) (eC (.int 1)) (eCB (c2 oMin2) (aCons (eOp oIx (eVar 4) (eC (.int 1))) (aCons (eOp oIx (eVar 1) (eC (.int 3))) aNil)))) (sSeq (sFor (wOf wkEA (eOp oIx (eVar 1) (eC (.int 7)))) (gT [(gN 5), (gN 6)]) (sDrop (eDSetd (eOp oIx (eVar 4) (eC (.int 3))) (eOp oAdd (eOp oIx (eVar 1) (eC (.int 5))) (eVar 5)) (eVar 6)))) (sSeq (sSet 7 (eLst (aCons (eOp oIx (eVar 4) (eC (.int 2))) (aCons (eOp oAdd (eOp oIx (eVar 1) (eC (.int 5))) (eCB (c1 oLen) (aCons (eOp oIx (eVar 1) (eC (.int 7))) aNil))) aNil)))) (sSeq (sIf (tNo (tOf (eOp oIx (eVar 1) (eC (.int 6))))) (sPut (eVar 4) (eC (.int 2)) (eOp oIx (eVar 7) (eC (.int 1)))) sNx) (sSeq (sSet 8 (eAnd (eOp oIsNot (eOp oIx (eVar 7) (eC (.int 0))) (eC .non)) (eAnd (eNot (eOp oIx (eVar 1) (eC (.int 6)))) (eOp oNe (eOp oIx (eVar 7) (eC (.int 0))) (eOp oIx (eVar 7) (eC (.int 1))))))) (sSeq (sIf (tOo (tOf (eVar 8)) (tAn (tOf (eOp oIsNot (eOp oIx (eVar 4) (eC (.int 2))) (eC .non))) (tOf (eOp oNe (eLk (eOp oIx (eVar 4) (eC (.int 3))) (eLc (wOf wkK (eOp oIx (eVar 4) (eC (.int 3)))) (gN 9) (tOf (eOp oGe (eVar 9) (eOp oIx (eVar 4) (eC (.int 2))))) (eVar 9) [9])) (eLst aNil))))) (sSeq (sDrop (eBD (d1_ oDPopT) (eOp oDGet (eVar 0) (eC (dS "held"))) (aCons (eVar 3) aNil))) (sRet (eC .non))) sNx) (sSeq (sIf (tAn (tOf (eOp oIsNot (eOp oIx (eVar 4) (eC (.int 2))) (eC .non))) (tOf (eOp oEq (eCB (c1 oLen) (aCons (eOp oIx (eVar 4) (eC (.int 3))) aNil)) (eOp oIx (eVar 4) (eC (.int 2)))))) (sSeq (sDrop (eBD (d1_ oDPopT) (eOp oDGet (eVar 0) (eC (dS "held"))) (aCons (eVar 3) aNil))) (sSeq (sSet 10 (eCB (c1 oTuple) (aCons (eLc (wAs rg1 (aCons (eOp oIx (eVar 4) (eC (.int 2))) aNil)) (gN 9) tYe (eOp oDGet (eOp oIx (eVar 4) (eC (.int 3))) (eVar 9)) [9]) aNil))) (sRet (eOp oAdd (eSl oSl (eVar 1) oNo (oSo (eC (.int 3)))) (eTup (aCons (eOp oIx (eVar 4) (eC (.int 1))) (aCons (eOp oIx (eVar 1) (eC (.int 4))) (aCons (eC (.int 0)) (aCons (eC (.bl false)) (aCons (eVar 10) aNil)))))))))) sNx) (sSeq (sWh (tOf (eOp oGt (eCB (c1 oSum) (aCons (eLk (eOp oDGet (eVar 0) (eC (dS "held"))) (eLc (wOf wkVT (eOp oDGet (eVar 0) (eC (dS "held")))) (gN 11) tYe (eCB (c1 oLen) (aCons (eOp oIx (eVar 11) (eC (.int 3))) aNil)) [11])) aNil)) (eOp oDGet (eVar 0) (eC (dS "room"))))) (sDrop (eBD (d1_ oDPopT) (eOp oDGet (eVar 0) (eC (dS "held"))) (aCons (eOp oIx (eCB (c1 (oBest false)) (aCons (eLk (eOp oDGet (eVar 0) (eC (dS "held"))) (eLc (wOf wkIT (eOp oDGet (eVar 0) (eC (dS "held")))) (gT [(gN 12), (gN 11)]) tYe (eTup (aCons (eOp oIx (eVar 11) (eC (.int 0))) (aCons (eVar 12) aNil))) [12, 11])) aNil)) (eC (.int 1))) aNil)))) (sRet (eC .non))))))))))))))
/- slots of law: 0=_law_script 1=_law_state_here 2=_law_m 3=_law_joiner 4=_law_tick 5=_law_k 6=_law_cell 7=_law_row 8=_law_packet -/
noncomputable def F_law : Fn := mkFn 1 9
  (sSeq (sSet 1 (eCall0 F_l_state (aCons (eCall0 F_l_cell_at (aCons (eVar 0) (aCons (eC (.int 0)) aNil))) (aCons (eC (.int 1)) aNil)))) (sSeq (sSet 2 (eDisp (dCons (eC (dS "patience")) (eOp oAdd (eC (.int 1)) (eCall0 F_l_next (aCons (eVar 1) (aCons (eC (.int 20)) aNil)))) (dCons (eC (dS "room")) (eOp oAdd (eC (.int 1)) (eCall0 F_l_next (aCons (eVar 1) (aCons (eC (.int 40)) aNil)))) (dCons (eC (dS "held")) (eDNew true) dNil))))) (sSeq (sSet 3 (eMake0 "Joiner" F_Joiner___init__ (aCons (eOp oDGet (eVar 2) (eC (dS "patience"))) (aCons (eOp oDGet (eVar 2) (eC (dS "room"))) aNil)))) (sSeq (sSet 4 (eC (.int 0))) (sSeq (sFor (wOf wkEA (eOp oAdd (eSl oSl (eVar 0) (oSo (eC (.int 1))) oNo) (eLst (aCons (eC (.int 0)) aNil)))) (gT [(gN 5), (gN 6)]) (sSeq (sSet 1 (eCall0 F_l_state (aCons (eVar 6) (aCons (eOp oAdd (eC (.int 2)) (eVar 5)) aNil)))) (sSeq (sSet 4 (eOp oAdd (eVar 4) (eOp oIx (eLst (aCons (eC (.int 0)) (aCons (eC (.int 0)) (aCons (eC (.int 1)) (aCons (eC (.int 1)) (aCons (eC (.int 2)) (aCons (eC (.int 3)) (aCons (eC (.int 20)) aNil)))))))) (eCall0 F_l_next (aCons (eVar 1) (aCons (eC (.int 7)) aNil)))))) (sSeq (sSet 7 (eCall0 F_l_piece (aCons (eVar 1) aNil))) (sSeq (sSet 8 (eCall0 F_l_packet_of (aCons (eVar 7) aNil))) (sIf (tOo (tNo (tOf (eCall0 F_l_same (aCons (eMeth0 "take" [("Joiner", F_Joiner_take)] (eVar 3) (aCons (eVar 8) (aCons (eVar 4) aNil))) (aCons (eCall0 F_l_taken (aCons (eVar 2) (aCons (eVar 7) (aCons (eVar 4) aNil)))) aNil))))) (tOf (eOp oNe (eMeth0 "told" [("Packet", F_Packet_told)] (eVar 8) aNil) (eVar 7)))) (sRet (eC (.bl false))) sNx)))))) (sRet (eC (.bl true))))))))
end Kk
namespace Kk
open PySem L2 SM
local macro_rules
  | `(tactic| simp_arith [$xs,*] $[$loc]?) => `(tactic| simp (disch := (first | omega | assumption | (simp only [List.length_set, List.length_append, List.length_cons, List.length_nil, List.length_map, List.length_take, List.length_drop, List.length_reverse, List.length_replicate, List.length_range] <;> omega) | (intro; omega) | (simp only [List.all_cons, List.all_nil, z3s, z6h, Option.isSome_some, Bool.and_true, Bool.and_self]; done) | decide)) only [z6y, z4a, z5x, z4v, z4d, z4n, z8j, z1s, z09, z6d, z3q, z69, z5i, eC_, z9s, zbb, z8r, z5o, z9p, z68, z4q, c1_, c2_, c3_, z7d, z63, z8q, z9i, z99, z9r, za1, za2, zba, za3, zaz, zb3, z82, z7s, z0a, z5p, zai, z6j, z9x, zb5, z8k, z9u, z78, z4s, z59, z5c, z1m, zb6, zav, zaj, z3k, z6v, z3g, z4z, z39, z61, z8u, z58, zao, z7y, z2l, z9g, gN_, z79, z30, z1e, z8d, z6o, z86, z8s, z7n, z6q, z57, z3o, z0t, z9a, z8y, z7m, z5z, z53, z6b, z70, z6a, z5v, z6l, z6r, z5n, z5g, z7b, z9e, z8t, z8p, z6k, z4i, z3x, z3i, z5f, z54, z8o, z8l, z46, z44, z89, z83, z3v, z0c, z5w, z1k, z0r, z0x, z1t, z1a, z1b, z1p, z1v, z0q, z0p, z0d, z14, z0o, z19, z0f, z0v, z06, z0n, z0z, z0l, z0u, z03, z1j, z0k, z01, z0g, z1c, z05, z0w, z0m, z07, z12, z22, z2r, z2c, z5r, z5e, z2k, z3t, z8f, z2q, z7o, zb1, z2o, z4y, z21, z1i, z3e, z10, z5d, z4b, z55, z4h, z3f, z20, z9f, z3l, z3a, z5m, z60, z1o, z40, z4u, z9l, z88, z5a, z7h, z3d, zaa, z7g, z9v, z4p, z4t, z49, zar, zas, zan, z3h, z42, z4r, z3b, z1z, z91, zb0, za6, z5q, z3m, z8v, zaf, z4e, zac, z27, zb8, z2j, z9z, z2w, z1w, z0y, z9n, zam, z9h, z51, z2x, zap, z8e, z48, z34, zad, z8c, z3p, z45, z0s, z5j, za7, z2a, z0j, zag, z1d, z0b, za0, z0e, z9j, z28, z4f, zb9, zbc, zat, z5t, z9o, zaw, zb2, z3u, z9q, z31, za4, z7e, z9k, z8z, zay, z6i, z9t, z5l, z3y, z00, z0h, zb7, z33, z8a, zah, z7f, z23, z16, z94, z92, z7z, z29, z1h, z2p, z73, z80, z98, z8h, z7p, z81, z62, z7w, z93, z7i, z7u, z1x, z1u, z25, z8i, z8n, z3w, z1f, z5u, z37, zal, z7l, z4l, z6h, z6c, z3s, zb4, zab, z90, z2u, z8x, z2h, z2v, z17, z1l, z08, z04, z2b, z13, z2g, z1g, z26, z18, z8b, z76, z6n, z74, z0i, z02, c4_, z3r, zbf, z71, z4o, z3j, z56, z3n, z24, z2d, z7k, z4x, z87, z7j, z2y, z64, z5y, z3z, z47, z2z, z50, z4g, z4j, z2m, z2i, zau, z5b, z4k, z38, z1r, z84, z6s, z6g, z6z, z5k, z43, z2f, z66, z6w, z4w, z36, z5s, z75, za8, z96, z7t, zae, z2t, z9b, z5h, z4c, z32, z9m, zbd, z72, z7q, z77, z8m, z6t, z6e, z52, z6u, z6m, z41, z6x, z3c, z7v, z7c, z9d, z7x, zaq, z35, z9w, z1n, zbe, z67, z6f, za5, z2s, z95, zak, z9y, z2e, z97, z1q, z6p, z65, z4m, z1y, z8g, z7a, za9, z11, z8w, z9c, z2n, zax, z15, z85, z7r, List.all_cons, List.all_nil, Bool.and_true, if_pos, if_neg, if_true, if_false, ite_true, ite_false, Bool.false_eq_true, Bool.true_eq_false, Bool.not_true, Bool.not_false, Bool.not_eq_true', decide_eq_true_eq, decide_eq_false_iff_not, Bool.not_eq_true, decide_true, decide_false, List.length_cons, List.length_nil, List.map_cons, List.map_nil, List.cons_append, List.nil_append, List.length_map, rep_nS, rep_n0, List.append_nil, List.mem_cons, List.mem_singleton, List.not_mem_nil, or_false, false_or, true_or, or_true, and_true, true_and, and_false, false_and, Option.isSome_some, Option.isSome_none, Option.isNone_none, Option.isNone_some, String.reduceEq, String.reduceNe, Nat.reduceAdd, Nat.reduceSub, Nat.reduceLT, Nat.reduceLeDiff, Nat.reduceMul, Int.reduceAdd, Int.reduceSub, Int.reduceMul, Int.reduceLT, Int.reduceLE, Int.reduceGT, Int.reduceEq, Int.reduceToNat, Int.reducePow, Int.reduceNeg, Nat.reduceEqDiff, eq_self, eq_self_iff_true, not_true_eq_false, not_false_eq_true, List.getElem?_cons_zero, List.getElem?_cons_succ, Option.bind_some, ne_eq, reduceCtorEq, Int.reduceDiv, Int.reduceMod, Bool.and_self, reduceIte, $xs,*] $[$loc]?)
local macro_rules
  | `(tactic| walk_at "fr!") => `(tactic| (repeat (first | exact Fr.refl | assumption | refine Fr.then_push ?_ | refine Fr.then_set ?_ (by first | exact Or.inr (Nat.le_refl _) | exact Or.inr (by omega) | (refine Or.inl ?_; simp; done) | (refine Or.inr ?_; simp; done)))))
/-! draws by two numbers (k20 k23) -/
def Drw (A : Hs) (i : Nat) : Prop := ∃ a b : Int, A[i]? = some (.lst [.int a, .int b])
theorem Drw.frame {A A1 : Hs} {i : Nat} {s : List Nat} (h : Drw A i) (f : Fr s A A1) (hi : i ∉ s) : Drw A1 i := by
  obtain ⟨a, b, h⟩ := h
  exact ⟨a, b, f.get h hi⟩
theorem Drw.lt {A : Hs} {i : Nat} (h : Drw A i) : i < A.length := by
  obtain ⟨a, b, h⟩ := h
  exact lt_of_get h
theorem Drw.pushed {A : Hs} {i : Nat} {x : O} (d : Drw A i) : Drw (A ++ [x]) i := d.frame (s := []) .push (by simp)
theorem state_ok {p q : Int} {A : Hs} : Rk (F_l_state [.int p, .int q] A) fun v A1 => v = .ref A.length ∧ Drw A1 A.length ∧ Fr [] A A1 := by
  unfold F_l_state
  simp_arith []
  exact ⟨⟨_, _, zah⟩, .push⟩
theorem next_ok {A : Hs} {i : Nat} {n : Int} (h : Drw A i) (hn : 0 < n) (hn2 : n < 18446744073709551616) : ∃ v A1, 0 ≤ v ∧ v < n ∧ F_l_next [.ref i, .int n] A = .ok (.int v) A1 ∧ Drw A1 i ∧ Fr [i] A A1 := by
  obtain ⟨a, b, h⟩ := h
  have hi := lt_of_get h
  unfold F_l_next
  by_cases q : 0 < a
  · refine ⟨a % n, A.set i (.lst [.int (a / n), .int b]), Int.emod_nonneg _ (by omega), Int.emod_lt_of_pos _ hn, ?_, ⟨_, _, zb7 hi⟩, .set (by simp)⟩
    simp_arith [h, q, List.set_cons_zero]
  · obtain ⟨y, hy⟩ : ∃ y, y = (b * 69621 + 11) % 2147483629 := ⟨_, rfl⟩
    refine ⟨((y * y % 2147483587 * 40692 + y) % 2147483399) / 7 % n, A.set i (.lst [.int a, .int y]), Int.emod_nonneg _ (by omega), Int.emod_lt_of_pos _ hn, ?_, ⟨_, _, zb7 hi⟩, .set (by simp)⟩
    simp_arith [h, q, List.set_cons_zero, List.set_cons_succ, ← hy]
theorem pick_i {ns : List Int} {v : Int} (h0 : 0 ≤ v) (h1 : v < ns.length) : ∃ x ∈ ns, atI (ns.map D.int) v = some (.int x) := by
  have : v.toNat < ns.length := by omega
  refine ⟨ns[v.toNat], List.getElem_mem this, ?_⟩
  rw [z73 h0, List.getElem?_map, List.getElem?_eq_getElem this]; rfl
def rw_ (l : List Int) : D := .tup (l.map D.int)
/-! packets with a first place -/
open DL (Bytes)
structure Pq where
  s : Int
  t : Int
  k : Int
  l : Int
  n : Int
  f : Int
  m : Bool
  d : List Int
structure Pq.Ok (p : Pq) : Prop where
  s : 0 ≤ p.s ∧ p.s ≤ 255
  t : 0 ≤ p.t ∧ p.t ≤ 255
  k : 0 ≤ p.k ∧ p.k ≤ 255
  l : 0 ≤ p.l ∧ p.l ≤ 255
  n : 0 ≤ p.n ∧ p.n ≤ 65535
  f : 0 ≤ p.f ∧ p.f ≤ 1000
  b : Bytes p.d
  dl : (p.d.length : Int) ≤ 1000 - p.f
def Pq.fs (p : Pq) : List (String × D) := [("source", .int p.s), ("target", .int p.t), ("kind", .int p.k), ("life", .int p.l), ("name", .int p.n), ("first", .int p.f), ("more", .bl p.m), ("data", rw_ p.d)]
def Pq.args (p : Pq) : List D := [.int p.s, .int p.t, .int p.k, .int p.l, .int p.n, .int p.f, .bl p.m, rw_ p.d]
def Pq.row (p : Pq) : D := .tup p.args
theorem num_p {p m : Int} {A : Hs} : F_is_number [.int p, .int m] A = .ok (.bl (decide (0 ≤ p) && decide (p ≤ m))) A := by
  unfold F_is_number
  by_cases h : 0 ≤ p
  · simp_arith [h, Bool.true_and]
  · simp_arith [h, Bool.false_and]
theorem are_bytes_ok {d : List Int} {m : Int} {A : Hs} (hb : Bytes d) (hl : (d.length : Int) ≤ m) (hm : m ≤ 2000) : ∃ A1, F_are_bytes [rw_ d, .int m] A = .ok (.bl true) A1 ∧ Fr [] A A1 := by
  refine ⟨A ++ [.lst ((d.map D.int).map fun _ => .bl true)], ?_, .push⟩
  unfold F_are_bytes rw_
  simp_arith [hl]
  rw [lc_go (fun _ => true) (fun _ => .bl true) trivial (by rw [List.length_map]; omega)]
  rotate_left
  · intro x hx
    obtain ⟨b, hbb, rfl⟩ := List.mem_map.mp hx
    have h := hb b hbb
    have a : (0 : Int) ≤ b := h.1
    have c : b ≤ (255 : Int) := h.2
    show Got _ _
    simp_arith [num_p, a, c]
    first | exact fun _ => rfl | exact fun _ => trivial | trivial
  rw [List.filter_eq_self.mpr (by simp)]
  have e : ((d.map D.int).map fun _ => D.bl true) = (d.map fun _ => true).map D.bl := by rw [List.map_map, List.map_map]; rfl
  have e2 : boolsOf ((d.map D.int).map fun _ => D.bl true) = some (d.map fun _ => true) := by rw [e, z00]
  simp_arith [e2]
  simp
theorem packet_ok {p : Pq} {A : Hs} (h : p.Ok) : Rk (make "Packet" F_Packet___init__ p.args A) fun v A1 => v = .ref A.length ∧ A1[A.length]? = some (.obj "Packet" p.fs) ∧ Fr [] A A1 := by
  refine Rk.make ?_
  obtain ⟨s, t, k, l, n, f, m, d⟩ := p
  have hs := h.s
  have ht := h.t
  have hk := h.k
  have hl := h.l
  have hn := h.n
  have hf := h.f
  have hb := h.b
  have hd := h.dl
  simp only at hs ht hk hl hn hb hd hf
  unfold F_Packet___init__ Pq.args
  have hn1 : (0 : Int) ≤ n := hn.1
  have hn2 : n ≤ (65535 : Int) := hn.2
  have hf1 : (0 : Int) ≤ f := hf.1
  have hf2 : f ≤ (1000 : Int) := hf.2
  simp_arith []
  rw [lc_go (ds := [D.int s, D.int t, D.int k, D.int l]) (fun _ => true) (fun _ => .bl true) trivial (show 4 < 16000000 by decide)]
  rotate_left
  · intro x hx
    simp only [List.mem_cons, List.not_mem_nil, or_false] at hx
    have : ∃ b : Int, x = .int b ∧ 0 ≤ b ∧ b ≤ 255 := by
      rcases hx with rfl | rfl | rfl | rfl
      · exact ⟨_, rfl, hs⟩
      · exact ⟨_, rfl, ht⟩
      · exact ⟨_, rfl, hk⟩
      · exact ⟨_, rfl, hl⟩
    obtain ⟨b, rfl, a, c⟩ := this
    show Got _ _
    simp_arith [num_p, a, c]
    first | exact fun _ => rfl | exact fun _ => trivial | trivial
  rw [List.filter_eq_self.mpr (by simp)]
  have e2 : boolsOf ([D.int s, D.int t, D.int k, D.int l].map fun _ => D.bl true) = some [true, true, true, true] := rfl
  obtain ⟨B, e3, f3⟩ := are_bytes_ok (m := 1000 - f) (A := A ++ [O.obj "Packet" []] ++ [O.lst ([D.int s, D.int t, D.int k, D.int l].map fun _ => D.bl true)]) hb hd (by omega)
  have nB := f3.le
  have hB : B[A.length]? = some (.obj "Packet" []) := f3.get (get_push zah) (by simp)
  have nB' := lt_of_get hB
  simp only [List.map_cons, List.map_nil] at e2 e3 f3
  simp_arith [e2, num_p, hn1, hn2, hf1, hf2, e3, hB]
  exact ⟨rfl, (Fr.push.trans (Fr.push.trans f3)).then_set (.inr (Nat.le_refl _))⟩
theorem told_ok {p : Pq} {q : Nat} {A : Hs} (h : A[q]? = some (.obj "Packet" p.fs)) : F_Packet_told [.ref q] A = .ok p.row A := by
  unfold Pq.fs at h
  unfold F_Packet_told
  simp_arith [h]
  rfl
theorem of_ok {p : Pq} {A : Hs} (h : p.Ok) : Rk (F_l_packet_of [p.row] A) fun v A1 => v = .ref A.length ∧ A1[A.length]? = some (.obj "Packet" p.fs) ∧ Fr [] A A1 := by
  obtain ⟨_, A1, e, rfl, g, f⟩ := (packet_ok (A := A) h).ex
  unfold Pq.args at e
  unfold F_l_packet_of Pq.row Pq.args
  simp_arith [e]
  exact ⟨g, f⟩
/-! draws of packets -/
open DL (Bytes)
theorem getp {A : Hs} {u : O} {i : Nat} (h : i = A.length) : (A ++ [u])[i]? = some u := by subst h; exact zah

/-! refusals, what is the same -/
open DL (Bytes)
theorem row_pd {p : Pq} : pd 40 p.row = true := by
  show (p.args.all (pd 39)) = true
  unfold Pq.args
  rw [List.all_eq_true]
  intro d hd
  simp only [List.mem_cons, List.not_mem_nil, or_false] at hd
  rcases hd with rfl | rfl | rfl | rfl | rfl | rfl | rfl | rfl
  · exact pd_int
  · exact pd_int
  · exact pd_int
  · exact pd_int
  · exact pd_int
  · exact pd_int
  · rfl
  · exact pd_ints
theorem same_ok {p : Pq} {x : Nat} {A : Hs} (h : A[x]? = some (.obj "Packet" p.fs)) (hl : p.d.length ≤ 100000) : ∃ A1, F_l_same [.ref x, p.row] A = .ok (.bl true) A1 ∧ Fr [] A A1 := by
  have e1 := told_ok h
  have e2 : ∀ B, oNe p.row p.row B = .ok (.bl false) B := fun B => oNe_pd row_pd
  have er : p.row = .tup [.int p.s, .int p.t, .int p.k, .int p.l, .int p.n, .int p.f, .bl p.m, .tup (p.d.map D.int)] := rfl
  have i1 : oIsi os_ xs_ tb_ (.ref x) (.nm "Packet") A = .ok (.bl true) A := by
    unfold oIsi isiD kdOf
    simp only [h]
    rfl
  suffices H : Rk (F_l_same [.ref x, p.row] A) fun v A1 => v = .bl true ∧ Fr [] A A1 by
    obtain ⟨_, A1, e, rfl, f⟩ := H.ex; exact ⟨A1, e, f⟩
  rw [er] at e1 e2 ⊢
  unfold Pq.fs at h
  unfold F_l_same
  simp_arith [i1, h, e1, e2]
  rw [lc_go (fun _ => false) id trivial (by rw [rgL_len]; decide)]
  rotate_left
  · intro d hd
    obtain ⟨j, hj, rfl⟩ := mem_rgL hd
    rcases (by omega : j = 0 ∨ j = 1 ∨ j = 2 ∨ j = 3 ∨ j = 4 ∨ j = 5 ∨ j = 6 ∨ j = 7) with rfl | rfl | rfl | rfl | rfl | rfl | rfl | rfl <;>
      (show Got _ _; simp_arith [oNe_bb]; first | exact ⟨rfl, rfl, fun z => nomatch z⟩ | exact fun z => nomatch z | trivial)
  rw [List.filter_eq_nil_iff.mpr (by simp)]
  have g0 : oNe (.ref A.length) (.ref (A.length + 1)) (A ++ [.lst []] ++ [.lst []]) = .ok (.bl false) (A ++ [.lst []] ++ [.lst []]) := oNe_lst (l := []) (get_push zah) (getp (by simp)) rfl
  simp_arith [g0]
  rw [lc_go (fun _ => false) id trivial (by rw [List.length_map]; omega)]
  rotate_left
  · intro d hd
    obtain ⟨b, hb, rfl⟩ := List.mem_map.mp hd
    show Got _ _
    simp_arith []
    first | exact fun z => nomatch z | trivial
  rw [List.filter_eq_nil_iff.mpr (by simp)]
  obtain ⟨B, hB⟩ : ∃ B, B = A ++ [O.lst []] ++ [O.lst []] := ⟨_, rfl⟩
  have fB : Fr [] A B := by rw [hB]; exact Fr.push.then_push
  have lB : B.length = A.length + 2 := by rw [hB]; simp
  have g1 : oEq (.ref B.length) (.ref (B.length + 1)) (B ++ [.lst []] ++ [.lst []]) = .ok (.bl true) (B ++ [.lst []] ++ [.lst []]) := oEq_lst (l := []) (get_push zah) (getp (by simp)) rfl
  rw [← hB]
  simp_arith [g1]
  exact (fB.then_push).then_push

/-! joiners: plain -/
section
variable {κ : Type} [DecidableEq κ] [BEq κ] [LawfulBEq κ] {e : κ → D}
def kvG (e : κ → D) (L : List (κ × D)) : List (D × D) := L.map fun p => (e p.1, p.2)
theorem lookG {a k : κ} {x : D} {L : List (κ × D)} : ((a, x) :: L).lookup k = if k = a then some x else L.lookup k := by
  rw [List.lookup_cons]
  by_cases h : k = a
  · subst h; simp
  · rw [if_neg h]
    have : (k == a) = false := by simpa using h
    rw [this]
theorem kget_kvG (he : ∀ a b, keq (e a) (e b) = decide (a = b)) {L : List (κ × D)} {k : κ} : kget (kvG e L) (e k) = L.lookup k := by
  induction L with
  | nil => rfl
  | cons p L ih =>
    obtain ⟨a, d⟩ := p
    unfold kvG at ih ⊢
    rw [List.map_cons, z16, he, lookG, ih]
    by_cases h : a = k
    · subst h; simp
    · simp [h, Ne.symm h]
theorem khas_kvG (he : ∀ a b, keq (e a) (e b) = decide (a = b)) {L : List (κ × D)} {k : κ} (h : L.lookup k = none) : khas (kvG e L) (e k) = false := by
  induction L with
  | nil => rfl
  | cons p L ih =>
    obtain ⟨a, d⟩ := p
    rw [lookG] at h
    by_cases q : k = a
    · rw [if_pos q] at h; cases h
    · rw [if_neg q] at h
      have := ih h
      unfold khas kvG at this ⊢
      rw [List.map_cons, List.any_cons, this, he, decide_eq_false (fun e => q e.symm)]; rfl
theorem kput_kvG (he : ∀ a b, keq (e a) (e b) = decide (a = b)) {L : List (κ × D)} {k : κ} {d : D} (h : L.lookup k = none) : kput (kvG e L) (e k) d = kvG e (L ++ [(k, d)]) := by
  unfold kput; rw [khas_kvG he h]; simp [kvG]
theorem kdel_kvG (he : ∀ a b, keq (e a) (e b) = decide (a = b)) {L : List (κ × D)} {k : κ} : kdel (kvG e L) (e k) = kvG e (L.filter fun p => decide (p.1 ≠ k)) := by
  induction L with
  | nil => rfl
  | cons p L ih =>
    obtain ⟨a, d⟩ := p
    unfold kdel kvG at ih ⊢
    rw [List.map_cons, List.filter_cons, List.filter_cons, ih, he]
    by_cases h : a = k
    · simp [h]
    · simp [h]
theorem len_kvG {L : List (κ × D)} : (kvG e L).length = L.length := by simp [kvG]
end
abbrev Four := Int × Int × Int × Int
def fD (f : Four) : D := .tup [.int f.1, .int f.2.1, .int f.2.2.1, .int f.2.2.2]
theorem fD_keq (a b : Four) : keq (fD a) (fD b) = decide (a = b) := by
  have h := keq_kT [.inl a.1, .inl a.2.1, .inl a.2.2.1, .inl a.2.2.2] [.inl b.1, .inl b.2.1, .inl b.2.2.1, .inl b.2.2.2]
  have h1 : kT [.inl a.1, .inl a.2.1, .inl a.2.2.1, .inl a.2.2.2] = fD a := rfl
  have h2 : kT [.inl b.1, .inl b.2.1, .inl b.2.2.1, .inl b.2.2.2] = fD b := rfl
  rw [h1, h2] at h
  rw [h]
  obtain ⟨a1, a2, a3, a4⟩ := a
  obtain ⟨b1, b2, b3, b4⟩ := b
  by_cases q : (a1, a2, a3, a4) = (b1, b2, b3, b4)
  · rw [decide_eq_true q]
    cases q
    exact decide_eq_true rfl
  · rw [decide_eq_false q]
    refine decide_eq_false fun z => q ?_
    simp only [List.cons.injEq, Sum.inl.injEq, and_true] at z
    obtain ⟨z1, z2, z3, z4⟩ := z
    rw [z1, z2, z3, z4]
theorem fD_ok {f : Four} : keyOk true (fD f) = true := rfl
/-- bytes by their places -/
def kd (kv : List (Int × Int)) : List (D × D) := kvG D.int (kv.map fun p => (p.1, D.int p.2))
theorem ii_keq (a b : Int) : keq (.int a) (.int b) = decide (a = b) := z60
theorem look_kd {kv : List (Int × Int)} {k : Int} : (kv.map fun p => (p.1, D.int p.2)).lookup k = (kv.lookup k).map D.int := by
  induction kv with
  | nil => rfl
  | cons p kv ih =>
    obtain ⟨a, b⟩ := p
    rw [List.map_cons, lookG, ih, List.lookup_cons]
    by_cases h : k = a
    · subst h; simp
    · rw [if_neg h]
      have : (k == a) = false := by simpa using h
      rw [this]
theorem kget_kd {kv : List (Int × Int)} {k : Int} : kget (kd kv) (.int k) = (kv.lookup k).map D.int := by
  unfold kd
  rw [kget_kvG ii_keq, look_kd]
theorem len_kd {kv : List (Int × Int)} : (kd kv).length = kv.length := by unfold kd; rw [len_kvG, List.length_map]
theorem keys_kd {kv : List (Int × Int)} : (kd kv).map Prod.fst = (kv.map Prod.fst).map D.int := by
  unfold kd kvG
  rw [List.map_map, List.map_map, List.map_map]
  rfl
def sd (kv : List (Int × Int)) (p b : Int) : List (Int × Int) := match kv.lookup p with
  | some _ => kv
  | none => kv ++ [(p, b)]
theorem kput_kd {kv : List (Int × Int)} {p b : Int} (h : kv.lookup p = none) : kput (kd kv) (.int p) (.int b) = kd (kv ++ [(p, b)]) := by
  unfold kd
  rw [kput_kvG ii_keq (by rw [look_kd, h]; rfl), List.map_append]
  rfl
def sds (kv : List (Int × Int)) (p : Int) : List Int → List (Int × Int)
  | [] => kv
  | b :: r => sds (sd kv p b) (p + 1) r
theorem sds_snoc : ∀ {l : List Int} {kv : List (Int × Int)} {p b : Int}, sds kv p (l ++ [b]) = sd (sds kv p l) (p + l.length) b
  | [], kv, p, b => by simp [sds]
  | x :: l, kv, p, b => by
    rw [List.cons_append, sds, sds_snoc, sds, List.length_cons]
    congr 1
    omega
/-- places without one twice, between bounds, bytes -/
structure Kv (kv : List (Int × Int)) : Prop where
  nd : (kv.map Prod.fst).Nodup
  lo : ∀ z ∈ kv, 0 ≤ z.1 ∧ z.1 ≤ 999
  by_ : ∀ z ∈ kv, 0 ≤ z.2 ∧ z.2 ≤ 255
theorem look_none {kv : List (Int × Int)} {p : Int} (h : kv.lookup p = none) : p ∉ kv.map Prod.fst := by
  induction kv with
  | nil => simp
  | cons z kv ih =>
    obtain ⟨a, b⟩ := z
    rw [List.lookup_cons] at h
    by_cases q : p = a
    · subst q; simp at h
    · have : (p == a) = false := by simpa using q
      rw [this] at h
      rw [List.map_cons, List.mem_cons]
      rintro (w | w)
      · exact q w
      · exact ih h w
theorem look_some {kv : List (Int × Int)} {p : Int} (h : p ∈ kv.map Prod.fst) : ∃ b, kv.lookup p = some b ∧ (p, b) ∈ kv := by
  induction kv with
  | nil => simp at h
  | cons z kv ih =>
    obtain ⟨a, b⟩ := z
    rw [List.lookup_cons]
    by_cases q : p = a
    · subst q; exact ⟨b, by simp, List.mem_cons_self⟩
    · have : (p == a) = false := by simpa using q
      rw [this]
      rw [List.map_cons, List.mem_cons] at h
      obtain ⟨b', h1, h2⟩ := ih (h.resolve_left q)
      exact ⟨b', h1, List.mem_cons_of_mem _ h2⟩
theorem Kv.sd {kv : List (Int × Int)} {p b : Int} (h : Kv kv) (hp : 0 ≤ p ∧ p ≤ 999) (hb : 0 ≤ b ∧ b ≤ 255) : Kv (sd kv p b) := by
  unfold Kk.sd
  cases q : kv.lookup p with
  | some x => exact h
  | none =>
    refine ⟨?_, fun z hz => ?_, fun z hz => ?_⟩
    · simp only [List.map_append, List.map_cons, List.map_nil]
      rw [List.nodup_append]
      refine ⟨h.nd, by simp, fun a ha c hc => ?_⟩
      rw [List.mem_singleton] at hc
      rw [hc]
      rintro rfl
      exact look_none q ha
    · rcases List.mem_append.mp hz with w | w
      · exact h.lo z w
      · rw [List.mem_singleton] at w; rw [w]; exact hp
    · rcases List.mem_append.mp hz with w | w
      · exact h.by_ z w
      · rw [List.mem_singleton] at w; rw [w]; exact hb
theorem Kv.sds : ∀ {l : List Int} {kv : List (Int × Int)} {p : Int}, Kv kv → 0 ≤ p → p + l.length ≤ 1000 → (∀ b ∈ l, 0 ≤ b ∧ b ≤ 255) → Kv (sds kv p l)
  | [], kv, p, h, _, _, _ => h
  | b :: l, kv, p, h, h0, h1, hb => by
    rw [List.length_cons] at h1
    rw [Kk.sds]
    exact Kv.sds (h.sd ⟨h0, by omega⟩ (hb b List.mem_cons_self)) (by omega) (by omega) fun x hx => hb x (List.mem_cons_of_mem _ hx)
/-- so many unlike numbers below a bound are all -/
theorem all_there : ∀ (n : Nat) {l : List Int}, l.Nodup → (∀ x ∈ l, 0 ≤ x ∧ x < n) → l.length ≤ n ∧ (l.length = n → ∀ i : Nat, i < n → (i : Int) ∈ l)
  | 0, l, _, h => by
    cases l with
    | nil => exact ⟨Nat.le_refl _, fun _ i hi => absurd hi (Nat.not_lt_zero _)⟩
    | cons x l => have := h x List.mem_cons_self; omega
  | n + 1, l, hn, h => by
    by_cases q : (n : Int) ∈ l
    · have hn2 : (l.erase (n : Int)).Nodup := hn.erase _
      obtain ⟨h1, h2⟩ := all_there n hn2 (fun x hx => by
        have hx2 := List.mem_of_mem_erase hx
        have h3 := h x hx2
        have : x ≠ n := by
          rintro rfl
          exact (List.Nodup.not_mem_erase hn) hx
        omega)
      have hl := List.length_erase_of_mem q
      have hp : 0 < l.length := List.length_pos_of_mem q
      refine ⟨by omega, fun e i hi => ?_⟩
      by_cases z : i = n
      · rw [z]; exact q
      · exact List.mem_of_mem_erase (h2 (by omega) i (by omega))
    · obtain ⟨h1, h2⟩ := all_there n hn (fun x hx => by
        have h3 := h x hx
        have : x ≠ n := by rintro rfl; exact q hx
        omega)
      exact ⟨by omega, fun e => by omega⟩
structure Jh where
  since : Int
  life : Int
  en : Option Int
  kv : List (Int × Int)
def oI : Option Int → D
  | none => .non
  | some i => .int i
/-- the greatest place, or -1 -/
def mxp (kv : List (Int × Int)) : Int := if kv = [] then -1 else SM.mx (kv.map Prod.fst)
def inB (en : Option Int) (kv : List (Int × Int)) : Bool := match en with
  | none => true
  | some e => decide (mxp kv < e)
/-- a piece more -/
def Jh.hold (h : Jh) (p : Pq) : Jh × Bool :=
  let kv := sds h.kv p.f p.d
  let life := min h.life p.l
  if p.m = true then (⟨h.since, life, h.en, kv⟩, inB h.en kv)
  else match h.en with
    | some e => if e ≠ p.f + p.d.length then (⟨h.since, life, h.en, kv⟩, false) else (⟨h.since, life, some (p.f + p.d.length), kv⟩, inB (some (p.f + p.d.length)) kv)
    | none => (⟨h.since, life, some (p.f + p.d.length), kv⟩, inB (some (p.f + p.d.length)) kv)
def Jh.there (h : Jh) : Bool := match h.en with
  | none => false
  | some e => decide ((h.kv.length : Int) = e)
def dataK (kv : List (Int × Int)) (n : Nat) : List Int := (List.range n).map fun (i : Nat) => (kv.lookup (i : Int)).getD 0
def Jh.made (h : Jh) (f : Four) : Pq := ⟨f.1, f.2.1, f.2.2.1, h.life, f.2.2.2, 0, false, dataK h.kv (h.en.getD 0).toNat⟩
def Pq.four (p : Pq) : Four := (p.s, p.t, p.k, p.n)
/-- what is held, by packets -/
def hen (hs : List (Four × Jh)) (p : Pq) (tick : Int) : Jh := (hs.lookup p.four).getD ⟨tick, p.l, none, []⟩
def ens (hs : List (Four × Jh)) (p : Pq) (tick : Int) : List (Four × Jh) := match hs.lookup p.four with
  | some _ => hs
  | none => hs ++ [(p.four, ⟨tick, p.l, none, []⟩)]
def wo (hs : List (Four × Jh)) (f : Four) : List (Four × Jh) := hs.filter fun z => decide (z.1 ≠ f)
def wi (hs : List (Four × Jh)) (f : Four) (h : Jh) : List (Four × Jh) := hs.map fun z => if z.1 = f then (z.1, h) else z
def tk1 (hs : List (Four × Jh)) (p : Pq) (h : Jh × Bool) : List (Four × Jh) × Option Pq :=
  if h.2 = false then (wo hs p.four, none)
  else if h.1.there = true then (wo hs p.four, some (h.1.made p.four))
  else (wi hs p.four h.1, none)
def held (hs : List (Four × Jh)) : Int := (hs.map fun z => (z.2.kv.length : Int)).sum
def old (pat tick : Int) (hs : List (Four × Jh)) : List (Four × Jh) := hs.filter fun z => decide (tick - z.2.since < pat)
structure Jh.Ok (h : Jh) : Prop where
  life : 0 ≤ h.life ∧ h.life ≤ 255
  kv : Kv h.kv
  en : ∀ e, h.en = some e → 0 ≤ e ∧ e ≤ 1000
def Four.Ok (f : Four) : Prop := (0 ≤ f.1 ∧ f.1 ≤ 255) ∧ (0 ≤ f.2.1 ∧ f.2.1 ≤ 255) ∧ (0 ≤ f.2.2.1 ∧ f.2.2.1 ≤ 255) ∧ (0 ≤ f.2.2.2 ∧ f.2.2.2 ≤ 65535)
theorem Jh.Ok.hold {h : Jh} {p : Pq} (hk : h.Ok) (hp : p.Ok) : (h.hold p).1.Ok := by
  have a := hp.l
  have b := hk.life
  have c := hp.f
  have d := hp.dl
  have kv : Kv (sds h.kv p.f p.d) := hk.kv.sds c.1 (by omega) fun x hx => hp.b x hx
  have l : 0 ≤ min h.life p.l ∧ min h.life p.l ≤ 255 := by omega
  unfold Jh.hold
  split
  · exact ⟨l, kv, hk.en⟩
  · split
    · rename_i e he
      split
      · exact ⟨l, kv, hk.en⟩
      · exact ⟨l, kv, fun e' h' => by cases h'; omega⟩
    · exact ⟨l, kv, fun e' h' => by cases h'; omega⟩
theorem Pq.Ok.four {p : Pq} (hp : p.Ok) : Four.Ok p.four := ⟨hp.s, hp.t, hp.k, hp.n⟩
/-- all bytes are there -/
theorem full_ {kv : List (Int × Int)} {e : Int} (hk : Kv kv) (hb : mxp kv < e) (hl : (kv.length : Int) = e) : ∀ i : Nat, i < e.toNat → ∃ b, kv.lookup (i : Int) = some b ∧ 0 ≤ b ∧ b ≤ 255 := by
  intro i hi
  have hlt : ∀ x ∈ kv.map Prod.fst, 0 ≤ x ∧ x < (e.toNat : Nat) := fun x hx => by
    obtain ⟨z, hz, rfl⟩ := List.mem_map.mp hx
    refine ⟨(hk.lo z hz).1, ?_⟩
    have hne : kv ≠ [] := by rintro rfl; cases hz
    unfold mxp at hb
    rw [if_neg hne] at hb
    have := (mx_ok (l := kv.map Prod.fst) (by simpa using hne)).2 _ hx
    omega
  obtain ⟨_, h2⟩ := all_there e.toNat hk.nd hlt
  have := h2 (by rw [List.length_map]; omega) i hi
  obtain ⟨b, h3, h4⟩ := look_some this
  exact ⟨b, h3, hk.by_ _ h4⟩
theorem made_ok {h : Jh} {f : Four} {e : Int} (hk : h.Ok) (hf : Four.Ok f) (he : h.en = some e) (hb : mxp h.kv < e) (hl : (h.kv.length : Int) = e) : (h.made f).Ok := by
  obtain ⟨f1, f2, f3, f4⟩ := hf
  have h1 := hk.en e he
  refine ⟨f1, f2, f3, hk.life, f4, ?_, ?_, ?_⟩
  · show (0 : Int) ≤ 0 ∧ (0 : Int) ≤ 1000
    decide
  · intro x hx
    have hx : x ∈ dataK h.kv (h.en.getD 0).toNat := hx
    rw [he] at hx
    obtain ⟨i, hi, rfl⟩ := List.mem_map.mp hx
    rw [List.mem_range] at hi
    obtain ⟨b, h3, h4⟩ := full_ hk.kv hb hl i hi
    rw [h3]
    exact h4
  · show ((dataK h.kv (h.en.getD 0).toNat).length : Int) ≤ 1000 - 0
    unfold dataK
    rw [he, List.length_map, List.length_range]
    show ((e.toNat : Nat) : Int) ≤ _
    omega

/-! heaps of pieces -/
open DL (Bytes)
theorem Kv.len {kv : List (Int × Int)} (h : Kv kv) : kv.length ≤ 1000 := by
  have := (all_there 1000 h.nd (fun x hx => by
    obtain ⟨z, hz, rfl⟩ := List.mem_map.mp hx
    have := h.lo z hz
    omega)).1
  rwa [List.length_map] at this
def Jh.fs (h : Jh) (b : Nat) : List (String × D) := [("since", .int h.since), ("least_life", .int h.life), ("end_place", oI h.en), ("by_places", .ref b)]
structure IsH (A : Hs) (x b : Nat) (h : Jh) : Prop where
  o : A[x]? = some (.obj "Heap" (h.fs b))
  d : A[b]? = some (.dic false false (kd h.kv))
theorem IsH.ne {A : Hs} {x b : Nat} {h : Jh} (k : IsH A x b h) : x ≠ b := by
  rintro rfl
  have := k.o
  rw [k.d] at this
  cases this
theorem IsH.frame {A B : Hs} {x b : Nat} {h : Jh} {s : List Nat} (k : IsH A x b h) (f : Fr s A B) (hx : x ∉ s) (hb : b ∉ s) : IsH B x b h := ⟨f.get k.o hx, f.get k.d hb⟩
theorem set_same {A : Hs} {i : Nat} {o : O} (h : A[i]? = some o) : A.set i o = A := by
  obtain ⟨hl, rfl⟩ := List.getElem?_eq_some_iff.mp h
  exact List.set_getElem_self hl
theorem getpp {A : Hs} {u : O} {i : Nat} (h : i = A.length) : (A ++ [u])[i]? = some u := by subst h; exact zah
theorem ne_obj {A : Hs} {x q : Nat} {C C' : String} {fs fs' : List (String × D)} (h : A[x]? = some (.obj C fs)) (k : A[q]? = some (.obj C' fs')) (n : C ≠ C') : x ≠ q := by
  rintro rfl
  rw [h] at k
  injection k with k
  injection k with k
  exact n k
theorem heap_ok {A : Hs} {tick l : Int} : Rk (make "Heap" F_Heap___init__ [.int tick, .int l] A) fun v A1 => v = .ref A.length ∧ IsH A1 A.length (A.length + 1) ⟨tick, l, none, []⟩ ∧ Fr [] A A1 := by
  refine Rk.make ?_
  unfold F_Heap___init__
  simp_arith []
  refine ⟨⟨?_, ?_⟩, by walk_at "fr!"⟩
  · first | rfl | (simp_arith []; rfl)
  · first | (refine getpp ?_; simp; done) | (rw [z33 (by omega)]; refine getpp ?_; simp)
theorem setd_kd {B : Hs} {b : Nat} {kv : List (Int × Int)} {p y : Int} (h : B[b]? = some (.dic false false (kd kv))) (hl : kv.length ≤ 1000) : ∃ v, dsd_ B b (.int p) (.int y) (some (.dic false false (kd kv))) = .ok v (B.set b (.dic false false (kd (sd kv p y)))) := by
  cases q : kv.lookup p with
  | some z =>
    refine ⟨.int z, ?_⟩
    rw [z8g rfl (by rw [len_kd]; omega) (by rw [kget_kd, q]; rfl)]
    unfold sd
    rw [q]
    simp only
    rw [set_same h]
  | none =>
    refine ⟨.int y, ?_⟩
    rw [z7a rfl (by rw [len_kd]; omega) (by rw [kget_kd, q]; rfl), kput_kd q]
    unfold sd
    rw [q]
theorem mx_kd {B : Hs} {kv : List (Int × Int)} : mxd_ (.int (-1)) B (some (.dic false false (kd kv))) = .ok (.int (mxp kv)) B := by
  unfold mxp
  by_cases q : kv = []
  · subst q
    exact z8w
  · rw [if_neg q]
    exact z9c keys_kd (by simpa using q)
theorem sds_len : ∀ {l : List Int} {kv : List (Int × Int)} {p : Int}, (sds kv p l).length ≤ kv.length + l.length
  | [], kv, p => by rw [sds]; simp
  | b :: l, kv, p => by
    rw [sds]
    have h := sds_len (l := l) (kv := sd kv p b) (p := p + 1)
    have : (sd kv p b).length ≤ kv.length + 1 := by
      unfold sd
      split <;> simp
    rw [List.length_cons]
    omega
noncomputable def hoL : S := (sFor (wOf wkEA (eFld ["Packet"] "data" (eVar 1))) (gT [(gN 2), (gN 3)]) (sDrop (eDSetd (eFld ["Heap"] "by_places" (eVar 0)) (eOp oAdd (eFld ["Packet"] "first" (eVar 1)) (eVar 2)) (eVar 3))))
noncomputable def hoE : S := (sSeq (sIf (tNo (tOf (eFld ["Packet"] "more" (eVar 1)))) (sSeq (sSet 4 (eOp oAdd (eFld ["Packet"] "first" (eVar 1)) (eCB (c1 oLen) (aCons (eFld ["Packet"] "data" (eVar 1)) aNil)))) (sSeq (sIf (tAn (tOf (eOp oIsNot (eFld ["Heap"] "end_place" (eVar 0)) (eC .non))) (tOf (eOp oNe (eFld ["Heap"] "end_place" (eVar 0)) (eVar 4)))) (sRet (eC (.bl false))) sNx) (sFl ["Heap"] "end_place" (eVar 0) (eVar 4)))) sNx) (sRet (eOr (eOp oIs (eFld ["Heap"] "end_place" (eVar 0)) (eC .non)) (eOp oLt (eCK oMaxKDf (eFld ["Heap"] "by_places" (eVar 0)) (eUn oNeg (eC (.int 1)))) (eFld ["Heap"] "end_place" (eVar 0))))))
theorem ho_eq : F_Heap_hold = mkFn 2 5 (sSeq (sFl ["Heap"] "least_life" (eVar 0) (eCB (c2 oMin2) (aCons (eFld ["Heap"] "least_life" (eVar 0)) (aCons (eFld ["Packet"] "life" (eVar 1)) aNil)))) (sSeq hoL hoE)) := rfl
theorem hoL_ok {A : Hs} {x b q : Nat} {h : Jh} {p : Pq} {o4 : Option D} (k : IsH A x b h) (hp : p.Ok) (hkv : Kv h.kv) (hq : A[q]? = some (.obj "Packet" p.fs)) (K : S) (P : D → Hs → Prop)
    (hk : ∀ B o2 o3, IsH B x b { h with kv := sds h.kv p.f p.d } → B[q]? = some (.obj "Packet" p.fs) → Fr [x, b] A B → Rk (finR (K [some (.ref x), some (.ref q), o2, o3, none] B)) P) :
    Rk (finR (seqR (hoL [some (.ref x), some (.ref q), none, none, none] A) K)) P := by
  have hL : (p.d.length : Int) ≤ 1000 := by have := hp.dl; have := hp.f; omega
  have hq' : A[q]? = some (.obj "Packet" [("source", .int p.s), ("target", .int p.t), ("kind", .int p.k), ("life", .int p.l), ("name", .int p.n), ("first", .int p.f), ("more", .bl p.m), ("data", .tup (p.d.map D.int))]) := hq
  have nqb : b ≠ q := by rintro rfl; have := k.d; rw [hq] at this; cases this
  have hkl := hkv.len
  unfold hoL
  simp_arith [hq']
  refine for_go (R := fun rs => Rk (finR (seqR rs K)) P) (fun j e B => ∃ o2 o3, e = [some (.ref x), some (.ref q), o2, o3, none] ∧ IsH B x b { h with kv := sds h.kv p.f (p.d.take j) } ∧ B[q]? = some (.obj "Packet" p.fs) ∧ Fr [x, b] A B) ⟨none, none, rfl, by rw [List.take_zero]; exact k, hq, .refl⟩ (fun _ _ _ _ _ => trivial) ?_ ?_
  · rintro j _ B d hd ⟨o2, o3, rfl, kB, hB, fB⟩
    obtain ⟨y, hy, rfl⟩ := enumL_get hd
    rw [List.getElem?_map] at hy
    obtain ⟨z, hz, rfl⟩ := Option.map_eq_some_iff.mp hy
    have hj := lt_of_get hz
    have o1 := kB.o
    have o2' := kB.d
    unfold Jh.fs at o1
    have hB' : B[q]? = some (.obj "Packet" [("source", .int p.s), ("target", .int p.t), ("kind", .int p.k), ("life", .int p.l), ("name", .int p.n), ("first", .int p.f), ("more", .bl p.m), ("data", .tup (p.d.map D.int))]) := hB
    have hs1 := sds_len (l := p.d.take j) (kv := h.kv) (p := p.f)
    rw [List.length_take] at hs1
    obtain ⟨v, ev⟩ := setd_kd (p := p.f + (j : Int)) (y := z) o2' (by
      have kk : Kv (sds h.kv p.f (p.d.take j)) := hkv.sds hp.f.1 (by rw [List.length_take]; have := hp.dl; omega) fun w hw => hp.b w (List.mem_of_mem_take hw)
      exact kk.len)
    show Got _ _
    simp_arith [o1, o2', hB', ev]
    refine ⟨_, _, rfl, ⟨?_, ?_⟩, ?_, fB.then_set (.inl (by simp))⟩
    · rw [z33 (kB.ne.symm)]; exact kB.o
    · rw [zb7 (lt_of_get o2'), List.take_succ, hz, Option.toList_some, sds_snoc, List.length_take, Nat.min_eq_left (by omega)]
    · first | rfl | (rw [z33 nqb]; exact hB)
  · rintro _ B ⟨o2, o3, rfl, kB, hB, fB⟩
    rw [enumL_len, List.length_map, List.take_length] at kB
    exact hk B o2 o3 kB hB fB
theorem hold_ok {A : Hs} {x b q : Nat} {h : Jh} {p : Pq} (k : IsH A x b h) (hh : h.Ok) (hp : p.Ok) (hq : A[q]? = some (.obj "Packet" p.fs)) : Rk (F_Heap_hold [.ref x, .ref q] A) fun v A1 => v = .bl (h.hold p).2 ∧ IsH A1 x b (h.hold p).1 ∧ Fr [x, b] A A1 := by
  have hq' : A[q]? = some (.obj "Packet" [("source", .int p.s), ("target", .int p.t), ("kind", .int p.k), ("life", .int p.l), ("name", .int p.n), ("first", .int p.f), ("more", .bl p.m), ("data", .tup (p.d.map D.int))]) := hq
  have o1 := k.o
  have nx := lt_of_get o1
  have nqx : x ≠ q := ne_obj o1 hq (by decide)
  have o1' := o1
  unfold Jh.fs at o1'
  rw [ho_eq]
  simp_arith [o1', hq']
  obtain ⟨h1, hh1⟩ : ∃ h1 : Jh, h1 = { h with life := min h.life p.l } := ⟨_, rfl⟩
  have k1 : IsH (A.set x (.obj "Heap" [("since", .int h.since), ("least_life", .int (min h.life p.l)), ("end_place", oI h.en), ("by_places", .ref b)])) x b h1 := by
    rw [hh1]
    exact ⟨zb7 nx, by rw [z33 k.ne]; exact k.d⟩
  have hq1 : (A.set x (.obj "Heap" [("since", .int h.since), ("least_life", .int (min h.life p.l)), ("end_place", oI h.en), ("by_places", .ref b)]))[q]? = some (.obj "Packet" p.fs) := by rw [z33 nqx]; exact hq
  refine hoL_ok (o4 := none) k1 hp (by rw [hh1]; exact hh.kv) hq1 hoE _ fun B o2 o3 kB hB fB => ?_
  have fA : Fr [x, b] A B := (Fr.set (by simp)).trans fB
  have oB := kB.o
  have dB := kB.d
  have nB := lt_of_get oB
  unfold Jh.fs at oB
  have hB' : B[q]? = some (.obj "Packet" [("source", .int p.s), ("target", .int p.t), ("kind", .int p.k), ("life", .int p.l), ("name", .int p.n), ("first", .int p.f), ("more", .bl p.m), ("data", .tup (p.d.map D.int))]) := hB
  have em := mx_kd (B := B) (kv := sds h1.kv p.f p.d)
  have hkv1 : h1.kv = h.kv := by rw [hh1]
  have hen1 : h1.en = h.en := by rw [hh1]
  have hsi1 : h1.since = h.since := by rw [hh1]
  have hli1 : h1.life = min h.life p.l := by rw [hh1]
  rw [hkv1] at em dB
  simp only [hkv1, hen1, hsi1, hli1] at oB dB kB
  have dB : B[b]? = some (.dic false false (kd (sds h.kv p.f p.d))) := dB
  unfold hoE
  unfold Jh.hold
  cases hm : p.m with
  | true =>
    rw [hm] at hB'
    cases he : h.en with
    | none =>
      rw [he] at oB
      unfold oI at oB
      simp_arith [hB', oB]
      refine ⟨rfl, ⟨?_, dB⟩, fA⟩
      unfold Jh.fs oI
      exact oB
    | some e =>
      rw [he] at oB
      unfold oI at oB
      simp_arith [hB', oB, dB, em]
      refine ⟨rfl, ⟨?_, dB⟩, fA⟩
      unfold Jh.fs oI
      exact oB
  | false =>
    rw [hm] at hB'
    have nbx : x ≠ b := k.ne
    have em2 : ∀ o, mxd_ (.int (-1)) (B.set x o) (some (.dic false false (kd (sds h.kv p.f p.d)))) = .ok (.int (mxp (sds h.kv p.f p.d))) (B.set x o) := fun o => mx_kd
    have dB2 : ∀ o, (B.set x o)[b]? = some (.dic false false (kd (sds h.kv p.f p.d))) := fun o => by rw [z33 nbx]; exact dB
    have fS : ∀ o, Fr [x, b] A (B.set x o) := fun o => fA.then_set (.inl (by simp))
    cases he : h.en with
    | none =>
      rw [he] at oB
      unfold oI at oB
      simp_arith [hB', oB, dB2, em2]
      refine ⟨rfl, ⟨?_, dB2 _⟩, fS _⟩
      unfold Jh.fs oI
      exact zb7 nB
    | some e =>
      rw [he] at oB
      unfold oI at oB
      by_cases q : e = p.f + (p.d.length : Int)
      · subst q
        simp_arith [hB', oB, dB2, em2]
        refine ⟨rfl, ⟨?_, dB2 _⟩, fS _⟩
        unfold Jh.fs oI
        exact zb7 nB
      · simp_arith [hB', oB, q]
        refine ⟨⟨?_, dB⟩, fA⟩
        unfold Jh.fs oI
        exact oB
theorem there_ok {A : Hs} {x b : Nat} {h : Jh} (k : IsH A x b h) : F_Heap_is_there [.ref x] A = .ok (.bl h.there) A := by
  have o1 := k.o
  have d1 := k.d
  unfold Jh.fs at o1
  unfold F_Heap_is_there
  cases he : h.en with
  | none =>
    rw [he] at o1
    unfold oI at o1
    unfold Jh.there
    rw [he]
    simp_arith [o1]
  | some e =>
    rw [he] at o1
    unfold oI at o1
    unfold Jh.there
    rw [he]
    simp_arith [o1, d1, len_kd]
theorem hmade_ok {A : Hs} {x b : Nat} {h : Jh} {f : Four} {e : Int} (k : IsH A x b h) (hh : h.Ok) (hf : Four.Ok f) (he : h.en = some e) (hb : mxp h.kv < e) (hl : (h.kv.length : Int) = e) : Rk (F_Heap_packet_made [.ref x, fD f] A) fun v A1 => ∃ r, v = .ref r ∧ A1[r]? = some (.obj "Packet" (h.made f).fs) ∧ A.length ≤ r ∧ Fr [] A A1 := by
  have o1 := k.o
  have d1 := k.d
  have hkl := hh.kv.len
  obtain ⟨n, rfl⟩ : ∃ n : Nat, e = (n : Int) := ⟨e.toNat, by omega⟩
  have full := full_ hh.kv hb hl
  rw [Int.toNat_natCast] at full
  have hem : (h.made f).d = dataK h.kv n := by
    show dataK h.kv (h.en.getD 0).toNat = _
    rw [he]; rfl
  unfold Jh.fs at o1
  rw [he] at o1
  unfold oI at o1
  have key : lcL (SM.gN 3) tYe (eOp oDGet (eFld ["Heap"] "by_places" (eVar 0)) (eVar 3)) tt [some (.ref x), some (fD f), none, none] (rgL 0 1 n) [] A = .ok ((dataK h.kv n).map D.int) A := by
    rw [lc_go (fun _ => true) (fun d => match d with | .int i => .int ((h.kv.lookup i).getD 0) | d => d) trivial (by rw [rgL_len]; omega)]
    rotate_left
    · intro d hd
      obtain ⟨j, hj, rfl⟩ := mem_rgL hd
      have e0 : (0 : Int) + (j : Int) * 1 = (j : Int) := by omega
      rw [e0]
      obtain ⟨y, hy, _⟩ := full j hj
      have eg : kget (kd h.kv) (.int (j : Int)) = some (.int y) := by rw [kget_kd, hy]; rfl
      show Got _ _
      simp_arith [o1, d1, eg, hy]
      first | exact fun _ => rfl | exact fun _ => trivial | trivial | simp
    rw [List.filter_eq_self.mpr (by simp)]
    unfold rgL dataK
    rw [List.map_map, List.map_map]
    congr 1
    refine List.map_congr_left fun i hi => ?_
    have e0 : (0 : Int) + (i : Int) * 1 = (i : Int) := by omega
    simp only [Function.comp, e0]
  obtain ⟨_, A1, e1, rfl, g1, f1⟩ := (packet_ok (A := A ++ [.lst ((dataK h.kv n).map D.int)]) (made_ok hh hf he hb hl)).ex
  have ea : (h.made f).args = [.int f.1, .int f.2.1, .int f.2.2.1, .int h.life, .int f.2.2.2, .int 0, .bl false, .tup ((dataK h.kv n).map D.int)] := by
    unfold Pq.args rw_
    rw [hem]
    rfl
  rw [ea] at e1
  have o1' : (A ++ [.lst ((dataK h.kv n).map D.int)])[x]? = some (.obj "Heap" [("since", .int h.since), ("least_life", .int h.life), ("end_place", .int (n : Int)), ("by_places", .ref b)]) := get_push o1
  unfold F_Heap_packet_made fD
  unfold fD at key
  simp_arith [o1, Int.toNat_natCast, key, o1', e1]
  rw [List.length_append, List.length_singleton] at g1
  exact ⟨_, rfl, g1, by omega, Fr.push.trans f1⟩

/-! joiners -/
open DL (Bytes)
structure Jn where
  pat : Int
  room : Int
  last : Int
  hs : List (Four × Jh)
structure Je where
  f : Four
  h : Jh
  x : Nat
  b : Nat
def jfs (pat room last : Int) (d : Nat) : List (String × D) := [("patience", .int pat), ("most_held", .int room), ("last_tick", .int last), ("heaps", .ref d)]
def jt (es : List Je) : List (D × D) := kvG fD (es.map fun z => (z.f, .ref z.x))
structure IsJ (A : Hs) (j d : Nat) (J : Jn) (es : List Je) (S : List Nat) : Prop where
  o : A[j]? = some (.obj "Joiner" (jfs J.pat J.room J.last d))
  t : A[d]? = some (.dic true false (jt es))
  e : ∀ z ∈ es, IsH A z.x z.b z.h
  p : es.map (fun z => (z.f, z.h)) = J.hs
  nk : (es.map Je.f).Nodup
  nx : (es.map Je.x).Nodup
  nb : (es.map Je.b).Nodup
  sj : j ∈ S
  sd : d ∈ S
  se : ∀ z ∈ es, z.x ∈ S ∧ z.b ∈ S
  lt : ∀ k ∈ S, k < A.length
  ok : ∀ z ∈ es, z.h.Ok
theorem IsJ.ne {A : Hs} {j d : Nat} {J : Jn} {es : List Je} {S : List Nat} (k : IsJ A j d J es S) : j ≠ d := by
  rintro rfl
  have := k.o
  rw [k.t] at this
  cases this
theorem IsJ.frame {A B : Hs} {j d : Nat} {J : Jn} {es : List Je} {S s : List Nat} (k : IsJ A j d J es S) (f : Fr s A B) (hs : ∀ i ∈ S, i ∉ s) : IsJ B j d J es S :=
  ⟨f.get k.o (hs j k.sj), f.get k.t (hs d k.sd), fun z hz => (k.e z hz).frame f (hs _ (k.se z hz).1) (hs _ (k.se z hz).2), k.p, k.nk, k.nx, k.nb, k.sj, k.sd, k.se, fun i hi => Nat.lt_of_lt_of_le (k.lt i hi) f.le, k.ok⟩
theorem mem_uniq {α β : Type} {f : α → β} : ∀ {l : List α}, (l.map f).Nodup → ∀ {a b : α}, a ∈ l → b ∈ l → f a = f b → a = b
  | [], _, a, b, h, _, _ => by cases h
  | c :: l, hn, a, b, ha, hb, e => by
    rw [List.map_cons, List.nodup_cons] at hn
    rcases List.mem_cons.mp ha with ea | ha2
    · rcases List.mem_cons.mp hb with eb | hb2
      · rw [ea, eb]
      · exact absurd (List.mem_map.mpr ⟨b, hb2, by rw [← e, ea]⟩) hn.1
    · rcases List.mem_cons.mp hb with eb | hb2
      · exact absurd (List.mem_map.mpr ⟨a, ha2, by rw [e, eb]⟩) hn.1
      · exact mem_uniq hn.2 ha2 hb2 e
theorem look_mem {κ β : Type} [BEq κ] [LawfulBEq κ] : ∀ {L : List (κ × β)} {k : κ} {v : β}, (L.map Prod.fst).Nodup → (k, v) ∈ L → L.lookup k = some v
  | [], _, _, _, h => by cases h
  | (a, w) :: L, k, v, hn, h => by
    rw [List.map_cons, List.nodup_cons] at hn
    rw [List.lookup_cons]
    rcases List.mem_cons.mp h with e | h2
    · cases e; simp
    · have : (k == a) = false := by
        rw [beq_eq_false_iff_ne]
        intro z
        exact hn.1 (List.mem_map.mpr ⟨_, h2, z⟩)
      rw [this]
      exact look_mem hn.2 h2
theorem look_not {κ β : Type} [BEq κ] [LawfulBEq κ] : ∀ {L : List (κ × β)} {k : κ}, k ∉ L.map Prod.fst → L.lookup k = none
  | [], _, _ => rfl
  | (a, w) :: L, k, h => by
    rw [List.map_cons, List.mem_cons, not_or] at h
    have : (k == a) = false := by rw [beq_eq_false_iff_ne]; exact h.1
    rw [List.lookup_cons, this]
    exact look_not h.2
theorem jt_get {es : List Je} {z : Je} (hn : (es.map Je.f).Nodup) (hz : z ∈ es) : kget (jt es) (fD z.f) = some (.ref z.x) := by
  unfold jt
  rw [kget_kvG fD_keq]
  exact look_mem (by rw [List.map_map]; exact hn) (List.mem_map.mpr ⟨z, hz, rfl⟩)
theorem jt_not {es : List Je} {f : Four} (h : f ∉ es.map Je.f) : kget (jt es) (fD f) = none := by
  unfold jt
  rw [kget_kvG fD_keq]
  exact look_not (by rw [List.map_map]; exact h)
theorem jt_put {es : List Je} {z : Je} (h : z.f ∉ es.map Je.f) : kput (jt es) (fD z.f) (.ref z.x) = jt (es ++ [z]) := by
  unfold jt
  rw [kput_kvG fD_keq (look_not (by rw [List.map_map]; exact h)), List.map_append]
  rfl
theorem jt_del {es : List Je} {f : Four} : kdel (jt es) (fD f) = jt (es.filter fun z => decide (z.f ≠ f)) := by
  unfold jt
  rw [kdel_kvG fD_keq, List.filter_map]
  rfl
theorem jt_keys {es : List Je} : (jt es).map Prod.fst = es.map fun z => fD z.f := by
  unfold jt kvG
  rw [List.map_map, List.map_map]
  rfl
theorem jt_vals {es : List Je} : (jt es).map Prod.snd = es.map fun z => D.ref z.x := by
  unfold jt kvG
  rw [List.map_map, List.map_map]
  rfl
theorem jt_len {es : List Je} : (jt es).length = es.length := by unfold jt; rw [len_kvG, List.length_map]
/-- fewer heaps -/
theorem IsJ.sub {A : Hs} {j d : Nat} {J : Jn} {es es2 : List Je} {S : List Nat} (k : IsJ A j d J es S) (h : es2.Sublist es) : IsJ (A.set d (.dic true false (jt es2))) j d { J with hs := es2.map fun z => (z.f, z.h) } es2 S := by
  have hd := lt_of_get k.t
  refine ⟨by rw [z33 k.ne.symm]; exact k.o, zb7 hd, fun z hz => ?_, rfl, (h.map _).nodup k.nk, (h.map _).nodup k.nx, (h.map _).nodup k.nb, k.sj, k.sd, fun z hz => k.se z (h.subset hz), fun i hi => by rw [List.length_set]; exact k.lt i hi, fun z hz => k.ok z (h.subset hz)⟩
  have q := k.e z (h.subset hz)
  have n1 : d ≠ z.x := by rintro rfl; have := k.t; rw [q.o] at this; cases this
  have n2 : d ≠ z.b := by
    rintro rfl
    have := k.t
    rw [q.d] at this
    cases this
  exact ⟨by rw [z33 n1]; exact q.o, by rw [z33 n2]; exact q.d⟩
theorem joiner_ok {A : Hs} {pat room : Int} (h1 : 1 ≤ pat) (h2 : 1 ≤ room) : Rk (make "Joiner" F_Joiner___init__ [.int pat, .int room] A) fun v A1 => v = .ref A.length ∧ IsJ A1 A.length (A.length + 1) ⟨pat, room, 0, []⟩ [] [A.length, A.length + 1] ∧ Fr [] A A1 := by
  have n1 : ¬ pat < 1 := by omega
  have n2 : ¬ room < 1 := by omega
  have e1 : ∀ B, F_need_many [.int pat] B = .ok .non B := fun B => by unfold F_need_many; simp_arith [n1]
  have e2 : ∀ B, F_need_many [.int room] B = .ok .non B := fun B => by unfold F_need_many; simp_arith [n2]
  refine Rk.make ?_
  unfold F_Joiner___init__
  simp_arith [e1, e2]
  refine ⟨⟨?_, ?_, fun z hz => (by cases hz), rfl, .nil, .nil, .nil, List.mem_cons_self, List.mem_cons_of_mem _ List.mem_cons_self, fun z hz => (by cases hz), fun k hk => ?_, fun z hz => (by cases hz)⟩, by walk_at "fr!"⟩
  · first | rfl | (simp_arith []; rfl)
  · first | (refine getpp ?_; simp; done) | (rw [z33 (by omega)]; refine getpp ?_; simp)
  · simp only [List.mem_cons, List.not_mem_nil, or_false] at hk
    simp only [List.length_set, List.length_append, List.length_cons, List.length_nil]
    omega
/-- what is too old goes -/
theorem old_step {es : List Je} {i : Nat} {z : Je} {keep : Je → Bool} (hn : (es.map Je.f).Nodup) (hz : es[i]? = some z) :
    ((es.take i).filter keep ++ es.drop i).filter (fun w => decide (w.f ≠ z.f)) = (es.take i).filter keep ++ es.drop (i + 1) := by
  have hi := lt_of_get hz
  have ez : es.drop i = z :: es.drop (i + 1) := by
    rw [List.drop_eq_getElem_cons hi]
    congr 1
    rw [List.getElem?_eq_getElem hi] at hz
    exact Option.some.inj hz
  have e : es = es.take i ++ z :: es.drop (i + 1) := by rw [← ez, List.take_append_drop]
  have hn2 : (es.take i ++ z :: es.drop (i + 1)).map Je.f |>.Nodup := by rw [← e]; exact hn
  rw [List.map_append, List.map_cons, List.nodup_append] at hn2
  obtain ⟨_, hn3, hn4⟩ := hn2
  rw [List.nodup_cons] at hn3
  rw [ez, List.filter_append, List.filter_cons_of_neg (by simp)]
  congr 1
  · rw [List.filter_eq_self]
    intro w hw
    have hw := (List.mem_filter.mp hw).1
    simp only [decide_eq_true_eq]
    exact hn4 _ (List.mem_map.mpr ⟨w, hw, rfl⟩) _ List.mem_cons_self
  · rw [List.filter_eq_self]
    intro w hw
    simp only [decide_eq_true_eq]
    intro h
    exact hn3.1 (List.mem_map.mpr ⟨w, hw, h⟩)
theorem old_ok {A : Hs} {j d : Nat} {J : Jn} {es : List Je} {S : List Nat} {tick : Int} (k : IsJ A j d J es S) (hl : es.length ≤ 100000) : Rk (F_Joiner_let_old_go [.ref j, .int tick] A) fun v A1 => v = .non ∧ ∃ es2, IsJ A1 j d { J with hs := old J.pat tick J.hs } es2 S ∧ es2.length ≤ es.length ∧ Fr [d] A A1 := by
  have o1 := k.o
  have t1 := k.t
  unfold jfs at o1
  have hlen : ((jt es).map Prod.fst).length ≤ 16000000 := by rw [List.length_map, jt_len]; omega
  unfold F_Joiner_let_old_go
  simp_arith [o1, t1]
  have hd := lt_of_get t1
  rw [jt_keys]
  obtain ⟨L, hL⟩ : ∃ L, L = A.length := ⟨_, rfl⟩
  rw [← hL]
  refine for_go (R := fun rs => Rk (finR rs) _) (fun i e B => ∃ o2, e = [some (.ref j), some (.int tick), o2] ∧ IsJ B j d { J with hs := ((es.take i).filter (fun z => decide (tick - z.h.since < J.pat)) ++ es.drop i).map fun z => (z.f, z.h) } ((es.take i).filter (fun z => decide (tick - z.h.since < J.pat)) ++ es.drop i) S ∧ B[L]? = some (.lst (es.map fun z => fD z.f)) ∧ Fr [d] A B)
    ⟨none, rfl, ?_, by rw [hL]; exact zah, .push⟩ (fun i e B _ h => ?_) ?_ ?_
  · rw [List.take_zero, List.filter_nil, List.nil_append, List.drop_zero, k.p]
    exact k.frame (s := []) .push (by simp)
  · obtain ⟨_, _, _, h, _⟩ := h
    exact h
  · rintro i _ B y hy ⟨o2, rfl, kB, hB, fB⟩
    rw [List.getElem?_map] at hy
    obtain ⟨z, hz, rfl⟩ := Option.map_eq_some_iff.mp hy
    have hi := lt_of_get hz
    have ez : es.drop i = z :: es.drop (i + 1) := by
      rw [List.drop_eq_getElem_cons hi]
      congr 1
      rw [List.getElem?_eq_getElem hi] at hz
      exact Option.some.inj hz
    have hzm : z ∈ (es.take i).filter (fun z => decide (tick - z.h.since < J.pat)) ++ es.drop i := List.mem_append_right _ (by rw [ez]; exact List.mem_cons_self)
    have hst := old_step (keep := fun z => decide (tick - z.h.since < J.pat)) k.nk hz
    have oB := kB.o
    have tB := kB.t
    have zB := (kB.e z hzm).o
    have gB := jt_get kB.nk hzm
    unfold jfs at oB
    unfold Jh.fs at zB
    have nL : d ≠ L := by omega
    have etk : es.take (i + 1) = es.take i ++ [z] := by rw [List.take_succ, hz]; rfl
    show Got _ _
    by_cases q : J.pat ≤ tick - z.h.since
    · have ekeep : (es.take (i + 1)).filter (fun z => decide (tick - z.h.since < J.pat)) = (es.take i).filter (fun z => decide (tick - z.h.since < J.pat)) := by
        rw [etk, List.filter_append, List.filter_cons_of_neg (by simp; omega), List.filter_nil, List.append_nil]
      have pB := z97 (A := B) (i := d) fD_ok gB
      rw [jt_del, hst] at pB
      simp_arith [oB, tB, gB, zB, q, fD_ok, pB]
      refine ⟨_, rfl, ?_, ?_, fB.then_set (.inl (by simp))⟩
      · rw [ekeep, ← hst]
        exact kB.sub (List.filter_sublist)
      · first | exact hB | (rw [z33 nL]; exact hB)
    · have ekeep : (es.take (i + 1)).filter (fun z => decide (tick - z.h.since < J.pat)) = (es.take i).filter (fun z => decide (tick - z.h.since < J.pat)) ++ [z] := by
        rw [etk, List.filter_append, List.filter_cons_of_pos (by simp; omega), List.filter_nil]
      simp_arith [oB, tB, gB, zB, q, fD_ok]
      refine ⟨_, rfl, ?_, hB, fB⟩
      rw [ekeep, List.append_assoc, List.singleton_append, ← ez]
      exact kB
  · rintro _ B ⟨o2, rfl, kB, hB, fB⟩
    rw [List.length_map, List.take_length, List.drop_length, List.append_nil] at kB
    simp_arith []
    refine ⟨es.filter fun z => decide (tick - z.h.since < J.pat), ?_, List.length_filter_le _ _, fB⟩
    have e : old J.pat tick J.hs = (es.filter fun z => decide (tick - z.h.since < J.pat)).map fun z => (z.f, z.h) := by
      unfold old
      rw [← k.p, List.filter_map]
      rfl
    rw [e]
    exact kB

/-! a joiner's take -/
open DL (Bytes)
/-- how many bytes are held -/
theorem held_ok {B : Hs} {j d : Nat} {J : Jn} {es : List Je} {S : List Nat} (k : IsJ B j d J es S) (hl : es.length ≤ 100000) :
    lcL (SM.gN 1) tYe (eCB (c1 oLen) (aCons (eFld ["Heap"] "by_places" (eVar 1)) aNil)) (fun A' => A'[d]? = some (.dic true true (jt es))) [some (.ref j), none, none] (es.map fun z => D.ref z.x) [] (B.set d (.dic true true (jt es))) = .ok (es.map fun z => D.int (z.h.kv.length : Int)) (B.set d (.dic true true (jt es))) := by
  have hd := lt_of_get k.t
  suffices H : Rk (lcL (SM.gN 1) tYe (eCB (c1 oLen) (aCons (eFld ["Heap"] "by_places" (eVar 1)) aNil)) (fun A' => A'[d]? = some (.dic true true (jt es))) [some (.ref j), none, none] (es.map fun z => D.ref z.x) [] (B.set d (.dic true true (jt es)))) fun l A1 => l = es.map (fun z => D.int (z.h.kv.length : Int)) ∧ A1 = B.set d (.dic true true (jt es)) by
    obtain ⟨_, _, e, rfl, rfl⟩ := H.ex
    exact e
  refine (lc_run (gd := fun A' => A'[d]? = some (.dic true true (jt es))) (fun i acc E => acc = (es.take i).map (fun z => D.int (z.h.kv.length : Int)) ∧ E = B.set d (.dic true true (jt es))) (ds := es.map fun z => D.ref z.x) ⟨by simp, rfl⟩ (by rw [List.length_map]; omega) (fun i l A h => by obtain ⟨_, rfl⟩ := h; exact zb7 hd) ?_).mono ?_
  · intro i y hy acc E hP
    obtain ⟨rfl, rfl⟩ := hP
    rw [List.getElem?_map] at hy
    obtain ⟨z, hz, rfl⟩ := Option.map_eq_some_iff.mp hy
    have hzm := List.mem_of_getElem? hz
    have q := k.e z hzm
    have n1 : d ≠ z.x := by rintro rfl; have := k.t; rw [q.o] at this; cases this
    have n2 : d ≠ z.b := by rintro rfl; have := k.t; rw [q.d] at this; cases this
    have o1 : (B.set d (.dic true true (jt es)))[z.x]? = some (.obj "Heap" (z.h.fs z.b)) := by rw [z33 n1]; exact q.o
    have o2 : (B.set d (.dic true true (jt es)))[z.b]? = some (.dic false false (kd z.h.kv)) := by rw [z33 n2]; exact q.d
    unfold Jh.fs at o1
    show Got _ _
    simp_arith [o1, o2, len_kd]
    rw [List.take_succ, hz, Option.toList_some, List.map_append]
    rfl
  · rintro l E ⟨h1, h2⟩
    rw [List.length_map, List.take_length] at h1
    exact ⟨h1, h2⟩
theorem held_sum {hs : List (Four × Jh)} {es : List Je} (h : es.map (fun z => (z.f, z.h)) = hs) : (es.map fun z => (z.h.kv.length : Int)).sum = held hs := by
  unfold held
  rw [← h, List.map_map]
  rfl
/-- a heap put in for another of the same packet -/
theorem IsJ.upd {A B : Hs} {j d : Nat} {J : Jn} {es : List Je} {S : List Nat} {z : Je} {h' : Jh} (k : IsJ A j d J es S) (hz : z ∈ es) (f : Fr [z.x, z.b] A B) (hB : IsH B z.x z.b h') (hk : h'.Ok) :
    IsJ B j d { J with hs := (es.map fun w => if w.f = z.f then { w with h := h' } else w).map fun w => (w.f, w.h) } (es.map fun w => if w.f = z.f then { w with h := h' } else w) S := by
  have q := k.e z hz
  have nj1 : j ≠ z.x := ne_obj k.o q.o (by decide)
  have nj2 : j ≠ z.b := by rintro rfl; have := k.o; rw [q.d] at this; cases this
  have nd1 : d ≠ z.x := by rintro rfl; have := k.t; rw [q.o] at this; cases this
  have nd2 : d ≠ z.b := by rintro rfl; have := k.t; rw [q.d] at this; cases this
  have ef : ∀ w : Je, (if w.f = z.f then { w with h := h' } else w).f = w.f := fun w => by split <;> rfl
  have ex : ∀ w : Je, (if w.f = z.f then { w with h := h' } else w).x = w.x := fun w => by split <;> rfl
  have eb : ∀ w : Je, (if w.f = z.f then { w with h := h' } else w).b = w.b := fun w => by split <;> rfl
  have mf : (es.map fun w => if w.f = z.f then { w with h := h' } else w).map Je.f = es.map Je.f := by
    rw [List.map_map]; exact List.map_congr_left fun w _ => ef w
  have mx : (es.map fun w => if w.f = z.f then { w with h := h' } else w).map Je.x = es.map Je.x := by
    rw [List.map_map]; exact List.map_congr_left fun w _ => ex w
  have mb : (es.map fun w => if w.f = z.f then { w with h := h' } else w).map Je.b = es.map Je.b := by
    rw [List.map_map]; exact List.map_congr_left fun w _ => eb w
  have mt : jt (es.map fun w => if w.f = z.f then { w with h := h' } else w) = jt es := by
    unfold jt
    rw [List.map_map]
    congr 1
    refine List.map_congr_left fun w _ => ?_
    simp only [Function.comp, ef, ex]
  refine ⟨f.get k.o (by simp [nj1, nj2]), by rw [mt]; exact f.get k.t (by simp [nd1, nd2]), fun w hw => ?_, rfl, by rw [mf]; exact k.nk, by rw [mx]; exact k.nx, by rw [mb]; exact k.nb, k.sj, k.sd, fun w hw => ?_, fun i hi => Nat.lt_of_lt_of_le (k.lt i hi) f.le, fun w hw => ?_⟩
  · obtain ⟨v, hv, rfl⟩ := List.mem_map.mp hw
    by_cases c : v.f = z.f
    · have := mem_uniq k.nk hv hz c
      subst this
      rw [if_pos rfl]
      exact hB
    · rw [if_neg c]
      have qv := k.e v hv
      have n1 : v.x ≠ z.x := fun e => c (by rw [mem_uniq k.nx hv hz e])
      have n2 : v.b ≠ z.b := fun e => c (by rw [mem_uniq k.nb hv hz e])
      have n3 : v.x ≠ z.b := by
        intro e
        have h1 := qv.o
        rw [e, q.d] at h1
        cases h1
      have n4 : v.b ≠ z.x := by
        intro e
        have h1 := qv.d
        rw [e, q.o] at h1
        cases h1
      exact qv.frame f (by simp [n1, n3]) (by simp [n2, n4])
  · obtain ⟨v, hv, rfl⟩ := List.mem_map.mp hw
    rw [ex, eb]
    exact k.se v hv
  · obtain ⟨v, hv, rfl⟩ := List.mem_map.mp hw
    split
    · exact hk
    · exact k.ok v hv

/-! a piece taken -/
open DL (Bytes)
theorem hold_in {h : Jh} {p : Pq} (k : (h.hold p).2 = true) : inB (h.hold p).1.en (h.hold p).1.kv = true := by
  unfold Jh.hold at k ⊢
  cases hm : p.m with
  | true => simp only [hm, if_true] at k ⊢; exact k
  | false =>
    simp only [hm, Bool.false_eq_true, if_false] at k ⊢
    cases he : h.en with
    | none => simp only [he] at k ⊢; exact k
    | some e =>
      simp only [he] at k ⊢
      split at k
      · cases k
      · rename_i q
        rw [if_neg q]; exact k
theorem wo_es {es : List Je} {f : Four} : (es.filter fun z => decide (z.f ≠ f)).map (fun z => (z.f, z.h)) = wo (es.map fun z => (z.f, z.h)) f := by
  unfold wo
  rw [List.filter_map]
  rfl
theorem wi_es {es : List Je} {f : Four} {h : Jh} : (es.map fun w => if w.f = f then { w with h := h } else w).map (fun z => (z.f, z.h)) = wi (es.map fun z => (z.f, z.h)) f h := by
  unfold wi
  rw [List.map_map, List.map_map]
  refine List.map_congr_left fun w _ => ?_
  simp only [Function.comp]
  split <;> rfl
theorem wo_wi {f : Four} {h : Jh} : ∀ {hs : List (Four × Jh)}, wo (wi hs f h) f = wo hs f
  | [] => rfl
  | z :: hs => by
    have ih := wo_wi (f := f) (h := h) (hs := hs)
    unfold wo wi at ih ⊢
    rw [List.map_cons]
    by_cases c : z.1 = f
    · rw [if_pos c, List.filter_cons_of_neg (by simp [c]), List.filter_cons_of_neg (by simp [c]), ih]
    · rw [if_neg c, List.filter_cons_of_pos (by simp [c]), List.filter_cons_of_pos (by simp [c]), ih]
/-- what a take tells -/
def Tol (A A1 : Hs) (v : D) : Option Pq → Prop
  | none => v = .non
  | some p => ∃ r, v = .ref r ∧ A1[r]? = some (.obj "Packet" p.fs) ∧ A.length ≤ r
noncomputable def tkW : S := (sIf (tAn (tOf (eOp oEq (eFld ["Packet"] "first" (eVar 1)) (eC (.int 0)))) (tNo (tOf (eFld ["Packet"] "more" (eVar 1))))) (sRet (eVar 1)) sNx)
noncomputable def tkE : S := (sIf (tOf (eOp oNotIn (eVar 3) (eFld ["Joiner"] "heaps" (eVar 0)))) (sPut (eFld ["Joiner"] "heaps" (eVar 0)) (eVar 3) (eMake "Heap" F_Heap___init__ (aCons (eVar 2) (aCons (eFld ["Packet"] "life" (eVar 1)) aNil)))) sNx)
noncomputable def tkT : S := (sSeq (sSet 4 (eOp oDGet (eFld ["Joiner"] "heaps" (eVar 0)) (eVar 3))) (sSeq (sIf (tNo (tOf (eMeth "hold" [("Heap", F_Heap_hold)] (eVar 4) (aCons (eVar 1) aNil)))) (sSeq (sDrop (eBD (d1_ oDPopT) (eFld ["Joiner"] "heaps" (eVar 0)) (aCons (eVar 3) aNil))) (sRet (eC .non))) sNx) (sSeq (sIf (tOf (eMeth "is_there" [("Heap", F_Heap_is_there)] (eVar 4) aNil)) (sSeq (sDrop (eBD (d1_ oDPopT) (eFld ["Joiner"] "heaps" (eVar 0)) (aCons (eVar 3) aNil))) (sRet (eMeth "packet_made" [("Heap", F_Heap_packet_made)] (eVar 4) (aCons (eVar 3) aNil)))) sNx) (sSeq (sDrop (eMeth "let_first_go" [("Joiner", F_Joiner_let_first_go)] (eVar 0) aNil)) (sRet (eC .non))))))
noncomputable def tkR : S := (sSeq tkW (sSeq (sSet 3 (eTup (aCons (eFld ["Packet"] "source" (eVar 1)) (aCons (eFld ["Packet"] "target" (eVar 1)) (aCons (eFld ["Packet"] "kind" (eVar 1)) (aCons (eFld ["Packet"] "name" (eVar 1)) aNil)))))) (sSeq tkE tkT)))
theorem tk_eq : F_Joiner_take = mkFn 3 5 (sSeq (sIf (tOo (tOf (eCB (c2 (oIsi os_ xs_ tb_)) (aCons (eVar 2) (aCons (eC (.ty "bool")) aNil)))) (tOo (tNo (tOf (eCB (c2 (oIsi os_ xs_ tb_)) (aCons (eVar 2) (aCons (eC (.ty "int")) aNil))))) (tOf (eOp oLt (eVar 2) (eFld ["Joiner"] "last_tick" (eVar 0)))))) (sRaise "NoTick") sNx) (sSeq (sFl ["Joiner"] "last_tick" (eVar 0) (eVar 2)) (sSeq (sDrop (eMeth "let_old_go" [("Joiner", F_Joiner_let_old_go)] (eVar 0) (aCons (eVar 2) aNil))) tkR))) := rfl
/-- what a take does -/
def Jn.hs2 (J : Jn) (p : Pq) (tick : Int) : List (Four × Jh) × Option Pq :=
  tk1 (ens (old J.pat tick J.hs) p tick) p ((hen (old J.pat tick J.hs) p tick).hold p)

/-! the first goes, by the least of (since, packet) -/
open DL (Bytes)
def pyF (f : Four) : PyData := .tuple [.int f.1, .int f.2.1, .int f.2.2.1, .int f.2.2.2]
def py2 (z : Four × Jh) : PyData := .tuple [.int z.2.since, pyF z.1]
def bst (hs : List (Four × Jh)) : Nat := L2.bix false (hs.map py2)
def fgoN : Nat → Int → List (Four × Jh) → List (Four × Jh)
  | 0, _, hs => hs
  | n + 1, room, hs => if room < held hs then (match hs[bst hs]? with
    | some z => fgoN n room (wo hs z.1)
    | none => hs) else hs
def fgo (room : Int) (hs : List (Four × Jh)) : List (Four × Jh) := fgoN hs.length room hs
theorem fgo_small {room : Int} {hs : List (Four × Jh)} (h : held hs ≤ room) : fgo room hs = hs := by
  unfold fgo
  cases hs.length with
  | zero => rfl
  | succ n =>
    unfold fgoN
    rw [if_neg (by omega)]
theorem argBest_le (bt : Nat → Nat → Bool) : ∀ n, argBest bt n ≤ n
  | 0 => Nat.le_refl _
  | n + 1 => by
    unfold argBest
    have := argBest_le bt n
    split <;> omega
theorem bix_lt {ds : List PyData} (h : 0 < ds.length) : L2.bix false ds < ds.length := by
  have := argBest_le (fun i j => if false = true then PySem.W.dataLt (ds.getD j .none) (ds.getD i .none) else PySem.W.dataLt (ds.getD i .none) (ds.getD j .none)) (ds.length - 1)
  unfold L2.bix
  omega
theorem bst_lt {hs : List (Four × Jh)} (h : 0 < hs.length) : bst hs < hs.length := by
  have := bix_lt (ds := hs.map py2) (by rw [List.length_map]; exact h)
  rw [List.length_map] at this
  exact this
def kd1 (z : Je) : D := .tup [.int z.h.since, fD z.f]
theorem py_kd1 {A : Hs} (es : List Je) : pyAll A (es.map kd1) = some ((es.map fun z => (z.f, z.h)).map py2) := by
  induction es with
  | nil => rfl
  | cons z es ih =>
    unfold pyAll at ih ⊢
    rw [List.map_cons, List.map_cons, List.map_cons, List.map_cons]
    have e : pyA A 40 (kd1 z) = some (py2 (z.f, z.h)) := rfl
    rw [e]
    unfold allSome
    rw [ih]
    rfl
theorem alike_py2 (hs : List (Four × Jh)) : alikeB (hs.map py2) = true ∧ (hs.map py2).all nonone = true := by
  constructor
  · unfold alikeB
    rw [List.all_eq_true]
    intro x hx
    rw [List.all_eq_true]
    intro y hy
    obtain ⟨a, _, rfl⟩ := List.mem_map.mp hx
    obtain ⟨b, _, rfl⟩ := List.mem_map.mp hy
    rfl
  · rw [List.all_eq_true]
    intro x hx
    obtain ⟨a, _, rfl⟩ := List.mem_map.mp hx
    rfl
theorem best_ok {B : Hs} {r : Nat} {es : List Je} (h : B[r]? = some (.lst (es.map kd1))) (hne : 0 < es.length) : ∃ z, es[bst (es.map fun z => (z.f, z.h))]? = some z ∧ oBest false (.ref r) B = .ok (kd1 z) B := by
  have hb := bst_lt (hs := es.map fun z => (z.f, z.h)) (by rw [List.length_map]; exact hne)
  rw [List.length_map] at hb
  refine ⟨es[bst (es.map fun z => (z.f, z.h))]'hb, List.getElem?_eq_getElem hb, ?_⟩
  unfold oBest
  have e1 : seqL B (.ref r) = some (es.map kd1) := by rw [z5q, h]; rfl
  have e2 := py_kd1 (A := B) es
  have al := alike_py2 (es.map fun z => (z.f, z.h))
  rw [e1]
  simp only
  rw [e2]
  simp only
  rw [if_pos ⟨al.1, al.2, by rw [List.length_map, List.length_map]; exact hne⟩]
  have e3 : (es.map kd1)[L2.bix false ((es.map fun z => (z.f, z.h)).map py2)]? = some (kd1 (es[bst (es.map fun z => (z.f, z.h))]'hb)) := by
    rw [List.getElem?_map]
    show (es[bst (es.map fun z => (z.f, z.h))]?).map kd1 = _
    rw [List.getElem?_eq_getElem hb]
    rfl
  rw [e3]
theorem filter_len {f : Four} : ∀ {l : List Je}, (l.map Je.f).Nodup → f ∈ l.map Je.f → (l.filter (fun w => decide (w.f ≠ f))).length + 1 = l.length
  | [], _, h => by simp at h
  | a :: l, hn, h => by
    rw [List.map_cons, List.nodup_cons] at hn
    by_cases c : a.f = f
    · rw [List.filter_cons_of_neg (by simp [c]), List.length_cons]
      have : l.filter (fun w => decide (w.f ≠ f)) = l := by
        rw [List.filter_eq_self]
        intro w hw
        simp only [decide_eq_true_eq]
        rintro rfl
        exact hn.1 (by rw [c]; exact List.mem_map.mpr ⟨w, hw, rfl⟩)
      rw [this]
    · rw [List.filter_cons_of_pos (by simp [c]), List.length_cons, List.length_cons]
      rw [List.map_cons, List.mem_cons] at h
      rw [filter_len hn.2 (h.resolve_left fun e => c e.symm)]
/-- the pairs (since, packet) -/
theorem pairs_ok {B : Hs} {j d : Nat} {J : Jn} {es : List Je} {S : List Nat} (k : IsJ B j d J es S) (hl : es.length ≤ 100000) :
    lcL (gT [(SM.gN 2), (SM.gN 1)]) tYe (eTup (aCons (eFld ["Heap"] "since" (eVar 1)) (aCons (eVar 2) aNil))) (fun A' => A'[d]? = some (.dic true true (jt es))) [some (.ref j), none, none] (es.map fun z => D.tup [fD z.f, .ref z.x]) [] (B.set d (.dic true true (jt es))) = .ok (es.map kd1) (B.set d (.dic true true (jt es))) := by
  have hd := lt_of_get k.t
  suffices H : Rk (lcL (gT [(SM.gN 2), (SM.gN 1)]) tYe (eTup (aCons (eFld ["Heap"] "since" (eVar 1)) (aCons (eVar 2) aNil))) (fun A' => A'[d]? = some (.dic true true (jt es))) [some (.ref j), none, none] (es.map fun z => D.tup [fD z.f, .ref z.x]) [] (B.set d (.dic true true (jt es)))) fun l A1 => l = es.map kd1 ∧ A1 = B.set d (.dic true true (jt es)) by
    obtain ⟨_, _, e, rfl, rfl⟩ := H.ex
    exact e
  refine (lc_run (gd := fun A' => A'[d]? = some (.dic true true (jt es))) (fun i acc E => acc = (es.take i).map kd1 ∧ E = B.set d (.dic true true (jt es))) (ds := es.map fun z => D.tup [fD z.f, .ref z.x]) ⟨by simp, rfl⟩ (by rw [List.length_map]; omega) (fun i l A h => by obtain ⟨_, rfl⟩ := h; exact zb7 hd) ?_).mono ?_
  · intro i y hy acc E hP
    obtain ⟨rfl, rfl⟩ := hP
    rw [List.getElem?_map] at hy
    obtain ⟨z, hz, rfl⟩ := Option.map_eq_some_iff.mp hy
    have hzm := List.mem_of_getElem? hz
    have q := k.e z hzm
    have n1 : d ≠ z.x := by rintro rfl; have := k.t; rw [q.o] at this; cases this
    have o1 : (B.set d (.dic true true (jt es)))[z.x]? = some (.obj "Heap" (z.h.fs z.b)) := by rw [z33 n1]; exact q.o
    unfold Jh.fs at o1
    show Got _ _
    simp_arith [o1]
    rw [List.take_succ, hz, Option.toList_some, List.map_append]
    rfl
  · rintro l E ⟨h1, h2⟩
    rw [List.length_map, List.take_length] at h1
    exact ⟨h1, h2⟩
theorem jt_items {es : List Je} : (jt es).map (fun p => D.tup [p.1, p.2]) = es.map fun z => D.tup [fD z.f, .ref z.x] := by
  unfold jt kvG
  rw [List.map_map, List.map_map]
  rfl
theorem firstR_ok {B : Hs} {j d : Nat} {J : Jn} {es : List Je} {S : List Nat} (k : IsJ B j d J es S) (hl : es.length ≤ 90000) (hr : 0 ≤ J.room) : Rk (F_Joiner_let_first_go [.ref j] B) fun v A1 => v = .non ∧ ∃ es2, IsJ A1 j d { J with hs := fgo J.room J.hs } es2 S ∧ es2.length ≤ es.length ∧ Fr [d] B A1 := by
  unfold F_Joiner_let_first_go
  simp_arith []
  refine wh_go (fun n e C => ∃ es', n = es'.length ∧ e = [some (.ref j), none, none] ∧ IsJ C j d { J with hs := es'.map fun z => (z.f, z.h) } es' S ∧ fgo J.room (es'.map fun z => (z.f, z.h)) = fgo J.room J.hs ∧ es'.length ≤ es.length ∧ Fr [d] B C) (fun rs => Rk (finR rs) _) (n := es.length) ⟨es, rfl, rfl, by rw [k.p]; exact k, by rw [k.p], Nat.le_refl _, .refl⟩ ?_
  rintro n e C ⟨es', rfl, rfl, kC, hfg, hle, fC⟩
  have o1 := kC.o
  have t1 := kC.t
  have hd := lt_of_get t1
  have key := held_ok kC (by omega)
  have hs := held_sum (hs := es'.map fun z => (z.f, z.h)) (es := es') rfl
  unfold jfs at o1
  obtain ⟨C1, hC1⟩ : ∃ C1, C1 = C.set d (.dic true true (jt es')) := ⟨_, rfl⟩
  have oC : C1[j]? = some (.obj "Joiner" [("patience", .int J.pat), ("most_held", .int J.room), ("last_tick", .int J.last), ("heaps", .ref d)]) := by rw [hC1, z33 kC.ne.symm]; exact o1
  have tC : C1[d]? = some (.dic true true (jt es')) := by rw [hC1]; exact zb7 hd
  have lC : C1.length = C.length := by rw [hC1]; simp
  have uC : (C1 ++ [O.lst (es'.map fun (z : Je) => D.int (z.h.kv.length : Int))])[d]? = some (.dic true true (jt es')) := get_push tC
  have ei : intsOf (es'.map fun z => D.int (z.h.kv.length : Int)) = some (es'.map fun z => (z.h.kv.length : Int)) := by
    have := z0h (es'.map fun z => (z.h.kv.length : Int))
    rwa [List.map_map] at this
  rw [← hC1] at key
  have eF : (C1 ++ [O.lst (es'.map fun (z : Je) => D.int (z.h.kv.length : Int))]).set d (.dic true false (jt es')) = C ++ [O.lst (es'.map fun (z : Je) => D.int (z.h.kv.length : Int))] := by
    rw [hC1, List.set_append_left _ _ (by simpa using hd), List.set_set, set_same t1]
  obtain ⟨G, hG⟩ : ∃ G, G = C ++ [O.lst (es'.map fun (z : Je) => D.int (z.h.kv.length : Int))] := ⟨_, rfl⟩
  have kG : IsJ G j d { J with hs := es'.map fun z => (z.f, z.h) } es' S := by rw [hG]; exact kC.frame (s := []) .push (by simp)
  have vC : G[C1.length]? = some (.lst (es'.map fun (z : Je) => D.int (z.h.kv.length : Int))) := by rw [hG, lC]; exact zah
  have oG := kG.o
  have tG := kG.t
  unfold jfs at oG
  rw [← hG] at eF
  by_cases c : J.room < (es'.map fun z => (z.h.kv.length : Int)).sum
  · have hne : 0 < es'.length := by
      cases es' with
      | nil => simp at c; omega
      | cons z es' => simp
    obtain ⟨G1, hG1⟩ : ∃ G1, G1 = G.set d (.dic true true (jt es')) := ⟨_, rfl⟩
    have hdG := lt_of_get tG
    have tG1 : G1[d]? = some (.dic true true (jt es')) := by rw [hG1]; exact zb7 hdG
    have oG1 : G1[j]? = some (.obj "Joiner" [("patience", .int J.pat), ("most_held", .int J.room), ("last_tick", .int J.last), ("heaps", .ref d)]) := by rw [hG1, z33 kG.ne.symm]; exact oG
    have lG1 : G1.length = G.length := by rw [hG1]; simp
    have key2 := pairs_ok kG (by omega)
    rw [← hG1] at key2
    have uG : (G1 ++ [O.lst (es'.map kd1)])[d]? = some (.dic true true (jt es')) := get_push tG1
    have eG : (G1 ++ [O.lst (es'.map kd1)]).set d (.dic true false (jt es')) = G ++ [O.lst (es'.map kd1)] := by
      rw [hG1, List.set_append_left _ _ (by simpa using hdG), List.set_set, set_same tG]
    obtain ⟨z, hz, ez⟩ := best_ok (B := G ++ [O.lst (es'.map kd1)]) (r := G1.length) (es := es') (by rw [lG1]; exact zah) hne
    have hzm := List.mem_of_getElem? hz
    have kH : IsJ (G ++ [O.lst (es'.map kd1)]) j d { J with hs := es'.map fun z => (z.f, z.h) } es' S := kG.frame (s := []) .push (by simp)
    have tH := kH.t
    have pB := z97 (A := G ++ [O.lst (es'.map kd1)]) (i := d) fD_ok (jt_get kH.nk hzm)
    rw [jt_del] at pB
    have ez : oBest false (.ref G1.length) (G ++ [O.lst (es'.map kd1)]) = .ok (.tup [.int z.h.since, fD z.f]) (G ++ [O.lst (es'.map kd1)]) := ez
    simp_arith [o1, t1, ← hC1, oC, tC, jt_vals, key, uC, eF, vC, oG, ei, c, tG, ← hG1, tG1, oG1, jt_items, key2, uG, eG, ez, tH, pB]
    have hlen := filter_len (f := z.f) kC.nk (List.mem_map.mpr ⟨z, hzm, rfl⟩)
    refine ⟨(es'.filter fun w => decide (w.f ≠ z.f)).length, by omega, es'.filter fun w => decide (w.f ≠ z.f), rfl, kH.sub (es2 := es'.filter fun w => decide (w.f ≠ z.f)) List.filter_sublist, ?_, by omega, ?_⟩
    · rw [← hfg, wo_es]
      unfold fgo
      have e1 : (es'.map fun z => (z.f, z.h)).length = (wo (es'.map fun z => (z.f, z.h)) z.f).length + 1 := by
        rw [← wo_es, List.length_map, List.length_map]; omega
      rw [e1]
      conv => rhs; unfold fgoN
      rw [if_pos (by rw [← hs]; exact c), List.getElem?_map, hz]
      rfl
    · rw [hG]
      exact (((fC.then_push).then_push).then_set (.inl (by simp)))
  · simp_arith [o1, t1, ← hC1, oC, tC, jt_vals, key, uC, eF, vC, oG, ei, c]
    refine ⟨es', ?_, hle, by rw [hG]; exact fC.then_push⟩
    rw [← hfg, fgo_small (by rw [← hs]; omega)]
    exact kG

/-! takes where the first may go -/
open DL (Bytes)
def tk3 (room : Int) (hs : List (Four × Jh)) (p : Pq) (h : Jh × Bool) : List (Four × Jh) :=
  if h.2 = false then wo hs p.four else if h.1.there = true then wo hs p.four else fgo room (wi hs p.four h.1)
def Jn.hs3 (J : Jn) (p : Pq) (tick : Int) : List (Four × Jh) := tk3 J.room (ens (old J.pat tick J.hs) p tick) p ((hen (old J.pat tick J.hs) p tick).hold p)
theorem tail_okR {B : Hs} {j d q : Nat} {J : Jn} {es : List Je} {S : List Nat} {z : Je} {p : Pq} {tick : Int} {o4 : Option D} (k : IsJ B j d J es S) (hz : z ∈ es) (hf : z.f = p.four) (hp : p.Ok) (hq : B[q]? = some (.obj "Packet" p.fs)) (hl : es.length ≤ 90000)
    (hr : 0 ≤ J.room) :
    Rk (finR (tkT [some (.ref j), some (.ref q), some (.int tick), some (fD p.four), o4] B)) fun v A1 => Tol B A1 v (tk1 J.hs p (z.h.hold p)).2 ∧ ∃ es2, IsJ A1 j d { J with hs := tk3 J.room J.hs p (z.h.hold p) } es2 S ∧ es2.length ≤ es.length ∧ Fr S B A1 := by
  have o1 := k.o
  have t1 := k.t
  have kz := k.e z hz
  have oz := kz.o
  have g1 := jt_get k.nk hz
  rw [hf] at g1
  obtain ⟨_, B1, e1, rfl, kz1, f1⟩ := (hold_ok kz (k.ok z hz) hp hq).ex
  have hok := (k.ok z hz).hold hp
  have nj1 : j ≠ z.x := ne_obj o1 oz (by decide)
  have nj2 : j ≠ z.b := by rintro rfl; rw [kz.d] at o1; cases o1
  have o2 := f1.get o1 (by simp [nj1, nj2])
  have hS : ∀ i ∈ [z.x, z.b], i ∈ S := by
    intro i hi
    simp only [List.mem_cons, List.not_mem_nil, or_false] at hi
    rcases hi with rfl | rfl
    · exact (k.se z hz).1
    · exact (k.se z hz).2
  have fS : Fr S B B1 := f1.mono hS
  have k1 := k.upd hz f1 kz1 hok
  rw [wi_es, k.p, hf] at k1
  obtain ⟨es', hes⟩ : ∃ es', es' = es.map fun w => if w.f = p.four then { w with h := (z.h.hold p).1 } else w := ⟨_, rfl⟩
  rw [← hes] at k1
  have elen : es'.length = es.length := by rw [hes]; exact List.length_map _
  have hz' : ({ z with h := (z.h.hold p).1 } : Je) ∈ es' := by
    rw [hes]
    exact List.mem_map.mpr ⟨z, hz, if_pos hf⟩
  have g2 := jt_get k1.nk hz'
  have g2 : kget (jt es') (fD p.four) = some (.ref z.x) := by rw [← hf]; exact g2
  have t2 := k1.t
  have d1 := z97 (A := B1) (i := d) fD_ok g2
  have pop := k1.sub (es2 := es'.filter fun w => decide (w.f ≠ p.four)) List.filter_sublist
  rw [wo_es, k1.p] at pop
  simp only [wo_wi] at pop
  have oz1 := kz1.o
  have et := there_ok kz1
  rw [jt_del] at d1
  unfold jfs at o1 o2
  unfold Jh.fs at oz oz1
  have hSd : ∀ o, Fr S B (B1.set d o) := fun o => fS.then_set (.inl k.sd)
  unfold tk1 tk3
  unfold tkT
  by_cases c : (z.h.hold p).2 = false
  · rw [if_pos c, if_pos c]
    rw [c] at e1
    simp_arith [o1, t1, g1, oz, e1, o2, t2, d1, fD_ok]
    exact ⟨rfl, _, pop, by have := List.length_filter_le (fun w : Je => decide (w.f ≠ p.four)) es'; omega, hSd _⟩
  · rw [if_neg c, if_neg c]
    have c' : (z.h.hold p).2 = true := by simpa using c
    rw [c'] at e1
    by_cases c2 : (z.h.hold p).1.there = true
    · rw [if_pos c2, if_pos c2]
      rw [c2] at et
      have hin := hold_in c'
      obtain ⟨e, he⟩ : ∃ e, (z.h.hold p).1.en = some e := by
        unfold Jh.there at c2
        cases q : (z.h.hold p).1.en with
        | none => rw [q] at c2; cases c2
        | some e => exact ⟨e, rfl⟩
      have hb : mxp (z.h.hold p).1.kv < e := by
        unfold inB at hin
        rw [he] at hin
        exact of_decide_eq_true hin
      have hlen : ((z.h.hold p).1.kv.length : Int) = e := by
        unfold Jh.there at c2
        rw [he] at c2
        exact of_decide_eq_true c2
      have kz2 : IsH (B1.set d (.dic true false (jt (es'.filter fun w => decide (w.f ≠ p.four))))) z.x z.b (z.h.hold p).1 := by
        have n1 : d ≠ z.x := by rintro rfl; have := k1.t; rw [kz1.o] at this; cases this
        have n2 : d ≠ z.b := by rintro rfl; have := k1.t; rw [kz1.d] at this; cases this
        exact ⟨by rw [z33 n1]; exact kz1.o, by rw [z33 n2]; exact kz1.d⟩
      obtain ⟨_, B2, e2, r, rfl, g3, hr2, f2⟩ := (hmade_ok kz2 hok hp.four he hb hlen).ex
      have oz2 := kz2.o
      unfold Jh.fs at oz2
      rw [List.length_set] at hr2
      have := f1.le
      simp_arith [o1, t1, g1, oz, e1, o2, t2, d1, fD_ok, et, oz1, oz2, e2]
      exact ⟨⟨r, rfl, g3, by omega⟩, _, pop.frame f2 (by simp), by have := List.length_filter_le (fun w : Je => decide (w.f ≠ p.four)) es'; omega, (hSd _).trans (f2.mono (by simp))⟩
    · rw [if_neg c2, if_neg c2]
      have c2' : (z.h.hold p).1.there = false := by simpa using c2
      rw [c2'] at et
      obtain ⟨_, B2, e2, rfl, es2, k2, l2, f2⟩ := (firstR_ok k1 (by omega) hr).ex
      simp_arith [o1, t1, g1, oz, e1, o2, fD_ok, et, oz1, e2]
      exact ⟨rfl, es2, k2, by omega, fS.trans (f2.mono (by simp [k.sd]))⟩

/-! a joiner's take, whole -/
open DL (Bytes)
theorem IsJ.add {A B : Hs} {j d : Nat} {J : Jn} {es : List Je} {S : List Nat} {z : Je} (k : IsJ A j d J es S) (f : Fr [] A B) (kz : IsH B z.x z.b z.h) (hx : A.length ≤ z.x) (hb : A.length ≤ z.b) (hf : z.f ∉ es.map Je.f) (ok : z.h.Ok) :
    IsJ (B.set d (.dic true false (jt (es ++ [z])))) j d { J with hs := J.hs ++ [(z.f, z.h)] } (es ++ [z]) (z.x :: z.b :: S) := by
  have k1 := k.frame f (by simp)
  have hd := k.lt d k.sd
  have hd1 := lt_of_get k1.t
  have nd1 : d ≠ z.x := by omega
  have nd2 : d ≠ z.b := by omega
  have lx := lt_of_get kz.o
  have lb := lt_of_get kz.d
  refine ⟨by rw [z33 k.ne.symm]; exact k1.o, zb7 hd1, fun w hw => ?_, by rw [List.map_append, k.p]; rfl, ?_, ?_, ?_, List.mem_cons_of_mem _ (List.mem_cons_of_mem _ k.sj), List.mem_cons_of_mem _ (List.mem_cons_of_mem _ k.sd), fun w hw => ?_, fun i hi => ?_, fun w hw => ?_⟩
  · rcases List.mem_append.mp hw with h | h
    · have q := k1.e w h
      have n1 : d ≠ w.x := by rintro rfl; have := k1.t; rw [q.o] at this; cases this
      have n2 : d ≠ w.b := by rintro rfl; have := k1.t; rw [q.d] at this; cases this
      exact ⟨by rw [z33 n1]; exact q.o, by rw [z33 n2]; exact q.d⟩
    · rw [List.mem_singleton] at h
      subst h
      exact ⟨by rw [z33 nd1]; exact kz.o, by rw [z33 nd2]; exact kz.d⟩
  · rw [List.map_append, List.map_cons, List.map_nil, List.nodup_append]
    refine ⟨k.nk, by simp, fun a ha c hc => ?_⟩
    rw [List.mem_singleton] at hc
    rw [hc]
    rintro rfl
    exact hf ha
  · rw [List.map_append, List.map_cons, List.map_nil, List.nodup_append]
    refine ⟨k.nx, by simp, fun a ha c hc => ?_⟩
    rw [List.mem_singleton] at hc
    obtain ⟨w, hw, rfl⟩ := List.mem_map.mp ha
    have := k.lt _ (k.se w hw).1
    omega
  · rw [List.map_append, List.map_cons, List.map_nil, List.nodup_append]
    refine ⟨k.nb, by simp, fun a ha c hc => ?_⟩
    rw [List.mem_singleton] at hc
    obtain ⟨w, hw, rfl⟩ := List.mem_map.mp ha
    have := k.lt _ (k.se w hw).2
    omega
  · rcases List.mem_append.mp hw with h | h
    · exact ⟨List.mem_cons_of_mem _ (List.mem_cons_of_mem _ (k.se w h).1), List.mem_cons_of_mem _ (List.mem_cons_of_mem _ (k.se w h).2)⟩
    · rw [List.mem_singleton] at h
      subst h
      exact ⟨List.mem_cons_self, List.mem_cons_of_mem _ List.mem_cons_self⟩
  · rw [List.length_set]
    simp only [List.mem_cons] at hi
    rcases hi with rfl | rfl | hi
    · exact lx
    · exact lb
    · exact Nat.lt_of_lt_of_le (k.lt i hi) f.le
  · rcases List.mem_append.mp hw with h | h
    · exact k.ok w h
    · rw [List.mem_singleton] at h; rw [h]; exact ok
theorem IsJ.keys {A : Hs} {j d : Nat} {J : Jn} {es : List Je} {S : List Nat} (k : IsJ A j d J es S) : J.hs.map Prod.fst = es.map Je.f := by
  rw [← k.p, List.map_map]; rfl
/-- the packet's heap is there -/
theorem ens_ok {B : Hs} {j d q : Nat} {J : Jn} {es : List Je} {S : List Nat} {p : Pq} {tick : Int} {o4 : Option D} (k : IsJ B j d J es S) (hp : p.Ok) (hq : B[q]? = some (.obj "Packet" p.fs)) (hl : es.length ≤ 50000) :
    ∃ B', tkE [some (.ref j), some (.ref q), some (.int tick), some (fD p.four), o4] B = .nx [some (.ref j), some (.ref q), some (.int tick), some (fD p.four), o4] B' ∧ ∃ es2 S2 z, IsJ B' j d { J with hs := ens J.hs p tick } es2 S2 ∧ es2.length ≤ es.length + 1 ∧ z ∈ es2 ∧ z.f = p.four ∧ z.h = hen J.hs p tick ∧ Fr [d] B B' ∧ (∀ i ∈ S2, i ∈ S ∨ B.length ≤ i) ∧ ∀ i ∈ S, i ∈ S2 := by
  have o1 := k.o
  have t1 := k.t
  have hq' : B[q]? = some (.obj "Packet" [("source", .int p.s), ("target", .int p.t), ("kind", .int p.k), ("life", .int p.l), ("name", .int p.n), ("first", .int p.f), ("more", .bl p.m), ("data", .tup (p.d.map D.int))]) := hq
  unfold jfs at o1
  have hkeys := k.keys
  unfold tkE
  cases c : J.hs.lookup p.four with
  | some h0 =>
    have hm : p.four ∈ es.map Je.f := by
      rw [← hkeys]
      by_cases w : p.four ∈ J.hs.map Prod.fst
      · exact w
      · rw [look_not w] at c; cases c
    obtain ⟨z, hz, hzf⟩ := List.mem_map.mp hm
    have g1 := jt_get k.nk hz
    rw [hzf] at g1
    have hz0 : J.hs.lookup p.four = some z.h := look_mem (by rw [hkeys]; exact k.nk) (by rw [← k.p]; exact List.mem_map.mpr ⟨z, hz, by rw [hzf]⟩)
    rw [c] at hz0
    cases hz0
    have e1 : ens J.hs p tick = J.hs := by unfold ens; rw [c]
    have e2 : hen J.hs p tick = z.h := by unfold hen; rw [c]; rfl
    rw [e1, e2]
    refine ⟨B, ?_, es, S, z, k, by omega, hz, hzf, rfl, .refl, fun i hi => .inl hi, fun i hi => hi⟩
    simp_arith [o1, t1, g1, fD_ok]
  | none =>
    have hm : p.four ∉ es.map Je.f := by
      rw [← hkeys]
      intro w
      obtain ⟨x, hx, e⟩ := List.mem_map.mp w
      have : ∃ v, J.hs.lookup p.four = some v := ⟨x.2, look_mem (v := x.2) (by rw [hkeys]; exact k.nk) (by rw [← e]; exact hx)⟩
      obtain ⟨v, hv⟩ := this
      rw [c] at hv; cases hv
    have g1 := jt_not hm
    obtain ⟨_, B1, e1, rfl, kz, f1⟩ := (heap_ok (A := B) (tick := tick) (l := p.l)).ex
    have o2 := f1.get o1 (by simp)
    have t2 := f1.get t1 (by simp)
    have put := jt_put (z := ⟨p.four, ⟨tick, p.l, none, []⟩, B.length, B.length + 1⟩) hm
    have put : kput (jt es) (fD p.four) (.ref B.length) = jt (es ++ [⟨p.four, ⟨tick, p.l, none, []⟩, B.length, B.length + 1⟩]) := put
    have hjl : (jt es).length < 16000000 := by rw [jt_len]; omega
    have ad := k.add (z := ⟨p.four, ⟨tick, p.l, none, []⟩, B.length, B.length + 1⟩) f1 kz (Nat.le_refl _) (Nat.le_succ _) hm ⟨hp.l, ⟨.nil, fun z hz => (by cases hz), fun z hz => (by cases hz)⟩, fun e h => (by cases h)⟩
    have e2 : ens J.hs p tick = J.hs ++ [(p.four, ⟨tick, p.l, none, []⟩)] := by unfold ens; rw [c]
    have e3 : hen J.hs p tick = ⟨tick, p.l, none, []⟩ := by unfold hen; rw [c]; rfl
    rw [e2, e3]
    refine ⟨_, ?_, _, _, ⟨p.four, ⟨tick, p.l, none, []⟩, B.length, B.length + 1⟩, ad, by simp, List.mem_append_right _ List.mem_cons_self, rfl, rfl, (f1.mono (by simp)).then_set (.inl (by simp)), fun i hi => ?_, fun i hi => List.mem_cons_of_mem _ (List.mem_cons_of_mem _ hi)⟩
    · have si := zbc (A := B1) (i := d) (y := fD p.four) (z := .ref B.length) (t := true) hjl
      rw [if_pos fD_ok, put] at si
      simp_arith [o1, t1, g1, fD_ok, hq', e1, o2, t2, si]
    · simp only [List.mem_cons] at hi
      rcases hi with rfl | rfl | hi
      · exact .inr (Nat.le_refl _)
      · exact .inr (Nat.le_succ _)
      · exact .inl hi
theorem IsJ.tick {A : Hs} {j d : Nat} {J : Jn} {es : List Je} {S : List Nat} {tick : Int} (k : IsJ A j d J es S) : IsJ (A.set j (.obj "Joiner" (jfs J.pat J.room tick d))) j d { J with last := tick } es S := by
  refine ⟨zb7 (lt_of_get k.o), by rw [z33 k.ne]; exact k.t, fun z hz => ?_, k.p, k.nk, k.nx, k.nb, k.sj, k.sd, k.se, fun i hi => by rw [List.length_set]; exact k.lt i hi, k.ok⟩
  have q := k.e z hz
  have n1 : j ≠ z.x := ne_obj k.o q.o (by decide)
  have n2 : j ≠ z.b := by rintro rfl; have := k.o; rw [q.d] at this; cases this
  exact ⟨by rw [z33 n1]; exact q.o, by rw [z33 n2]; exact q.d⟩
theorem take_whole {A : Hs} {j d q : Nat} {J : Jn} {es : List Je} {S : List Nat} {p : Pq} {tick : Int} (k : IsJ A j d J es S) (hq : A[q]? = some (.obj "Packet" p.fs)) (hqS : q ∉ S) (ht : J.last ≤ tick) (hl : es.length ≤ 50000) (hw : p.f = 0 ∧ p.m = false) :
    Rk (F_Joiner_take [.ref j, .ref q, .int tick] A) fun v A1 => v = .ref q ∧ ∃ es2, IsJ A1 j d { J with last := tick, hs := old J.pat tick J.hs } es2 S ∧ es2.length ≤ es.length ∧ Fr S A A1 := by
  have o1 := k.o
  have ht' : ¬ tick < J.last := by omega
  have nj := lt_of_get o1
  have k1 := k.tick (tick := tick)
  have o2 := k1.o
  obtain ⟨_, B, e1, rfl, es2, k2, h2, f2⟩ := (old_ok (tick := tick) k1 (by omega)).ex
  have hq1 : (A.set j (.obj "Joiner" (jfs J.pat J.room tick d)))[q]? = some (.obj "Packet" p.fs) := by rw [z33 (fun e => hqS (by rw [← e]; exact k.sj))]; exact hq
  have hqd : q ∉ [d] := by rw [List.mem_singleton]; exact fun e => hqS (by rw [e]; exact k.sd)
  have hq2 : B[q]? = some (.obj "Packet" [("source", .int p.s), ("target", .int p.t), ("kind", .int p.k), ("life", .int p.l), ("name", .int p.n), ("first", .int p.f), ("more", .bl p.m), ("data", .tup (p.d.map D.int))]) := f2.get hq1 hqd
  rw [hw.1, hw.2] at hq2
  unfold jfs at o1 o2 e1
  rw [tk_eq]
  unfold tkR tkW
  simp_arith [o1, ht', o2, e1, hq2]
  exact ⟨es2, k2, h2, ((Fr.set k.sj).trans (f2.mono (by simp [k.sd])))⟩
theorem take_okR {A : Hs} {j d q : Nat} {J : Jn} {es : List Je} {S : List Nat} {p : Pq} {tick : Int} (k : IsJ A j d J es S) (hp : p.Ok) (hq : A[q]? = some (.obj "Packet" p.fs)) (hqS : q ∉ S) (ht : J.last ≤ tick) (hl : es.length ≤ 40000) (hw : ¬ (p.f = 0 ∧ p.m = false))
    (hr : 0 ≤ J.room) :
    Rk (F_Joiner_take [.ref j, .ref q, .int tick] A) fun v A1 => Tol A A1 v (J.hs2 p tick).2 ∧ ∃ es2 S2, IsJ A1 j d { J with last := tick, hs := J.hs3 p tick } es2 S2 ∧ es2.length ≤ es.length + 1 ∧ Fr S A A1 ∧ ∀ i ∈ S2, i ∈ S ∨ A.length ≤ i := by
  have o1 := k.o
  have ht' : ¬ tick < J.last := by omega
  have nj := lt_of_get o1
  have k1 := k.tick (tick := tick)
  have o2 := k1.o
  obtain ⟨_, B, e1, rfl, es2, k2, h2, f2⟩ := (old_ok (tick := tick) k1 (by omega)).ex
  have hq1 : (A.set j (.obj "Joiner" (jfs J.pat J.room tick d)))[q]? = some (.obj "Packet" p.fs) := by rw [z33 (fun e => hqS (by rw [← e]; exact k.sj))]; exact hq
  have hqd : q ∉ [d] := by rw [List.mem_singleton]; exact fun e => hqS (by rw [e]; exact k.sd)
  have hq2' := f2.get hq1 hqd
  have hq2 : B[q]? = some (.obj "Packet" [("source", .int p.s), ("target", .int p.t), ("kind", .int p.k), ("life", .int p.l), ("name", .int p.n), ("first", .int p.f), ("more", .bl p.m), ("data", .tup (p.d.map D.int))]) := hq2'
  obtain ⟨C, e3, es3, S3, z, k3, h3, hz, hzf, hzh, f3, hS3, hSS⟩ := ens_ok (tick := tick) (o4 := none) k2 hp hq2' (by omega)
  have hq3 := f3.get hq2' hqd
  have f12 : Fr S A B := (Fr.set k.sj).trans (f2.mono (by simp [k.sd]))
  have f13 : Fr S A C := f12.trans (f3.mono (by simp [k.sd]))
  have l2 := f12.le
  have tl := tail_okR (tick := tick) (o4 := none) k3 hz hzf hp hq3 (by omega) hr
  rw [hzh] at tl
  have ew : (decide (p.f = 0) && !p.m) = false := by
    cases hm : p.m with
    | true => simp
    | false => simp only [Bool.not_false, Bool.and_true, decide_eq_false_iff_not]; exact fun e => hw ⟨e, hm⟩
  have fin : Rk (finR (tkT [some (.ref j), some (.ref q), some (.int tick), some (fD p.four), none] C)) fun v A1 => Tol A A1 v (J.hs2 p tick).2 ∧ ∃ es2 S2, IsJ A1 j d { J with last := tick, hs := J.hs3 p tick } es2 S2 ∧ es2.length ≤ es.length + 1 ∧ Fr S A A1 ∧ ∀ i ∈ S2, i ∈ S ∨ A.length ≤ i := by
    refine tl.mono ?_
    rintro v A1 ⟨ht, es4, k4, h4, f4⟩
    refine ⟨?_, es4, S3, k4, by omega, ?_, fun i hi => (hS3 i hi).imp id fun h => by omega⟩
    · have ht : Tol C A1 v (J.hs2 p tick).2 := ht
      generalize (J.hs2 p tick).2 = r at ht ⊢
      cases r with
      | none => exact ht
      | some p' =>
        obtain ⟨r, h1, h2, h3⟩ := ht
        exact ⟨r, h1, h2, by have := f13.le; omega⟩
    · refine ⟨Nat.le_trans f13.le f4.le, fun i hi hn => ?_⟩
      rw [f4.2 i (by have := f13.le; omega) (fun h => (hS3 i h).elim hn fun h => by omega), f13.2 i hi hn]
  have fD_u : D.tup [.int p.s, .int p.t, .int p.k, .int p.n] = fD p.four := rfl
  unfold jfs at o1 o2 e1
  rw [tk_eq]
  unfold tkR tkW
  by_cases c : p.f = 0
  · have hm : p.m = true := by
      cases hm : p.m with
      | true => rfl
      | false => exact absurd ⟨c, hm⟩ hw
    rw [c, hm] at hq2
    simp_arith [o1, ht', o2, e1, hq2, fD_u, e3]
    exact fin
  · simp_arith [o1, ht', o2, e1, hq2, c, fD_u, e3]
    exact fin

/-! pieces that come together -/
/-! two pieces of one packet -/
section
variable {p : Pq} {d : List Int} {a : Nat}
end

/-! a joiner that stands above a place -/
open DL (Bytes)
/-- nothing below base changes -/
def Ub (base : Nat) (A B : Hs) : Prop := A.length ≤ B.length ∧ ∀ k, k < A.length → k < base → B[k]? = A[k]?
theorem Ub.refl {b : Nat} {A : Hs} : Ub b A A := ⟨Nat.le_refl _, fun _ _ _ => rfl⟩
theorem Ub.trans {b : Nat} {A B C : Hs} (f : Ub b A B) (g : Ub b B C) : Ub b A C := ⟨Nat.le_trans f.1 g.1, fun k h1 h2 => by rw [g.2 k (Nat.lt_of_lt_of_le h1 f.1) h2, f.2 k h1 h2]⟩
theorem Ub.of {b : Nat} {A B : Hs} {s : List Nat} (f : Fr s A B) (h : ∀ k ∈ s, b ≤ k) : Ub b A B := ⟨f.le, fun k h1 h2 => f.2 k h1 (fun hk => by have := h k hk; omega)⟩
theorem Ub.get {b i : Nat} {A B : Hs} {o : O} (f : Ub b A B) (h : A[i]? = some o) (hi : i < b) : B[i]? = some o := by rw [f.2 i (lt_of_get h) hi]; exact h
theorem Ub.fr {b : Nat} {A B : Hs} {s : List Nat} (f : Ub b A B) (h : A.length ≤ b) : Fr s A B := ⟨f.1, fun k h1 _ => f.2 k h1 (by omega)⟩
structure JA (A : Hs) (base j : Nat) (J : Jn) (d : Nat) : Prop where
  ex : ∃ es S, IsJ A j d J es S ∧ ∀ k ∈ S, base ≤ k
theorem JA.o {A : Hs} {base j d : Nat} {J : Jn} (h : JA A base j J d) : A[j]? = some (.obj "Joiner" (jfs J.pat J.room J.last d)) := by
  obtain ⟨es, S, k, _⟩ := h.ex
  exact k.o
theorem JA.frame {A B : Hs} {base j d : Nat} {J : Jn} {s : List Nat} (h : JA A base j J d) (f : Fr s A B) (hs : ∀ k ∈ s, k < base ∨ A.length ≤ k) : JA B base j J d := by
  obtain ⟨es, S, k, hb⟩ := h.ex
  exact ⟨es, S, k.frame f fun i hi hn => by have := hb i hi; have := k.lt i hi; have := hs i hn; omega, hb⟩
theorem IsJ.len {A : Hs} {j d : Nat} {J : Jn} {es : List Je} {S : List Nat} (k : IsJ A j d J es S) : es.length = J.hs.length := by rw [← k.p, List.length_map]
/-! what a take does, in general -/
section
variable {J : Jn} {q : Pq} {d : List Int} {a : Nat} {tick t0 : Int}
end
theorem same_non {A : Hs} : F_l_same [.non, .non] A = .ok (.bl true) A := by
  unfold F_l_same
  simp_arith []

/-! the law's own joiner, a plain dict -/
open DL (Bytes)
structure IsL (A : Hs) (x b : Nat) (h : Jh) : Prop where
  o : A[x]? = some (.lst [.int h.since, .int h.life, oI h.en, .ref b])
  d : A[b]? = some (.dic false false (kd h.kv))
theorem IsL.ne {A : Hs} {x b : Nat} {h : Jh} (k : IsL A x b h) : x ≠ b := by
  rintro rfl
  have := k.o
  rw [k.d] at this
  cases this
theorem IsL.frame {A B : Hs} {x b : Nat} {h : Jh} {s : List Nat} (k : IsL A x b h) (f : Fr s A B) (hx : x ∉ s) (hb : b ∉ s) : IsL B x b h := ⟨f.get k.o hx, f.get k.d hb⟩
def mkv (pat room : Int) (d : Nat) : List (D × D) := [(dS "patience", .int pat), (dS "room", .int room), (dS "held", .ref d)]
theorem mkv_ne {pat room : Int} {d : Nat} {kv : List (Int × Int)} : mkv pat room d ≠ kd kv := by
  intro e
  unfold mkv at e
  cases kv with
  | nil => cases e
  | cons z kv => cases e
structure IsM (A : Hs) (j d : Nat) (J : Jn) (es : List Je) (S : List Nat) : Prop where
  o : A[j]? = some (.dic false false (mkv J.pat J.room d))
  t : A[d]? = some (.dic true false (jt es))
  e : ∀ z ∈ es, IsL A z.x z.b z.h
  p : es.map (fun z => (z.f, z.h)) = J.hs
  nk : (es.map Je.f).Nodup
  nx : (es.map Je.x).Nodup
  nb : (es.map Je.b).Nodup
  sj : j ∈ S
  sd : d ∈ S
  se : ∀ z ∈ es, z.x ∈ S ∧ z.b ∈ S
  lt : ∀ k ∈ S, k < A.length
  ok : ∀ z ∈ es, z.h.Ok
theorem IsM.ne {A : Hs} {j d : Nat} {J : Jn} {es : List Je} {S : List Nat} (k : IsM A j d J es S) : j ≠ d := by
  rintro rfl
  have := k.o
  rw [k.t] at this
  cases this
theorem IsM.frame {A B : Hs} {j d : Nat} {J : Jn} {es : List Je} {S s : List Nat} (k : IsM A j d J es S) (f : Fr s A B) (hs : ∀ i ∈ S, i ∉ s) : IsM B j d J es S :=
  ⟨f.get k.o (hs j k.sj), f.get k.t (hs d k.sd), fun z hz => (k.e z hz).frame f (hs _ (k.se z hz).1) (hs _ (k.se z hz).2), k.p, k.nk, k.nx, k.nb, k.sj, k.sd, k.se, fun i hi => Nat.lt_of_lt_of_le (k.lt i hi) f.le, k.ok⟩
theorem IsM.sub {A : Hs} {j d : Nat} {J : Jn} {es es2 : List Je} {S : List Nat} (k : IsM A j d J es S) (h : es2.Sublist es) : IsM (A.set d (.dic true false (jt es2))) j d { J with hs := es2.map fun z => (z.f, z.h) } es2 S := by
  have hd := lt_of_get k.t
  refine ⟨by rw [z33 k.ne.symm]; exact k.o, zb7 hd, fun z hz => ?_, rfl, (h.map _).nodup k.nk, (h.map _).nodup k.nx, (h.map _).nodup k.nb, k.sj, k.sd, fun z hz => k.se z (h.subset hz), fun i hi => by rw [List.length_set]; exact k.lt i hi, fun z hz => k.ok z (h.subset hz)⟩
  have q := k.e z (h.subset hz)
  have n1 : d ≠ z.x := by rintro rfl; have := k.t; rw [q.o] at this; cases this
  have n2 : d ≠ z.b := by
    rintro rfl
    have := k.t
    rw [q.d] at this
    cases this
  exact ⟨by rw [z33 n1]; exact q.o, by rw [z33 n2]; exact q.d⟩
theorem IsM.upd {A B : Hs} {j d : Nat} {J : Jn} {es : List Je} {S : List Nat} {z : Je} {h' : Jh} (k : IsM A j d J es S) (hz : z ∈ es) (f : Fr [z.x, z.b] A B) (hB : IsL B z.x z.b h') (hk : h'.Ok) :
    IsM B j d { J with hs := (es.map fun w => if w.f = z.f then { w with h := h' } else w).map fun w => (w.f, w.h) } (es.map fun w => if w.f = z.f then { w with h := h' } else w) S := by
  have q := k.e z hz
  have nj1 : j ≠ z.x := by rintro rfl; have := k.o; rw [q.o] at this; cases this
  have nj2 : j ≠ z.b := by rintro rfl; have := k.o; rw [q.d] at this; injection this with this; injection this with _ _ this; exact mkv_ne this.symm
  have nd1 : d ≠ z.x := by rintro rfl; have := k.t; rw [q.o] at this; cases this
  have nd2 : d ≠ z.b := by rintro rfl; have := k.t; rw [q.d] at this; cases this
  have ef : ∀ w : Je, (if w.f = z.f then { w with h := h' } else w).f = w.f := fun w => by split <;> rfl
  have ex : ∀ w : Je, (if w.f = z.f then { w with h := h' } else w).x = w.x := fun w => by split <;> rfl
  have eb : ∀ w : Je, (if w.f = z.f then { w with h := h' } else w).b = w.b := fun w => by split <;> rfl
  have mf : (es.map fun w => if w.f = z.f then { w with h := h' } else w).map Je.f = es.map Je.f := by
    rw [List.map_map]; exact List.map_congr_left fun w _ => ef w
  have mx : (es.map fun w => if w.f = z.f then { w with h := h' } else w).map Je.x = es.map Je.x := by
    rw [List.map_map]; exact List.map_congr_left fun w _ => ex w
  have mb : (es.map fun w => if w.f = z.f then { w with h := h' } else w).map Je.b = es.map Je.b := by
    rw [List.map_map]; exact List.map_congr_left fun w _ => eb w
  have mt : jt (es.map fun w => if w.f = z.f then { w with h := h' } else w) = jt es := by
    unfold jt
    rw [List.map_map]
    congr 1
    refine List.map_congr_left fun w _ => ?_
    simp only [Function.comp, ef, ex]
  refine ⟨f.get k.o (by simp [nj1, nj2]), by rw [mt]; exact f.get k.t (by simp [nd1, nd2]), fun w hw => ?_, rfl, by rw [mf]; exact k.nk, by rw [mx]; exact k.nx, by rw [mb]; exact k.nb, k.sj, k.sd, fun w hw => ?_, fun i hi => Nat.lt_of_lt_of_le (k.lt i hi) f.le, fun w hw => ?_⟩
  · obtain ⟨v, hv, rfl⟩ := List.mem_map.mp hw
    by_cases c : v.f = z.f
    · have := mem_uniq k.nk hv hz c
      subst this
      rw [if_pos rfl]
      exact hB
    · rw [if_neg c]
      have qv := k.e v hv
      have n1 : v.x ≠ z.x := fun e => c (by rw [mem_uniq k.nx hv hz e])
      have n2 : v.b ≠ z.b := fun e => c (by rw [mem_uniq k.nb hv hz e])
      have n3 : v.x ≠ z.b := by
        intro e
        have h1 := qv.o
        rw [e, q.d] at h1
        cases h1
      have n4 : v.b ≠ z.x := by
        intro e
        have h1 := qv.d
        rw [e, q.o] at h1
        cases h1
      exact qv.frame f (by simp [n1, n3]) (by simp [n2, n4])
  · obtain ⟨v, hv, rfl⟩ := List.mem_map.mp hw
    rw [ex, eb]
    exact k.se v hv
  · obtain ⟨v, hv, rfl⟩ := List.mem_map.mp hw
    split
    · exact hk
    · exact k.ok v hv
theorem IsM.add {A B : Hs} {j d : Nat} {J : Jn} {es : List Je} {S : List Nat} {z : Je} (k : IsM A j d J es S) (f : Fr [] A B) (kz : IsL B z.x z.b z.h) (hx : A.length ≤ z.x) (hb : A.length ≤ z.b) (hf : z.f ∉ es.map Je.f) (ok : z.h.Ok) :
    IsM (B.set d (.dic true false (jt (es ++ [z])))) j d { J with hs := J.hs ++ [(z.f, z.h)] } (es ++ [z]) (z.x :: z.b :: S) := by
  have k1 := k.frame f (by simp)
  have hd := k.lt d k.sd
  have hd1 := lt_of_get k1.t
  have nd1 : d ≠ z.x := by omega
  have nd2 : d ≠ z.b := by omega
  have lx := lt_of_get kz.o
  have lb := lt_of_get kz.d
  refine ⟨by rw [z33 k.ne.symm]; exact k1.o, zb7 hd1, fun w hw => ?_, by rw [List.map_append, k.p]; rfl, ?_, ?_, ?_, List.mem_cons_of_mem _ (List.mem_cons_of_mem _ k.sj), List.mem_cons_of_mem _ (List.mem_cons_of_mem _ k.sd), fun w hw => ?_, fun i hi => ?_, fun w hw => ?_⟩
  · rcases List.mem_append.mp hw with h | h
    · have q := k1.e w h
      have n1 : d ≠ w.x := by rintro rfl; have := k1.t; rw [q.o] at this; cases this
      have n2 : d ≠ w.b := by rintro rfl; have := k1.t; rw [q.d] at this; cases this
      exact ⟨by rw [z33 n1]; exact q.o, by rw [z33 n2]; exact q.d⟩
    · rw [List.mem_singleton] at h
      subst h
      exact ⟨by rw [z33 nd1]; exact kz.o, by rw [z33 nd2]; exact kz.d⟩
  · rw [List.map_append, List.map_cons, List.map_nil, List.nodup_append]
    refine ⟨k.nk, by simp, fun a ha c hc => ?_⟩
    rw [List.mem_singleton] at hc
    rw [hc]
    rintro rfl
    exact hf ha
  · rw [List.map_append, List.map_cons, List.map_nil, List.nodup_append]
    refine ⟨k.nx, by simp, fun a ha c hc => ?_⟩
    rw [List.mem_singleton] at hc
    obtain ⟨w, hw, rfl⟩ := List.mem_map.mp ha
    have := k.lt _ (k.se w hw).1
    omega
  · rw [List.map_append, List.map_cons, List.map_nil, List.nodup_append]
    refine ⟨k.nb, by simp, fun a ha c hc => ?_⟩
    rw [List.mem_singleton] at hc
    obtain ⟨w, hw, rfl⟩ := List.mem_map.mp ha
    have := k.lt _ (k.se w hw).2
    omega
  · rcases List.mem_append.mp hw with h | h
    · exact ⟨List.mem_cons_of_mem _ (List.mem_cons_of_mem _ (k.se w h).1), List.mem_cons_of_mem _ (List.mem_cons_of_mem _ (k.se w h).2)⟩
    · rw [List.mem_singleton] at h
      subst h
      exact ⟨List.mem_cons_self, List.mem_cons_of_mem _ List.mem_cons_self⟩
  · rw [List.length_set]
    simp only [List.mem_cons] at hi
    rcases hi with rfl | rfl | hi
    · exact lx
    · exact lb
    · exact Nat.lt_of_lt_of_le (k.lt i hi) f.le
  · rcases List.mem_append.mp hw with h | h
    · exact k.ok w h
    · rw [List.mem_singleton] at h; rw [h]; exact ok
theorem IsM.keys {A : Hs} {j d : Nat} {J : Jn} {es : List Je} {S : List Nat} (k : IsM A j d J es S) : J.hs.map Prod.fst = es.map Je.f := by
  rw [← k.p, List.map_map]; rfl

/-! the law's own joiner: what goes first -/
open DL (Bytes)
noncomputable def taL : S := (sFor (wOf wkEA (eOp oIx (eVar 1) (eC (.int 7)))) (gT [(gN 5), (gN 6)]) (sDrop (eDSetd (eOp oIx (eVar 4) (eC (.int 3))) (eOp oAdd (eOp oIx (eVar 1) (eC (.int 5))) (eVar 5)) (eVar 6))))
noncomputable def taI : S := (sSet 4 (eBD (d2_ oDSetdT) (eOp oDGet (eVar 0) (eC (dS "held"))) (aCons (eVar 3) (aCons (eLst (aCons (eVar 2) (aCons (eOp oIx (eVar 1) (eC (.int 3))) (aCons (eC .non) (aCons (eDNew false) aNil))))) aNil))))
noncomputable def taO : S := (sFor (wSeq (eCB (c1 oListT) (aCons (eOp oDGet (eVar 0) (eC (dS "held"))) aNil))) (gN 3) (sIf (tOf (eOp oGe (eOp oSub (eVar 2) (eOp oIx (eOp oDGet (eOp oDGet (eVar 0) (eC (dS "held"))) (eVar 3)) (eC (.int 0)))) (eOp oDGet (eVar 0) (eC (dS "patience"))))) (sDrop (eBD (d1_ oDPopT) (eOp oDGet (eVar 0) (eC (dS "held"))) (aCons (eVar 3) aNil))) sNx))
noncomputable def taF : S := (sSeq (sWh (tOf (eOp oGt (eCB (c1 oSum) (aCons (eLk (eOp oDGet (eVar 0) (eC (dS "held"))) (eLc (wOf wkVT (eOp oDGet (eVar 0) (eC (dS "held")))) (gN 11) tYe (eCB (c1 oLen) (aCons (eOp oIx (eVar 11) (eC (.int 3))) aNil)) [11])) aNil)) (eOp oDGet (eVar 0) (eC (dS "room"))))) (sDrop (eBD (d1_ oDPopT) (eOp oDGet (eVar 0) (eC (dS "held"))) (aCons (eOp oIx (eCB (c1 (oBest false)) (aCons (eLk (eOp oDGet (eVar 0) (eC (dS "held"))) (eLc (wOf wkIT (eOp oDGet (eVar 0) (eC (dS "held")))) (gT [(gN 12), (gN 11)]) tYe (eTup (aCons (eOp oIx (eVar 11) (eC (.int 0))) (aCons (eVar 12) aNil))) [12, 11])) aNil)) (eC (.int 1))) aNil)))) (sRet (eC .non)))
noncomputable def taM : S := (sSeq (sIf (tAn (tOf (eOp oIsNot (eOp oIx (eVar 4) (eC (.int 2))) (eC .non))) (tOf (eOp oEq (eCB (c1 oLen) (aCons (eOp oIx (eVar 4) (eC (.int 3))) aNil)) (eOp oIx (eVar 4) (eC (.int 2)))))) (sSeq (sDrop (eBD (d1_ oDPopT) (eOp oDGet (eVar 0) (eC (dS "held"))) (aCons (eVar 3) aNil))) (sSeq (sSet 10 (eCB (c1 oTuple) (aCons (eLc (wAs rg1 (aCons (eOp oIx (eVar 4) (eC (.int 2))) aNil)) (gN 9) tYe (eOp oDGet (eOp oIx (eVar 4) (eC (.int 3))) (eVar 9)) [9]) aNil))) (sRet (eOp oAdd (eSl oSl (eVar 1) oNo (oSo (eC (.int 3)))) (eTup (aCons (eOp oIx (eVar 4) (eC (.int 1))) (aCons (eOp oIx (eVar 1) (eC (.int 4))) (aCons (eC (.int 0)) (aCons (eC (.bl false)) (aCons (eVar 10) aNil)))))))))) sNx) taF)
noncomputable def taB : S := (sSeq (sIf (tOo (tOf (eVar 8)) (tAn (tOf (eOp oIsNot (eOp oIx (eVar 4) (eC (.int 2))) (eC .non))) (tOf (eOp oNe (eLk (eOp oIx (eVar 4) (eC (.int 3))) (eLc (wOf wkK (eOp oIx (eVar 4) (eC (.int 3)))) (gN 9) (tOf (eOp oGe (eVar 9) (eOp oIx (eVar 4) (eC (.int 2))))) (eVar 9) [9])) (eLst aNil))))) (sSeq (sDrop (eBD (d1_ oDPopT) (eOp oDGet (eVar 0) (eC (dS "held"))) (aCons (eVar 3) aNil))) (sRet (eC .non))) sNx) taM)
noncomputable def taE : S := (sSeq (sSet 7 (eLst (aCons (eOp oIx (eVar 4) (eC (.int 2))) (aCons (eOp oAdd (eOp oIx (eVar 1) (eC (.int 5))) (eCB (c1 oLen) (aCons (eOp oIx (eVar 1) (eC (.int 7))) aNil))) aNil)))) (sSeq (sIf (tNo (tOf (eOp oIx (eVar 1) (eC (.int 6))))) (sPut (eVar 4) (eC (.int 2)) (eOp oIx (eVar 7) (eC (.int 1)))) sNx) (sSeq (sSet 8 (eAnd (eOp oIsNot (eOp oIx (eVar 7) (eC (.int 0))) (eC .non)) (eAnd (eNot (eOp oIx (eVar 1) (eC (.int 6)))) (eOp oNe (eOp oIx (eVar 7) (eC (.int 0))) (eOp oIx (eVar 7) (eC (.int 1))))))) taB)))
theorem ta_eq : F_l_taken = mkFn 3 13 (sSeq taO (sSeq (sIf (tAn (tOf (eOp oEq (eOp oIx (eVar 1) (eC (.int 5))) (eC (.int 0)))) (tNo (tOf (eOp oIx (eVar 1) (eC (.int 6)))))) (sRet (eVar 1)) sNx) (sSeq (sSet 3 (eOp oAdd (eSl oSl (eVar 1) oNo (oSo (eC (.int 3)))) (eTup (aCons (eOp oIx (eVar 1) (eC (.int 4))) aNil)))) (sSeq taI (sSeq (sPut (eVar 4) (eC (.int 1)) (eCB (c2 oMin2) (aCons (eOp oIx (eVar 4) (eC (.int 1))) (aCons (eOp oIx (eVar 1) (eC (.int 3))) aNil)))) (sSeq taL taE)))))) := rfl
theorem heldM_ok {B : Hs} {j d : Nat} {J : Jn} {es : List Je} {S : List Nat} {a1 a2 a3 a4 a5 a6 a7 a8 a9 a10 : Option D} (k : IsM B j d J es S) (hl : es.length ≤ 100000) :
    lcL (SM.gN 11) tYe (eCB (c1 oLen) (aCons (eOp oIx (eVar 11) (eC (.int 3))) aNil)) (fun A' => A'[d]? = some (.dic true true (jt es))) [some (.ref j), a1, a2, a3, a4, a5, a6, a7, a8, a9, a10, none, none] (es.map fun z => D.ref z.x) [] (B.set d (.dic true true (jt es))) = .ok (es.map fun z => D.int (z.h.kv.length : Int)) (B.set d (.dic true true (jt es))) := by
  have hd := lt_of_get k.t
  suffices H : Rk (lcL (SM.gN 11) tYe (eCB (c1 oLen) (aCons (eOp oIx (eVar 11) (eC (.int 3))) aNil)) (fun A' => A'[d]? = some (.dic true true (jt es))) [some (.ref j), a1, a2, a3, a4, a5, a6, a7, a8, a9, a10, none, none] (es.map fun z => D.ref z.x) [] (B.set d (.dic true true (jt es)))) fun l A1 => l = es.map (fun z => D.int (z.h.kv.length : Int)) ∧ A1 = B.set d (.dic true true (jt es)) by
    obtain ⟨_, _, e, rfl, rfl⟩ := H.ex
    exact e
  refine (lc_run (gd := fun A' => A'[d]? = some (.dic true true (jt es))) (fun i acc E => acc = (es.take i).map (fun z => D.int (z.h.kv.length : Int)) ∧ E = B.set d (.dic true true (jt es))) (ds := es.map fun z => D.ref z.x) ⟨by simp, rfl⟩ (by rw [List.length_map]; omega) (fun i l A h => by obtain ⟨_, rfl⟩ := h; exact zb7 hd) ?_).mono ?_
  · intro i y hy acc E hP
    obtain ⟨rfl, rfl⟩ := hP
    rw [List.getElem?_map] at hy
    obtain ⟨z, hz, rfl⟩ := Option.map_eq_some_iff.mp hy
    have hzm := List.mem_of_getElem? hz
    have q := k.e z hzm
    have n1 : d ≠ z.x := by rintro rfl; have := k.t; rw [q.o] at this; cases this
    have n2 : d ≠ z.b := by rintro rfl; have := k.t; rw [q.d] at this; cases this
    have o1 : (B.set d (.dic true true (jt es)))[z.x]? = some (.lst [.int z.h.since, .int z.h.life, oI z.h.en, .ref z.b]) := by rw [z33 n1]; exact q.o
    have o2 : (B.set d (.dic true true (jt es)))[z.b]? = some (.dic false false (kd z.h.kv)) := by rw [z33 n2]; exact q.d
    show Got _ _
    simp_arith [o1, o2, len_kd]
    rw [List.take_succ, hz, Option.toList_some, List.map_append]
    rfl
  · rintro l E ⟨h1, h2⟩
    rw [List.length_map, List.take_length] at h1
    exact ⟨h1, h2⟩
theorem pairsM_ok {B : Hs} {j d : Nat} {J : Jn} {es : List Je} {S : List Nat} {a1 a2 a3 a4 a5 a6 a7 a8 a9 a10 : Option D} (k : IsM B j d J es S) (hl : es.length ≤ 100000) :
    lcL (gT [(SM.gN 12), (SM.gN 11)]) tYe (eTup (aCons (eOp oIx (eVar 11) (eC (.int 0))) (aCons (eVar 12) aNil))) (fun A' => A'[d]? = some (.dic true true (jt es))) [some (.ref j), a1, a2, a3, a4, a5, a6, a7, a8, a9, a10, none, none] (es.map fun z => D.tup [fD z.f, .ref z.x]) [] (B.set d (.dic true true (jt es))) = .ok (es.map kd1) (B.set d (.dic true true (jt es))) := by
  have hd := lt_of_get k.t
  suffices H : Rk (lcL (gT [(SM.gN 12), (SM.gN 11)]) tYe (eTup (aCons (eOp oIx (eVar 11) (eC (.int 0))) (aCons (eVar 12) aNil))) (fun A' => A'[d]? = some (.dic true true (jt es))) [some (.ref j), a1, a2, a3, a4, a5, a6, a7, a8, a9, a10, none, none] (es.map fun z => D.tup [fD z.f, .ref z.x]) [] (B.set d (.dic true true (jt es)))) fun l A1 => l = es.map kd1 ∧ A1 = B.set d (.dic true true (jt es)) by
    obtain ⟨_, _, e, rfl, rfl⟩ := H.ex
    exact e
  refine (lc_run (gd := fun A' => A'[d]? = some (.dic true true (jt es))) (fun i acc E => acc = (es.take i).map kd1 ∧ E = B.set d (.dic true true (jt es))) (ds := es.map fun z => D.tup [fD z.f, .ref z.x]) ⟨by simp, rfl⟩ (by rw [List.length_map]; omega) (fun i l A h => by obtain ⟨_, rfl⟩ := h; exact zb7 hd) ?_).mono ?_
  · intro i y hy acc E hP
    obtain ⟨rfl, rfl⟩ := hP
    rw [List.getElem?_map] at hy
    obtain ⟨z, hz, rfl⟩ := Option.map_eq_some_iff.mp hy
    have hzm := List.mem_of_getElem? hz
    have q := k.e z hzm
    have n1 : d ≠ z.x := by rintro rfl; have := k.t; rw [q.o] at this; cases this
    have o1 : (B.set d (.dic true true (jt es)))[z.x]? = some (.lst [.int z.h.since, .int z.h.life, oI z.h.en, .ref z.b]) := by rw [z33 n1]; exact q.o
    show Got _ _
    simp_arith [o1]
    rw [List.take_succ, hz, Option.toList_some, List.map_append]
    rfl
  · rintro l E ⟨h1, h2⟩
    rw [List.length_map, List.take_length] at h1
    exact ⟨h1, h2⟩
theorem firstM_ok {B : Hs} {j d : Nat} {J : Jn} {es : List Je} {S : List Nat} {a1 a2 a3 a4 a5 a6 a7 a8 a9 a10 : Option D} (k : IsM B j d J es S) (hl : es.length ≤ 90000) (hr : 0 ≤ J.room) : Rk (finR (taF [some (.ref j), a1, a2, a3, a4, a5, a6, a7, a8, a9, a10, none, none] B)) fun v A1 => v = .non ∧ ∃ es2, IsM A1 j d { J with hs := fgo J.room J.hs } es2 S ∧ es2.length ≤ es.length ∧ Fr [d] B A1 := by
  unfold taF
  simp_arith []
  refine wh_go (fun n e C => ∃ es', n = es'.length ∧ e = [some (.ref j), a1, a2, a3, a4, a5, a6, a7, a8, a9, a10, none, none] ∧ IsM C j d { J with hs := es'.map fun z => (z.f, z.h) } es' S ∧ fgo J.room (es'.map fun z => (z.f, z.h)) = fgo J.room J.hs ∧ es'.length ≤ es.length ∧ Fr [d] B C) (fun rs => Rk (finR (seqR rs _)) _) (n := es.length) ⟨es, rfl, rfl, by rw [k.p]; exact k, by rw [k.p], Nat.le_refl _, .refl⟩ ?_
  rintro n e C ⟨es', rfl, rfl, kC, hfg, hle, fC⟩
  have o1 := kC.o
  have t1 := kC.t
  have hd := lt_of_get t1
  have key := heldM_ok (a1 := a1) (a2 := a2) (a3 := a3) (a4 := a4) (a5 := a5) (a6 := a6) (a7 := a7) (a8 := a8) (a9 := a9) (a10 := a10) kC (by omega)
  have hs := held_sum (hs := es'.map fun z => (z.f, z.h)) (es := es') rfl
  unfold mkv at o1
  obtain ⟨C1, hC1⟩ : ∃ C1, C1 = C.set d (.dic true true (jt es')) := ⟨_, rfl⟩
  have oC : C1[j]? = some (.dic false false [(dS "patience", .int J.pat), (dS "room", .int J.room), (dS "held", .ref d)]) := by rw [hC1, z33 kC.ne.symm]; exact o1
  have tC : C1[d]? = some (.dic true true (jt es')) := by rw [hC1]; exact zb7 hd
  have lC : C1.length = C.length := by rw [hC1]; simp
  have uC : (C1 ++ [O.lst (es'.map fun (z : Je) => D.int (z.h.kv.length : Int))])[d]? = some (.dic true true (jt es')) := get_push tC
  have ei : intsOf (es'.map fun z => D.int (z.h.kv.length : Int)) = some (es'.map fun z => (z.h.kv.length : Int)) := by
    have := z0h (es'.map fun z => (z.h.kv.length : Int))
    rwa [List.map_map] at this
  rw [← hC1] at key
  have eF : (C1 ++ [O.lst (es'.map fun (z : Je) => D.int (z.h.kv.length : Int))]).set d (.dic true false (jt es')) = C ++ [O.lst (es'.map fun (z : Je) => D.int (z.h.kv.length : Int))] := by
    rw [hC1, List.set_append_left _ _ (by simpa using hd), List.set_set, set_same t1]
  obtain ⟨G, hG⟩ : ∃ G, G = C ++ [O.lst (es'.map fun (z : Je) => D.int (z.h.kv.length : Int))] := ⟨_, rfl⟩
  have kG : IsM G j d { J with hs := es'.map fun z => (z.f, z.h) } es' S := by rw [hG]; exact kC.frame (s := []) .push (by simp)
  have vC : G[C1.length]? = some (.lst (es'.map fun (z : Je) => D.int (z.h.kv.length : Int))) := by rw [hG, lC]; exact zah
  have oG := kG.o
  have tG := kG.t
  unfold mkv at oG
  rw [← hG] at eF
  by_cases c : J.room < (es'.map fun z => (z.h.kv.length : Int)).sum
  · have hne : 0 < es'.length := by
      cases es' with
      | nil => simp at c; omega
      | cons z es' => simp
    obtain ⟨G1, hG1⟩ : ∃ G1, G1 = G.set d (.dic true true (jt es')) := ⟨_, rfl⟩
    have hdG := lt_of_get tG
    have tG1 : G1[d]? = some (.dic true true (jt es')) := by rw [hG1]; exact zb7 hdG
    have oG1 : G1[j]? = some (.dic false false [(dS "patience", .int J.pat), (dS "room", .int J.room), (dS "held", .ref d)]) := by rw [hG1, z33 kG.ne.symm]; exact oG
    have lG1 : G1.length = G.length := by rw [hG1]; simp
    have key2 := pairsM_ok (a1 := a1) (a2 := a2) (a3 := a3) (a4 := a4) (a5 := a5) (a6 := a6) (a7 := a7) (a8 := a8) (a9 := a9) (a10 := a10) kG (by omega)
    rw [← hG1] at key2
    have uG : (G1 ++ [O.lst (es'.map kd1)])[d]? = some (.dic true true (jt es')) := get_push tG1
    have eG : (G1 ++ [O.lst (es'.map kd1)]).set d (.dic true false (jt es')) = G ++ [O.lst (es'.map kd1)] := by
      rw [hG1, List.set_append_left _ _ (by simpa using hdG), List.set_set, set_same tG]
    obtain ⟨z, hz, ez⟩ := best_ok (B := G ++ [O.lst (es'.map kd1)]) (r := G1.length) (es := es') (by rw [lG1]; exact zah) hne
    have hzm := List.mem_of_getElem? hz
    have kH : IsM (G ++ [O.lst (es'.map kd1)]) j d { J with hs := es'.map fun z => (z.f, z.h) } es' S := kG.frame (s := []) .push (by simp)
    have tH := kH.t
    have pB := z97 (A := G ++ [O.lst (es'.map kd1)]) (i := d) fD_ok (jt_get kH.nk hzm)
    rw [jt_del] at pB
    have ez : oBest false (.ref G1.length) (G ++ [O.lst (es'.map kd1)]) = .ok (.tup [.int z.h.since, fD z.f]) (G ++ [O.lst (es'.map kd1)]) := ez
    simp_arith [o1, t1, ← hC1, oC, tC, jt_vals, key, uC, eF, vC, oG, ei, c, tG, ← hG1, tG1, oG1, jt_items, key2, uG, eG, ez, tH, pB]
    have hlen := filter_len (f := z.f) kC.nk (List.mem_map.mpr ⟨z, hzm, rfl⟩)
    refine ⟨(es'.filter fun w => decide (w.f ≠ z.f)).length, by omega, es'.filter fun w => decide (w.f ≠ z.f), rfl, kH.sub (es2 := es'.filter fun w => decide (w.f ≠ z.f)) List.filter_sublist, ?_, by omega, ?_⟩
    · rw [← hfg, wo_es]
      unfold fgo
      have e1 : (es'.map fun z => (z.f, z.h)).length = (wo (es'.map fun z => (z.f, z.h)) z.f).length + 1 := by
        rw [← wo_es, List.length_map, List.length_map]; omega
      rw [e1]
      conv => rhs; unfold fgoN
      rw [if_pos (by rw [← hs]; exact c), List.getElem?_map, hz]
      rfl
    · rw [hG]
      exact (((fC.then_push).then_push).then_set (.inl (by simp)))
  · simp_arith [o1, t1, ← hC1, oC, tC, jt_vals, key, uC, eF, vC, oG, ei, c]
    refine ⟨es', ?_, hle, by rw [hG]; exact fC.then_push⟩
    rw [← hfg, fgo_small (by rw [← hs]; omega)]
    exact kG

/-! the law's own joiner: what is too old -/
open DL (Bytes)
theorem oldM_ok {A : Hs} {j d : Nat} {J : Jn} {es : List Je} {S : List Nat} {tick : Int} {r : D} (k : IsM A j d J es S) (hl : es.length ≤ 100000) (K : SM.S) (P : D → Hs → Prop)
    (hk : ∀ B o2 es2, IsM B j d { J with hs := old J.pat tick J.hs } es2 S → es2.length ≤ es.length → Fr [d] A B → Rk (finR (K [some (.ref j), some r, some (.int tick), o2, none, none, none, none, none, none, none, none, none] B)) P) : Rk (finR (seqR (taO [some (.ref j), some r, some (.int tick), none, none, none, none, none, none, none, none, none, none] A) K)) P := by
  have o1 := k.o
  have t1 := k.t
  unfold mkv at o1
  have hlen : ((jt es).map Prod.fst).length ≤ 16000000 := by rw [List.length_map, jt_len]; omega
  unfold taO
  simp_arith [o1, t1]
  have hd := lt_of_get t1
  rw [jt_keys]
  obtain ⟨L, hL⟩ : ∃ L, L = A.length := ⟨_, rfl⟩
  rw [← hL]
  refine for_go (R := fun rs => Rk (finR (seqR rs K)) P) (fun i e B => ∃ o2, e = [some (.ref j), some r, some (.int tick), o2, none, none, none, none, none, none, none, none, none] ∧ IsM B j d { J with hs := ((es.take i).filter (fun z => decide (tick - z.h.since < J.pat)) ++ es.drop i).map fun z => (z.f, z.h) } ((es.take i).filter (fun z => decide (tick - z.h.since < J.pat)) ++ es.drop i) S ∧ B[L]? = some (.lst (es.map fun z => fD z.f)) ∧ Fr [d] A B)
    ⟨none, rfl, ?_, by rw [hL]; exact zah, .push⟩ (fun i e B _ h => ?_) ?_ ?_
  · rw [List.take_zero, List.filter_nil, List.nil_append, List.drop_zero, k.p]
    exact k.frame (s := []) .push (by simp)
  · obtain ⟨_, _, _, h, _⟩ := h
    exact h
  · rintro i _ B y hy ⟨o2, rfl, kB, hB, fB⟩
    rw [List.getElem?_map] at hy
    obtain ⟨z, hz, rfl⟩ := Option.map_eq_some_iff.mp hy
    have hi := lt_of_get hz
    have ez : es.drop i = z :: es.drop (i + 1) := by
      rw [List.drop_eq_getElem_cons hi]
      congr 1
      rw [List.getElem?_eq_getElem hi] at hz
      exact Option.some.inj hz
    have hzm : z ∈ (es.take i).filter (fun z => decide (tick - z.h.since < J.pat)) ++ es.drop i := List.mem_append_right _ (by rw [ez]; exact List.mem_cons_self)
    have hst := old_step (keep := fun z => decide (tick - z.h.since < J.pat)) k.nk hz
    have oB := kB.o
    have tB := kB.t
    have zB := (kB.e z hzm).o
    have gB := jt_get kB.nk hzm
    unfold mkv at oB
    have nL : d ≠ L := by omega
    have etk : es.take (i + 1) = es.take i ++ [z] := by rw [List.take_succ, hz]; rfl
    show Got _ _
    by_cases q : J.pat ≤ tick - z.h.since
    · have ekeep : (es.take (i + 1)).filter (fun z => decide (tick - z.h.since < J.pat)) = (es.take i).filter (fun z => decide (tick - z.h.since < J.pat)) := by
        rw [etk, List.filter_append, List.filter_cons_of_neg (by simp; omega), List.filter_nil, List.append_nil]
      have pB := z97 (A := B) (i := d) fD_ok gB
      rw [jt_del, hst] at pB
      simp_arith [oB, tB, gB, zB, q, fD_ok, pB]
      refine ⟨_, rfl, ?_, ?_, fB.then_set (.inl (by simp))⟩
      · rw [ekeep, ← hst]
        exact kB.sub (List.filter_sublist)
      · first | exact hB | (rw [z33 nL]; exact hB)
    · have ekeep : (es.take (i + 1)).filter (fun z => decide (tick - z.h.since < J.pat)) = (es.take i).filter (fun z => decide (tick - z.h.since < J.pat)) ++ [z] := by
        rw [etk, List.filter_append, List.filter_cons_of_pos (by simp; omega), List.filter_nil]
      simp_arith [oB, tB, gB, zB, q, fD_ok]
      refine ⟨_, rfl, ?_, hB, fB⟩
      rw [ekeep, List.append_assoc, List.singleton_append, ← ez]
      exact kB
  · rintro _ B ⟨o2, rfl, kB, hB, fB⟩
    rw [List.length_map, List.take_length, List.drop_length, List.append_nil] at kB
    have e : old J.pat tick J.hs = (es.filter fun z => decide (tick - z.h.since < J.pat)).map fun z => (z.f, z.h) := by
      unfold old
      rw [← k.p, List.filter_map]
      rfl
    refine hk B o2 (es.filter fun z => decide (tick - z.h.since < J.pat)) ?_ (List.length_filter_le _ _) fB
    rw [e]
    exact kB

/-! the law's own joiner: a piece held -/
open DL (Bytes)
theorem ensM_ok {B : Hs} {j d : Nat} {J : Jn} {es : List Je} {S : List Nat} {p : Pq} {tick : Int} (k : IsM B j d J es S) (hp : p.Ok) (hl : es.length ≤ 50000) :
    ∃ B' es2 S2 z, taI [some (.ref j), some p.row, some (.int tick), some (fD p.four), none, none, none, none, none, none, none, none, none] B = .nx [some (.ref j), some p.row, some (.int tick), some (fD p.four), some (.ref z.x), none, none, none, none, none, none, none, none] B' ∧ IsM B' j d { J with hs := ens J.hs p tick } es2 S2 ∧ es2.length ≤ es.length + 1 ∧ z ∈ es2 ∧ z.f = p.four ∧ z.h = hen J.hs p tick ∧ Fr [d] B B' ∧ (∀ i ∈ S2, i ∈ S ∨ B.length ≤ i) ∧ ∀ i ∈ S, i ∈ S2 := by
  have o1 := k.o
  have t1 := k.t
  have er : p.row = .tup [.int p.s, .int p.t, .int p.k, .int p.l, .int p.n, .int p.f, .bl p.m, .tup (p.d.map D.int)] := rfl
  unfold mkv at o1
  have hkeys := k.keys
  have hjl : (jt es).length < 16000000 := by rw [jt_len]; omega
  obtain ⟨L, hL⟩ : ∃ L, L = B.length := ⟨_, rfl⟩
  have hd := lt_of_get t1
  have t2 : (B ++ [O.dic false false []] ++ [O.lst [.int tick, .int p.l, .non, .ref L]])[d]? = some (.dic true false (jt es)) := get_push (get_push t1)
  unfold taI
  rw [er]
  cases c : J.hs.lookup p.four with
  | some h0 =>
    have hm : p.four ∈ es.map Je.f := by
      rw [← hkeys]
      by_cases w : p.four ∈ J.hs.map Prod.fst
      · exact w
      · rw [look_not w] at c; cases c
    obtain ⟨z, hz, hzf⟩ := List.mem_map.mp hm
    have g1 := jt_get k.nk hz
    rw [hzf] at g1
    have hz0 : J.hs.lookup p.four = some z.h := look_mem (by rw [hkeys]; exact k.nk) (by rw [← k.p]; exact List.mem_map.mpr ⟨z, hz, by rw [hzf]⟩)
    rw [c] at hz0
    cases hz0
    have e1 : ens J.hs p tick = J.hs := by unfold ens; rw [c]
    have e2 : hen J.hs p tick = z.h := by unfold hen; rw [c]; rfl
    rw [e1, e2]
    have fB : Fr [] B (B ++ [O.dic false false []] ++ [O.lst [.int tick, .int p.l, .non, .ref L]]) := Fr.push.then_push
    refine ⟨B ++ [O.dic false false []] ++ [O.lst [.int tick, .int p.l, .non, .ref L]], es, S, z, ?_, k.frame fB (by simp), by omega, hz, hzf, rfl, fB.mono (by simp), fun i hi => .inl hi, fun i hi => hi⟩
    have ds := z85 (A := B ++ [O.dic false false []] ++ [O.lst [.int tick, .int p.l, .non, .ref L]]) (i := d) (z := .ref (L + 1)) fD_ok hjl g1
    simp_arith [o1, t1, ← hL, t2, ds]
  | none =>
    have hm : p.four ∉ es.map Je.f := by
      rw [← hkeys]
      intro w
      obtain ⟨x, hx, e⟩ := List.mem_map.mp w
      have : ∃ v, J.hs.lookup p.four = some v := ⟨x.2, look_mem (v := x.2) (by rw [hkeys]; exact k.nk) (by rw [← e]; exact hx)⟩
      obtain ⟨v, hv⟩ := this
      rw [c] at hv; cases hv
    have g1 := jt_not hm
    have put : kput (jt es) (fD p.four) (.ref (L + 1)) = jt (es ++ [⟨p.four, ⟨tick, p.l, none, []⟩, L + 1, L⟩]) := jt_put (z := ⟨p.four, ⟨tick, p.l, none, []⟩, L + 1, L⟩) hm
    have fB : Fr [] B (B ++ [O.dic false false []] ++ [O.lst [.int tick, .int p.l, .non, .ref L]]) := Fr.push.then_push
    have kz : IsL (B ++ [O.dic false false []] ++ [O.lst [.int tick, .int p.l, .non, .ref L]]) (L + 1) L ⟨tick, p.l, none, []⟩ := ⟨by rw [hL]; exact getp (by simp), by rw [hL]; exact get_push zah⟩
    have ad := k.add (z := ⟨p.four, ⟨tick, p.l, none, []⟩, L + 1, L⟩) fB kz (by show B.length ≤ L + 1; omega) (by show B.length ≤ L; omega) hm ⟨hp.l, ⟨.nil, fun z hz => (by cases hz), fun z hz => (by cases hz)⟩, fun e h => (by cases h)⟩
    have e2 : ens J.hs p tick = J.hs ++ [(p.four, ⟨tick, p.l, none, []⟩)] := by unfold ens; rw [c]
    have e3 : hen J.hs p tick = ⟨tick, p.l, none, []⟩ := by unfold hen; rw [c]; rfl
    rw [e2, e3]
    refine ⟨_, _, _, ⟨p.four, ⟨tick, p.l, none, []⟩, L + 1, L⟩, ?_, ad, by simp, List.mem_append_right _ List.mem_cons_self, rfl, rfl, (fB.mono (by simp)).then_set (.inl (by simp)), fun i hi => ?_, fun i hi => List.mem_cons_of_mem _ (List.mem_cons_of_mem _ hi)⟩
    · have ds := z7r (A := B ++ [O.dic false false []] ++ [O.lst [.int tick, .int p.l, .non, .ref L]]) (i := d) (z := .ref (L + 1)) fD_ok hjl g1
      rw [put] at ds
      simp_arith [o1, t1, ← hL, t2, ds]
    · simp only [List.mem_cons] at hi
      rcases hi with rfl | rfl | hi
      · exact .inr (by omega)
      · exact .inr (by omega)
      · exact .inl hi
theorem loopM_ok {A : Hs} {x b : Nat} {h : Jh} {p : Pq} {a0 a2 a3 : Option D} (k : IsL A x b h) (hp : p.Ok) (hkv : Kv h.kv) (K : SM.S) (P : D → Hs → Prop)
    (hk : ∀ B o5 o6, IsL B x b { h with kv := sds h.kv p.f p.d } → Fr [x, b] A B → Rk (finR (K [a0, some p.row, a2, a3, some (.ref x), o5, o6, none, none, none, none, none, none] B)) P) :
    Rk (finR (seqR (taL [a0, some p.row, a2, a3, some (.ref x), none, none, none, none, none, none, none, none] A) K)) P := by
  have hL : (p.d.length : Int) ≤ 1000 := by have := hp.dl; have := hp.f; omega
  have er : p.row = .tup [.int p.s, .int p.t, .int p.k, .int p.l, .int p.n, .int p.f, .bl p.m, .tup (p.d.map D.int)] := rfl
  have hkl := hkv.len
  rw [er] at hk ⊢
  unfold taL
  simp_arith []
  refine for_go (R := fun rs => Rk (finR (seqR rs K)) P) (fun i e B => ∃ o5 o6, e = [a0, some (.tup [.int p.s, .int p.t, .int p.k, .int p.l, .int p.n, .int p.f, .bl p.m, .tup (p.d.map D.int)]), a2, a3, some (.ref x), o5, o6, none, none, none, none, none, none] ∧ IsL B x b { h with kv := sds h.kv p.f (p.d.take i) } ∧ Fr [x, b] A B) ⟨none, none, rfl, by rw [List.take_zero]; exact k, .refl⟩ (fun _ _ _ _ _ => trivial) ?_ ?_
  · rintro i _ B dd hdd ⟨o5, o6, rfl, kB, fB⟩
    obtain ⟨y2, hy, rfl⟩ := enumL_get hdd
    rw [List.getElem?_map] at hy
    obtain ⟨z, hz, rfl⟩ := Option.map_eq_some_iff.mp hy
    have hj := lt_of_get hz
    have o1 := kB.o
    have o2' := kB.d
    have hs1 := sds_len (l := p.d.take i) (kv := h.kv) (p := p.f)
    rw [List.length_take] at hs1
    obtain ⟨v, ev⟩ := setd_kd (p := p.f + (i : Int)) (y := z) o2' (by
      have kk : Kv (sds h.kv p.f (p.d.take i)) := hkv.sds hp.f.1 (by rw [List.length_take]; have := hp.dl; omega) fun w hw => hp.b w (List.mem_of_mem_take hw)
      exact kk.len)
    show Got _ _
    simp_arith [o1, o2', ev]
    refine ⟨_, _, rfl, ⟨?_, ?_⟩, fB.then_set (.inl (by simp))⟩
    · rw [z33 (kB.ne.symm)]; exact kB.o
    · rw [zb7 (lt_of_get o2'), List.take_succ, hz, Option.toList_some, sds_snoc, List.length_take, Nat.min_eq_left (by omega)]
  · rintro _ B ⟨o5, o6, rfl, kB, fB⟩
    rw [enumL_len, List.length_map, List.take_length] at kB
    exact hk B o5 o6 kB fB

/-! the law's own joiner: what it tells -/
open DL (Bytes)
def rv : Option Pq → D
  | none => .non
  | some p => p.row
def geL (e : Int) : D → Bool
  | .int i => decide (e ≤ i)
  | _ => false
theorem geL_nil {e : Int} {kv : List (Int × Int)} (h0 : 0 ≤ e) : (((kd kv).map Prod.fst).filter (geL e) = []) ↔ mxp kv < e := by
  rw [keys_kd, List.filter_eq_nil_iff]
  constructor
  · intro h
    unfold mxp
    split
    · omega
    · rename_i hne
      have := (mx_ok (l := kv.map Prod.fst) (by simpa using hne)).1
      have := h _ (List.mem_map.mpr ⟨_, this, rfl⟩)
      have : ¬ decide (e ≤ mx (kv.map Prod.fst)) = true := this
      simp only [decide_eq_true_eq] at this
      omega
  · intro h x hx
    obtain ⟨i, hi, rfl⟩ := List.mem_map.mp hx
    have hne : kv ≠ [] := by rintro rfl; cases hi
    unfold mxp at h
    rw [if_neg hne] at h
    have := (mx_ok (l := kv.map Prod.fst) (by simpa using hne)).2 _ hi
    show ¬ decide (e ≤ i) = true
    simp only [decide_eq_true_eq]
    omega
theorem placesM_ok {B : Hs} {x b : Nat} {h : Jh} {e : Int} {a0 a1 a2 a3 a5 a6 a7 a8 : Option D} (k : IsL B x b h) (hkv : Kv h.kv) (he : h.en = some e) :
    lcL (SM.gN 9) (tOf (eOp oGe (eVar 9) (eOp oIx (eVar 4) (eC (.int 2))))) (eVar 9) (fun A' => A'[b]? = some (.dic false true (kd h.kv))) [a0, a1, a2, a3, some (.ref x), a5, a6, a7, a8, none, none, none, none] ((kd h.kv).map Prod.fst) [] (B.set b (.dic false true (kd h.kv))) = .ok (((kd h.kv).map Prod.fst).filter (geL e)) (B.set b (.dic false true (kd h.kv))) := by
  have hb := lt_of_get k.d
  have o1 : (B.set b (.dic false true (kd h.kv)))[x]? = some (.lst [.int h.since, .int h.life, .int e, .ref b]) := by
    rw [z33 k.ne.symm, k.o, he]
    rfl
  rw [lc_go (geL e) id (zb7 hb) (by rw [List.length_map, len_kd]; have := hkv.len; omega)]
  · rw [List.map_id]
  · intro d hd
    rw [keys_kd] at hd
    obtain ⟨i, hi, rfl⟩ := List.mem_map.mp hd
    show Got _ _
    simp_arith [o1]
    first | exact ⟨rfl, rfl, fun _ => rfl⟩ | exact ⟨rfl, fun _ => rfl⟩ | (unfold geL; trivial) | trivial
theorem dataM_ok {B : Hs} {x b : Nat} {h : Jh} {e : Int} {a0 a1 a2 a3 a5 a6 a7 a8 : Option D} (k : IsL B x b h) (hh : h.Ok) (he : h.en = some e) (hb : mxp h.kv < e) (hl : (h.kv.length : Int) = e) :
    lcL (SM.gN 9) tYe (eOp oDGet (eOp oIx (eVar 4) (eC (.int 3))) (eVar 9)) tt [a0, a1, a2, a3, some (.ref x), a5, a6, a7, a8, none, none, none, none] (rgL 0 1 e.toNat) [] B = .ok ((dataK h.kv e.toNat).map D.int) B := by
  have h1 := hh.en e he
  have o1 := k.o
  have o2 := k.d
  rw [lc_go (fun _ => true) (fun d => match d with | .int i => .int ((h.kv.lookup i).getD 0) | _ => .non) trivial (by rw [rgL_len]; omega)]
  · rw [List.filter_eq_self.mpr (by simp)]
    congr 1
    unfold dataK
    rw [List.map_map]
    unfold rgL
    rw [List.map_map]
    refine List.map_congr_left fun i _ => ?_
    simp only [Function.comp]
    rw [show (0 : Int) + (i : Int) * 1 = (i : Int) by omega]
  · intro d hd
    obtain ⟨i, hi, rfl⟩ := mem_rgL hd
    obtain ⟨y, hy, _⟩ := full_ hh.kv hb hl i hi
    have e0 : (0 : Int) + (i : Int) * 1 = (i : Int) := by omega
    rw [e0]
    have g : kget (kd h.kv) (.int (i : Int)) = some (.int y) := by rw [kget_kd, hy]; rfl
    show Got _ _
    simp_arith [o1, o2, g, hy]
    first | exact fun _ => rfl | trivial | rfl

/-! lists of different lengths -/
theorem eqvAll_len : ∀ {xs ys : List PyData}, xs.length ≠ ys.length → PyData.eqvAll xs ys = false
  | [], [], h => absurd rfl h
  | [], _ :: _, _ => by simp [PyData.eqvAll]
  | _ :: _, [], _ => by simp [PyData.eqvAll]
  | x :: xs, y :: ys, h => by
    unfold PyData.eqvAll
    rw [eqvAll_len (xs := xs) (ys := ys) (by simpa using h), Bool.and_false]
theorem allSome_len {α : Type} : ∀ {l : List (Option α)} {ps : List α}, allSome l = some ps → ps.length = l.length
  | [], ps, h => by cases h; rfl
  | some a :: r, ps, h => by
    unfold allSome at h
    obtain ⟨qs, hq, rfl⟩ := Option.map_eq_some_iff.mp h
    simp [allSome_len hq]
  | none :: _, _, h => by cases h
theorem eqA_len {A : Hs} {i j : Nat} {l k : List D} (h : A[i]? = some (.lst l)) (g : A[j]? = some (.lst k)) (hn : l.length ≠ k.length) : eqA A (.ref i) (.ref j) = some false := by
  unfold eqA
  rw [py_lst h, py_lst g]
  cases q1 : allSome (l.map (pyA A 39)) with
  | none => unfold unL; simp [h, g, hn]
  | some ps =>
    cases q2 : allSome (k.map (pyA A 39)) with
    | none => unfold unL; simp [h, g, hn]
    | some qs =>
      have e1 := allSome_len q1
      have e2 := allSome_len q2
      rw [List.length_map] at e1 e2
      simp [PyData.eqv, eqvAll_len (xs := ps) (ys := qs) (by omega)]
theorem oNe_len {A : Hs} {i j : Nat} {l k : List D} (h : A[i]? = some (.lst l)) (g : A[j]? = some (.lst k)) (hn : l.length ≠ k.length) : oNe (.ref i) (.ref j) A = .ok (.bl true) A := neA_of (eqA_len h g hn)
/-! the law's own joiner: kept, told or let go -/
open DL (Bytes)
/-- what a piece does, told by the heap that it made -/
def rest_ (room : Int) (hs : List (Four × Jh)) (f : Four) (h : Jh) (u : Bool) : List (Four × Jh) × Option Pq :=
  if u = true then (wo hs f, none) else if inB h.en h.kv = false then (wo hs f, none) else if h.there = true then (wo hs f, some (h.made f)) else (fgo room hs, none)
theorem restM_ok {B : Hs} {j d : Nat} {J : Jn} {es : List Je} {S : List Nat} {z : Je} {p : Pq} {tick : Int} {u : Bool} {o5 o6 o7 : Option D} (k : IsM B j d J es S) (hz : z ∈ es) (hf : z.f = p.four) (hp : p.Ok) (hl : es.length ≤ 90000) (hr : 0 ≤ J.room) :
    Rk (finR (taB [some (.ref j), some p.row, some (.int tick), some (fD p.four), some (.ref z.x), o5, o6, o7, some (.bl u), none, none, none, none] B)) fun v A1 => v = rv (rest_ J.room J.hs p.four z.h u).2 ∧ ∃ es2, IsM A1 j d { J with hs := (rest_ J.room J.hs p.four z.h u).1 } es2 S ∧ es2.length ≤ es.length ∧ Fr S B A1 := by
  have o1 := k.o
  have t1 := k.t
  have kz := k.e z hz
  have hok := k.ok z hz
  have oz := kz.o
  have dz := kz.d
  have g1 := jt_get k.nk hz
  rw [hf] at g1
  have hSd : [d] ⊆ S := by intro i hi; rw [List.mem_singleton] at hi; rw [hi]; exact k.sd
  have er : p.row = .tup [.int p.s, .int p.t, .int p.k, .int p.l, .int p.n, .int p.f, .bl p.m, .tup (p.d.map D.int)] := rfl
  -- what is left when the packet goes
  have gone : ∀ C : Hs, Fr [] B C → dpT_ C d (fD p.four) (some (.dic true false (jt es))) = .ok (.ref z.x) (C.set d (.dic true false (jt (es.filter fun w => decide (w.f ≠ p.four))))) ∧ IsM (C.set d (.dic true false (jt (es.filter fun w => decide (w.f ≠ p.four))))) j d { J with hs := wo J.hs p.four } (es.filter fun w => decide (w.f ≠ p.four)) S ∧ Fr S B (C.set d (.dic true false (jt (es.filter fun w => decide (w.f ≠ p.four))))) := by
    intro C fC
    have kC := k.frame fC (by simp)
    have dp := z97 (A := C) (i := d) fD_ok g1
    rw [jt_del] at dp
    have pop := kC.sub (es2 := es.filter fun w => decide (w.f ≠ p.four)) List.filter_sublist
    rw [wo_es, k.p] at pop
    exact ⟨dp, pop, (fC.mono (by simp)).then_set (.inl k.sd)⟩
  have hlen := List.length_filter_le (fun w : Je => decide (w.f ≠ p.four)) es
  unfold mkv at o1
  by_cases hu : u = true
  · subst hu
    obtain ⟨dp, pop, fP⟩ := gone B .refl
    have e : rest_ J.room J.hs p.four z.h true = (wo J.hs p.four, none) := by unfold rest_; rw [if_pos rfl]
    rw [e]
    unfold taB
    simp_arith [o1, t1, dp]
    exact ⟨rfl, _, pop, hlen, fP⟩
  · have hu : u = false := by simpa using hu
    subst hu
    cases he : z.h.en with
    | none =>
      have e : rest_ J.room J.hs p.four z.h false = (fgo J.room J.hs, none) := by
        unfold rest_ Jh.there inB
        rw [he, if_neg (by decide)]
        simp only
        rw [if_neg (by decide), if_neg (by decide)]
      rw [e]
      rw [he] at oz
      unfold oI at oz
      simp only at oz
      obtain ⟨_, C, e2, rfl, es2, k2, l2, f2⟩ := (firstM_ok (a1 := some p.row) (a2 := some (.int tick)) (a3 := some (fD p.four)) (a4 := some (.ref z.x)) (a5 := o5) (a6 := o6) (a7 := o7) (a8 := some (.bl false)) (a9 := none) (a10 := none) k hl hr).ex
      unfold taB
      simp_arith [oz]
      unfold taM
      simp_arith [oz, e2]
      exact ⟨rfl, es2, k2, l2, f2.mono hSd⟩
    | some e =>
      have h0 := hok.en e he
      have key := placesM_ok (a0 := some (.ref j)) (a1 := some p.row) (a2 := some (.int tick)) (a3 := some (fD p.four)) (a5 := o5) (a6 := o6) (a7 := o7) (a8 := some (.bl false)) kz hok.kv he
      have hb := lt_of_get dz
      obtain ⟨C, hC⟩ : ∃ C, C = B.set z.b (.dic false true (kd z.h.kv)) := ⟨_, rfl⟩
      obtain ⟨L0, hL0⟩ : ∃ L0, L0 = ((kd z.h.kv).map Prod.fst).filter (geL e) := ⟨_, rfl⟩
      rw [← hL0, ← hC] at key
      have dC : C[z.b]? = some (.dic false true (kd z.h.kv)) := by rw [hC]; exact zb7 hb
      have lC : C.length = B.length := by rw [hC]; simp
      have uC : (C ++ [O.lst L0])[z.b]? = some (.dic false true (kd z.h.kv)) := get_push dC
      have eF : (C ++ [O.lst L0]).set z.b (.dic false false (kd z.h.kv)) = B ++ [O.lst L0] := by
        rw [hC, List.set_append_left _ _ (by simpa using hb), List.set_set, set_same dz]
      obtain ⟨G, hG⟩ : ∃ G, G = B ++ [O.lst L0] ++ [O.lst []] := ⟨_, rfl⟩
      have zC : C[z.x]? = some (.lst [.int z.h.since, .int z.h.life, .int e, .ref z.b]) := by
        rw [hC, z33 kz.ne.symm, kz.o, he]
        rfl
      have fG : Fr [] B G := by rw [hG]; exact Fr.push.then_push
      have lG : (B ++ [O.lst L0]).length = B.length + 1 := by simp
      have kG := k.frame fG (by simp)
      have oG := kG.o
      have tG := kG.t
      have zG := (kG.e z hz).o
      have bG := (kG.e z hz).d
      unfold mkv at oG
      rw [he] at oz zG
      unfold oI at oz zG
      simp only at oz zG
      obtain ⟨dp, pop, fP⟩ := gone G fG
      unfold taB
      by_cases c : mxp z.h.kv < e
      · have hnil : L0 = [] := by rw [hL0]; exact (geL_nil h0.1).mpr c
        have ne : oNe (.ref B.length) (.ref (B.length + 1)) G = .ok (.bl false) G := by
          rw [hG, hnil]
          exact oNe_lst (l := []) (get_push zah) (getp (by simp)) rfl
        have hin : inB z.h.en z.h.kv = true := by unfold inB; rw [he]; exact decide_eq_true c
        simp_arith [oz, dz, ← hC, dC, zC, key, uC, eF, lC, ← hG, ne]
        unfold taM
        by_cases ct : (z.h.kv.length : Int) = e
        · have ht : z.h.there = true := by unfold Jh.there; rw [he]; exact decide_eq_true ct
          have e3 : rest_ J.room J.hs p.four z.h false = (wo J.hs p.four, some (z.h.made p.four)) := by
            unfold rest_
            rw [if_neg (by decide), hin, if_neg (by decide), if_pos ht]
          rw [e3]
          have kzP : IsL (G.set d (.dic true false (jt (es.filter fun w => decide (w.f ≠ p.four))))) z.x z.b z.h := by
            have n1 : d ≠ z.x := by rintro rfl; have := k.t; rw [kz.o] at this; cases this
            have n2 : d ≠ z.b := by rintro rfl; have := k.t; rw [kz.d] at this; cases this
            exact ⟨by rw [z33 n1]; exact (kG.e z hz).o, by rw [z33 n2]; exact (kG.e z hz).d⟩
          have dat := dataM_ok (a0 := some (.ref j)) (a1 := some p.row) (a2 := some (.int tick)) (a3 := some (fD p.four)) (a5 := o5) (a6 := o6) (a7 := o7) (a8 := some (.bl false)) kzP hok he c ct
          have zP := kzP.o
          have bP := kzP.d
          rw [he] at zP
          unfold oI at zP
          simp only at zP
          obtain ⟨W, hW⟩ : ∃ W, W = G.set d (.dic true false (jt (es.filter fun w => decide (w.f ≠ p.four)))) := ⟨_, rfl⟩
          rw [← hW] at dp pop fP dat zP bP
          have zQ : (W ++ [O.lst ((dataK z.h.kv e.toNat).map D.int)])[z.x]? = some (.lst [.int z.h.since, .int z.h.life, .int e, .ref z.b]) := get_push zP
          have em : (z.h.made p.four).row = .tup [.int p.s, .int p.t, .int p.k, .int z.h.life, .int p.n, .int 0, .bl false, .tup ((dataK z.h.kv e.toNat).map D.int)] := by
            unfold Jh.made
            rw [he]
            rfl
          rw [er] at dat ⊢
          simp_arith [zG, bG, len_kd, ct, oG, tG, dp, zP, bP, dat, zQ]
          refine ⟨?_, _, pop.frame (s := []) .push (by simp), hlen, fP.then_push⟩
          show _ = (z.h.made p.four).row
          rw [em]
          rfl
        · have ht : z.h.there = false := by unfold Jh.there; rw [he]; exact decide_eq_false ct
          have e3 : rest_ J.room J.hs p.four z.h false = (fgo J.room J.hs, none) := by
            unfold rest_
            rw [if_neg (by decide), hin, if_neg (by decide), ht, if_neg (by decide)]
          rw [e3]
          obtain ⟨_, D1, e2, rfl, es2, k2, l2, f2⟩ := (firstM_ok (a1 := some p.row) (a2 := some (.int tick)) (a3 := some (fD p.four)) (a4 := some (.ref z.x)) (a5 := o5) (a6 := o6) (a7 := o7) (a8 := some (.bl false)) (a9 := none) (a10 := none) kG hl hr).ex
          simp_arith [zG, bG, len_kd, ct, e2]
          exact ⟨rfl, es2, k2, l2, (fG.mono (by simp)).trans (f2.mono hSd)⟩
      · have hne : L0.length ≠ 0 := fun q => c ((geL_nil h0.1).mp (by rw [← hL0]; exact List.length_eq_zero_iff.mp q))
        have ne : oNe (.ref B.length) (.ref (B.length + 1)) G = .ok (.bl true) G := by
          rw [hG]
          exact oNe_len (l := L0) (k := []) (get_push zah) (getp (by simp)) hne
        have hin : inB z.h.en z.h.kv = false := by unfold inB; rw [he]; exact decide_eq_false c
        have e3 : rest_ J.room J.hs p.four z.h false = (wo J.hs p.four, none) := by
          unfold rest_
          rw [if_neg (by decide), hin, if_pos rfl]
        rw [e3]
        simp_arith [oz, dz, ← hC, dC, zC, key, uC, eF, lC, ← hG, ne, oG, tG, dp]
        exact ⟨rfl, _, pop, hlen, fP⟩

/-! the law's own joiner: a row taken -/
open DL (Bytes)
theorem rest_eq1 {room : Int} {hs : List (Four × Jh)} {p : Pq} {h h3 : Jh} (hh : h.hold p = (h3, inB h3.en h3.kv)) : rest_ room (wi hs p.four h3) p.four h3 false = (tk3 room hs p (h.hold p), (tk1 hs p (h.hold p)).2) := by
  rw [hh]
  unfold rest_ tk3 tk1
  rw [if_neg (by decide), wo_wi]
  by_cases c : inB h3.en h3.kv = false
  · simp only [c, if_true]
  · have c' : inB h3.en h3.kv = true := by simpa using c
    simp only [c']
    by_cases c2 : h3.there = true
    · simp only [c2, if_true]; rfl
    · simp only [c2]; rfl
theorem rest_eq2 {room : Int} {hs : List (Four × Jh)} {p : Pq} {h h3 : Jh} (hh : (h.hold p).2 = false) : rest_ room (wi hs p.four h3) p.four h3 true = (tk3 room hs p (h.hold p), (tk1 hs p (h.hold p)).2) := by
  unfold rest_ tk3 tk1
  rw [if_pos rfl, wo_wi]
  simp only [hh, if_true]
theorem tailM_ok {B B1 : Hs} {j d : Nat} {J : Jn} {es : List Je} {S : List Nat} {z : Je} {p : Pq} {tick : Int} {o5 o6 : Option D} (k : IsM B j d J es S) (hz : z ∈ es) (hf : z.f = p.four) (hp : p.Ok) (hl : es.length ≤ 90000) (hr : 0 ≤ J.room)
    (f1 : Fr [z.x, z.b] B B1) (kz : IsL B1 z.x z.b ⟨z.h.since, min z.h.life p.l, z.h.en, sds z.h.kv p.f p.d⟩) :
    Rk (finR (taE [some (.ref j), some p.row, some (.int tick), some (fD p.four), some (.ref z.x), o5, o6, none, none, none, none, none, none] B1)) fun v A1 => v = rv (tk1 J.hs p (z.h.hold p)).2 ∧ ∃ es2, IsM A1 j d { J with hs := tk3 J.room J.hs p (z.h.hold p) } es2 S ∧ es2.length ≤ es.length ∧ Fr S B A1 := by
  have er : p.row = .tup [.int p.s, .int p.t, .int p.k, .int p.l, .int p.n, .int p.f, .bl p.m, .tup (p.d.map D.int)] := rfl
  have hS : ∀ i ∈ [z.x, z.b], i ∈ S := by
    intro i hi
    simp only [List.mem_cons, List.not_mem_nil, or_false] at hi
    rcases hi with rfl | rfl
    · exact (k.se z hz).1
    · exact (k.se z hz).2
  have fin : ∀ (u : Bool) (en : Option Int) (B3 : Hs), Fr [z.x, z.b] B B3 → IsL B3 z.x z.b ⟨z.h.since, min z.h.life p.l, en, sds z.h.kv p.f p.d⟩ → (∀ e, en = some e → 0 ≤ e ∧ e ≤ 1000) →
      (if u = true then (z.h.hold p).2 = false else z.h.hold p = (⟨z.h.since, min z.h.life p.l, en, sds z.h.kv p.f p.d⟩, inB en (sds z.h.kv p.f p.d))) →
      Rk (finR (taB [some (.ref j), some p.row, some (.int tick), some (fD p.four), some (.ref z.x), o5, o6, some (.ref B1.length), some (.bl u), none, none, none, none] B3)) fun v A1 => v = rv (tk1 J.hs p (z.h.hold p)).2 ∧ ∃ es2, IsM A1 j d { J with hs := tk3 J.room J.hs p (z.h.hold p) } es2 S ∧ es2.length ≤ es.length ∧ Fr S B A1 := by
    intro u en B3 f3 kz3 hen hu
    have hok0 := (k.ok z hz).hold hp
    have hok : Jh.Ok ⟨z.h.since, min z.h.life p.l, en, sds z.h.kv p.f p.d⟩ := by
      have a := hp.l
      have b := (k.ok z hz).life
      have c := hp.f
      have dd := hp.dl
      exact ⟨by show 0 ≤ min z.h.life p.l ∧ min z.h.life p.l ≤ 255; omega, (k.ok z hz).kv.sds c.1 (by omega) fun x hx => hp.b x hx, hen⟩
    have k3 := k.upd hz f3 kz3 hok
    rw [wi_es, k.p, hf] at k3
    obtain ⟨h3, hh3⟩ : ∃ h3 : Jh, h3 = ⟨z.h.since, min z.h.life p.l, en, sds z.h.kv p.f p.d⟩ := ⟨_, rfl⟩
    rw [← hh3] at k3
    have hz' : ({ z with h := h3 } : Je) ∈ es.map fun w => if w.f = p.four then { w with h := h3 } else w := List.mem_map.mpr ⟨z, hz, if_pos hf⟩
    have R := restM_ok (z := { z with h := h3 }) (tick := tick) (u := u) (o5 := o5) (o6 := o6) (o7 := some (.ref B1.length)) k3 hz' hf hp (by rw [List.length_map]; exact hl) hr
    have e : rest_ J.room (wi J.hs p.four h3) p.four h3 u = (tk3 J.room J.hs p (z.h.hold p), (tk1 J.hs p (z.h.hold p)).2) := by
      cases u with
      | true => rw [if_pos rfl] at hu; exact rest_eq2 hu
      | false =>
        rw [if_neg (by decide)] at hu
        refine rest_eq1 ?_
        rw [hu, hh3]
    refine R.mono ?_
    rintro v A1 ⟨hv, es2, k4, l4, f4⟩
    have hv : v = rv (rest_ J.room (wi J.hs p.four h3) p.four h3 u).2 := hv
    have k4 : IsM A1 j d { J with hs := (rest_ J.room (wi J.hs p.four h3) p.four h3 u).1 } es2 S := k4
    rw [e] at hv k4
    rw [List.length_map] at l4
    exact ⟨hv, es2, k4, l4, (f3.mono hS).trans f4⟩
  have oz := kz.o
  have oz : B1[z.x]? = some (.lst [.int z.h.since, .int (min z.h.life p.l), oI z.h.en, .ref z.b]) := oz
  have hlt := lt_of_get oz
  have hE : 0 ≤ p.f + (p.d.length : Int) ∧ p.f + (p.d.length : Int) ≤ 1000 := by have := hp.f; have := hp.dl; omega
  have hen := (k.ok z hz).en
  have dlen : ((p.d.map D.int).length : Int) = (p.d.length : Int) := by rw [List.length_map]
  -- the end set
  have put : IsL ((B1 ++ [O.lst [oI z.h.en, .int (p.f + (p.d.length : Int))]]).set z.x (.lst [.int z.h.since, .int (min z.h.life p.l), .int (p.f + (p.d.length : Int)), .ref z.b])) z.x z.b ⟨z.h.since, min z.h.life p.l, some (p.f + (p.d.length : Int)), sds z.h.kv p.f p.d⟩ :=
    ⟨zb7 (by rw [List.length_append]; omega), by rw [z33 kz.ne]; exact get_push kz.d⟩
  have fput : Fr [z.x, z.b] B ((B1 ++ [O.lst [oI z.h.en, .int (p.f + (p.d.length : Int))]]).set z.x (.lst [.int z.h.since, .int (min z.h.life p.l), .int (p.f + (p.d.length : Int)), .ref z.b])) := (f1.then_push).then_set (.inl (by simp))
  have gE : ((B1 ++ [O.lst [oI z.h.en, .int (p.f + (p.d.length : Int))]]).set z.x (.lst [.int z.h.since, .int (min z.h.life p.l), .int (p.f + (p.d.length : Int)), .ref z.b]))[B1.length]? = some (.lst [oI z.h.en, .int (p.f + (p.d.length : Int))]) := by
    rw [z33 (by omega)]; exact zah
  have gx : (B1 ++ [O.lst [oI z.h.en, .int (p.f + (p.d.length : Int))]])[z.x]? = some (.lst [.int z.h.since, .int (min z.h.life p.l), oI z.h.en, .ref z.b]) := get_push oz
  have gN_ : (B1 ++ [O.lst [oI z.h.en, .int (p.f + (p.d.length : Int))]])[B1.length]? = some (.lst [oI z.h.en, .int (p.f + (p.d.length : Int))]) := zah
  rw [er] at fin ⊢
  unfold taE
  cases hm : p.m with
  | true =>
    have hh : z.h.hold p = (⟨z.h.since, min z.h.life p.l, z.h.en, sds z.h.kv p.f p.d⟩, inB z.h.en (sds z.h.kv p.f p.d)) := by
      unfold Jh.hold
      rw [if_pos hm]
    have F := fin false z.h.en (B1 ++ [O.lst [oI z.h.en, .int (p.f + (p.d.length : Int))]]) f1.then_push (kz.frame (s := []) .push (by simp) (by simp)) hen (by rw [if_neg (by decide)]; exact hh)
    rw [hm] at F
    cases he : z.h.en with
    | none =>
      rw [he] at F gN_ oz gx
      unfold oI at F gN_ oz gx
      simp only at F gN_ oz gx
      simp_arith [oz, dlen, gN_]
      exact F
    | some e =>
      rw [he] at F gN_ oz gx
      unfold oI at F gN_ oz gx
      simp only at F gN_ oz gx
      simp_arith [oz, dlen, gN_]
      exact F
  | false =>
    cases he : z.h.en with
    | none =>
      have hh : z.h.hold p = (⟨z.h.since, min z.h.life p.l, some (p.f + (p.d.length : Int)), sds z.h.kv p.f p.d⟩, inB (some (p.f + (p.d.length : Int))) (sds z.h.kv p.f p.d)) := by
        unfold Jh.hold
        rw [if_neg (by rw [hm]; decide), he]
      have F := fin false (some (p.f + (p.d.length : Int))) _ fput put (fun e h => by cases h; exact hE) (by rw [if_neg (by decide)]; exact hh)
      rw [hm] at F
      rw [he] at F gN_ oz gx gE
      unfold oI at F gN_ oz gx gE
      simp only at F gN_ oz gx gE
      simp_arith [oz, dlen, gN_, gx, gE, List.set_cons_zero, List.set_cons_succ]
      exact F
    | some e =>
      have F := fin (!decide (e = p.f + (p.d.length : Int))) (some (p.f + (p.d.length : Int))) _ fput put (fun e h => by cases h; exact hE) (by
        by_cases q : e = p.f + (p.d.length : Int)
        · rw [if_neg (by simp [q])]
          unfold Jh.hold
          rw [if_neg (by rw [hm]; decide), he]
          simp only
          rw [if_neg (by simp [q])]
        · rw [if_pos (by simp [q])]
          unfold Jh.hold
          rw [if_neg (by rw [hm]; decide), he]
          simp only
          rw [if_pos q])
      rw [hm] at F
      rw [he] at F gN_ oz gx gE
      unfold oI at F gN_ oz gx gE
      simp only at F gN_ oz gx gE
      simp_arith [oz, dlen, gN_, gx, gE, List.set_cons_zero, List.set_cons_succ]
      exact F

/-! the law's own joiner: whole -/
open DL (Bytes)
theorem take_3 {a b c : D} {r s : List D} : List.take 3 (a :: b :: c :: r) ++ s = a :: b :: c :: s := rfl
theorem taken_whole {A : Hs} {j d : Nat} {J : Jn} {es : List Je} {S : List Nat} {p : Pq} {tick : Int} (k : IsM A j d J es S) (hw : p.f = 0 ∧ p.m = false) (hl : es.length ≤ 40000) :
    Rk (F_l_taken [.ref j, p.row, .int tick] A) fun v A1 => v = p.row ∧ ∃ es2, IsM A1 j d { J with hs := old J.pat tick J.hs } es2 S ∧ es2.length ≤ es.length ∧ Fr S A A1 := by
  have er : p.row = .tup [.int p.s, .int p.t, .int p.k, .int p.l, .int p.n, .int p.f, .bl p.m, .tup (p.d.map D.int)] := rfl
  have hSd : [d] ⊆ S := by intro i hi; rw [List.mem_singleton] at hi; rw [hi]; exact k.sd
  rw [ta_eq]
  simp_arith []
  refine oldM_ok k (by omega) _ _ fun B o3 es1 k1 l1 f1 => ?_
  rw [er, hw.1, hw.2]
  simp_arith []
  exact ⟨es1, k1, l1, f1.mono hSd⟩
theorem taken_ok {A : Hs} {j d : Nat} {J : Jn} {es : List Je} {S : List Nat} {p : Pq} {tick : Int} (k : IsM A j d J es S) (hp : p.Ok) (hw : ¬ (p.f = 0 ∧ p.m = false)) (hl : es.length ≤ 40000) (hr : 0 ≤ J.room) :
    Rk (F_l_taken [.ref j, p.row, .int tick] A) fun v A1 => v = rv (J.hs2 p tick).2 ∧ ∃ es2 S2, IsM A1 j d { J with hs := J.hs3 p tick } es2 S2 ∧ es2.length ≤ es.length + 1 ∧ Fr S A A1 ∧ ∀ i ∈ S2, i ∈ S ∨ A.length ≤ i := by
  have er : p.row = .tup [.int p.s, .int p.t, .int p.k, .int p.l, .int p.n, .int p.f, .bl p.m, .tup (p.d.map D.int)] := rfl
  have hSd : [d] ⊆ S := by intro i hi; rw [List.mem_singleton] at hi; rw [hi]; exact k.sd
  rw [ta_eq]
  simp_arith []
  refine oldM_ok k (by omega) _ _ fun B o3 es1 k1 l1 f1 => ?_
  obtain ⟨B2, es2, S2, z, e2, k2, l2, hz, hzf, hzh, f2, hS2, hSS⟩ := ensM_ok (tick := tick) k1 hp (by omega)
  have f12 := f1.trans f2
  have n2 := f12.le
  have kz := k2.e z hz
  have oz := kz.o
  have nz := lt_of_get oz
  have kz2 : IsL (B2.set z.x (.lst [.int z.h.since, .int (min z.h.life p.l), oI z.h.en, .ref z.b])) z.x z.b { z.h with life := min z.h.life p.l } := ⟨zb7 nz, by rw [z33 kz.ne]; exact kz.d⟩
  have fin : ∀ C o5 o6, IsL C z.x z.b ⟨z.h.since, min z.h.life p.l, z.h.en, sds z.h.kv p.f p.d⟩ → Fr [z.x, z.b] (B2.set z.x (.lst [.int z.h.since, .int (min z.h.life p.l), oI z.h.en, .ref z.b])) C → Rk (finR (taE [some (.ref j), some p.row, some (.int tick), some (fD p.four), some (.ref z.x), o5, o6, none, none, none, none, none, none] C)) fun v A1 => v = rv (J.hs2 p tick).2 ∧ ∃ es2 S2, IsM A1 j d { J with hs := J.hs3 p tick } es2 S2 ∧ es2.length ≤ es.length + 1 ∧ Fr S A A1 ∧ ∀ i ∈ S2, i ∈ S ∨ A.length ≤ i := by
    intro C o5 o6 kC fC
    have T := tailM_ok (tick := tick) (o5 := o5) (o6 := o6) k2 hz hzf hp (by omega) hr ((Fr.set (by simp)).trans fC) kC
    rw [hzh] at T
    refine T.mono ?_
    rintro v A1 ⟨hv, es4, k4, l4, f4⟩
    refine ⟨hv, es4, S2, k4, by omega, ?_, fun i hi => (hS2 i hi).imp id fun h => by have := f1.le; omega⟩
    refine ⟨Nat.le_trans n2 f4.le, fun i hi hn => ?_⟩
    have := f1.le
    rw [f4.2 i (by omega) (fun h => (hS2 i h).elim hn fun h => by omega), f12.2 i hi (fun h => hn (hSd h))]
  have ew : (decide (p.f = 0) && !p.m) = false := by
    cases hm : p.m with
    | true => simp
    | false => simp only [Bool.not_false, Bool.and_true, decide_eq_false_iff_not]; exact fun e => hw ⟨e, hm⟩
  have fD_u : D.tup [.int p.s, .int p.t, .int p.k, .int p.n] = fD p.four := rfl
  have L := loopM_ok (a0 := some (.ref j)) (a2 := some (.int tick)) (a3 := some (fD p.four)) (p := p) kz2 hp (k2.ok z hz).kv taE _ fin
  rw [er] at e2 L ⊢
  by_cases c : p.f = 0
  · have hm : p.m = true := by
      cases hm : p.m with
      | true => rfl
      | false => exact absurd ⟨c, hm⟩ hw
    rw [c, hm] at e2 L ⊢
    simp_arith [take_3, fD_u, e2, oz, List.set_cons_zero, List.set_cons_succ]
    exact L
  · simp_arith [c, take_3, fD_u, e2, oz, List.set_cons_zero, List.set_cons_succ]
    exact L

/-! the joiner and the law's own -/
open DL (Bytes)
theorem hold_len {h : Jh} {p p' : Pq} {hs : List (Four × Jh)} (hk : h.Ok) (hp : p.Ok) (e : (tk1 hs p (h.hold p)).2 = some p') : p'.d.length ≤ 1000 := by
  unfold tk1 at e
  split at e
  · cases e
  · split at e
    · cases e
      have ok := (hk.hold hp).en
      show (dataK (h.hold p).1.kv ((h.hold p).1.en.getD 0).toNat).length ≤ 1000
      unfold dataK
      rw [List.length_map, List.length_range]
      cases q : (h.hold p).1.en with
      | none => simp
      | some x =>
        have := ok x q
        simp only [Option.getD_some]
        omega
    · cases e
theorem hs2_len {A : Hs} {j d : Nat} {J : Jn} {es : List Je} {S : List Nat} {p p' : Pq} {tick : Int} (k : IsJ A j d J es S) (hp : p.Ok) (e : (J.hs2 p tick).2 = some p') : p'.d.length ≤ 1000 := by
  refine hold_len (h := hen (old J.pat tick J.hs) p tick) ?_ hp e
  unfold hen
  cases c : (old J.pat tick J.hs).lookup p.four with
  | none => exact ⟨hp.l, ⟨.nil, fun z hz => (by cases hz), fun z hz => (by cases hz)⟩, fun e h => (by cases h)⟩
  | some h0 =>
    have : ∃ f, (f, h0) ∈ old J.pat tick J.hs := by
      generalize old J.pat tick J.hs = L at c
      induction L with
      | nil => cases c
      | cons z L ih =>
        obtain ⟨a, b⟩ := z
        rw [List.lookup_cons] at c
        split at c
        · cases c
          exact ⟨a, List.mem_cons_self⟩
        · obtain ⟨f, hf⟩ := ih c
          exact ⟨f, List.mem_cons_of_mem _ hf⟩
    obtain ⟨f, hf⟩ := this
    have := (List.mem_filter.mp hf).1
    rw [← k.p] at this
    obtain ⟨z, hz, e2⟩ := List.mem_map.mp this
    cases e2
    exact k.ok z hz
theorem IsM.last {A : Hs} {j d : Nat} {pat room l1 l2 : Int} {hs : List (Four × Jh)} {es : List Je} {S : List Nat} (k : IsM A j d ⟨pat, room, l1, hs⟩ es S) : IsM A j d ⟨pat, room, l2, hs⟩ es S := ⟨k.o, k.t, k.e, k.p, k.nk, k.nx, k.nb, k.sj, k.sd, k.se, k.lt, k.ok⟩
structure Two (A : Hs) (jn dj m dm Z : Nat) (W : List D) (pat room last : Int) (n : Nat) : Prop where
  ex : ∃ hs es S es2 S2, IsJ A jn dj ⟨pat, room, last, hs⟩ es S ∧ IsM A m dm ⟨pat, room, last, hs⟩ es2 S2 ∧ (∀ i ∈ S, i ∉ S2) ∧ Z ∉ S ∧ Z ∉ S2 ∧ hs.length ≤ n
  z : A[Z]? = some (.lst W)
theorem Two.frame {A B : Hs} {jn dj m dm Z : Nat} {W : List D} {pat room last : Int} {n : Nat} (h : Two A jn dj m dm Z W pat room last n) {s : List Nat} (f : Fr s A B) (hs : ∀ i ∈ s, A.length ≤ i) : Two B jn dj m dm Z W pat room last n := by
  obtain ⟨hs', es, S, es2, S2, k, k2, h1, h2, h3, h4⟩ := h.ex
  exact ⟨⟨hs', es, S, es2, S2, k.frame f fun i hi hn => by have := k.lt i hi; have := hs i hn; omega, k2.frame f fun i hi hn => by have := k2.lt i hi; have := hs i hn; omega, h1, h2, h3, h4⟩, f.get h.z fun hn => by have := lt_of_get h.z; have := hs Z hn; omega⟩
theorem IsM.len {A : Hs} {j d : Nat} {J : Jn} {es : List Je} {S : List Nat} (k : IsM A j d J es S) : es.length = J.hs.length := by rw [← k.p, List.length_map]
theorem two_ok {A : Hs} {jn dj m dm Z : Nat} {W : List D} {pat room last tick : Int} {n : Nat} {p : Pq} (h : Two A jn dj m dm Z W pat room last n) (hp : p.Ok) (ht : last ≤ tick) (hn : n ≤ 1000) (hr : 0 ≤ room) :
    ∃ B v C w D' E, F_l_packet_of [p.row] A = .ok (.ref A.length) B ∧ B[jn]? = some (.obj "Joiner" (jfs pat room last dj)) ∧ F_Joiner_take [.ref jn, .ref A.length, .int tick] B = .ok v C ∧ F_l_taken [.ref m, p.row, .int tick] C = .ok w D' ∧ F_l_same [v, w] D' = .ok (.bl true) E ∧ E[A.length]? = some (.obj "Packet" p.fs) ∧ Two E jn dj m dm Z W pat room tick (n + 1) := by
  obtain ⟨_, B, e1, rfl, g1, f1⟩ := (of_ok (A := A) hp).ex
  have hB := h.frame f1 (by simp)
  obtain ⟨hs, es, S, es2, S2, k, k2, h1, h2, h3, h4⟩ := h.ex
  have hlA : ∀ i ∈ S, i < A.length := k.lt
  have hlA2 : ∀ i ∈ S2, i < A.length := k2.lt
  have kB := k.frame f1 (by simp)
  have k2B := k2.frame f1 (by simp)
  have zB := f1.get h.z (by simp)
  have n1 := f1.le
  have hZ := lt_of_get h.z
  have hqS : A.length ∉ S := fun hi => by have := hlA _ hi; omega
  have hqS2 : A.length ∉ S2 := fun hi => by have := hlA2 _ hi; omega
  have qB := lt_of_get g1
  have le1 : es.length ≤ 1000 := by rw [k.len]; show hs.length ≤ 1000; omega
  have le2 : es2.length ≤ 1000 := by rw [k2.len]; show hs.length ≤ 1000; omega
  by_cases hw : p.f = 0 ∧ p.m = false
  · obtain ⟨_, C, e2, rfl, es3, k3, l3, f3⟩ := (take_whole (tick := tick) kB g1 hqS ht (by omega) hw).ex
    have k2C := k2B.frame f3 (fun i hi hn => h1 i hn hi)
    obtain ⟨_, D', e3, rfl, es4, k4, l4, f4⟩ := (taken_whole (tick := tick) k2C hw (by omega)).ex
    have gD := f4.get (f3.get g1 hqS) hqS2
    obtain ⟨E, e5, f5⟩ := same_ok gD (by have := hp.dl; have := hp.f; omega)
    have kE := (k3.frame f4 (fun i hi hn => h1 i hi hn)).frame f5 (by simp)
    have k2E := (k4.frame f5 (by simp)).last (l2 := tick)
    refine ⟨B, _, C, _, D', E, e1, kB.o, e2, e3, e5, f5.get gD (by simp), ⟨_, es3, S, es4, S2, kE, k2E, h1, h2, h3, ?_⟩, f5.get (f4.get (f3.get zB h2) h3) (by simp)⟩
    have := kE.len
    have e : es3.length = (old pat tick hs).length := this
    have l3 : es3.length ≤ es.length := l3
    have e2 : es.length = hs.length := k.len
    show (old pat tick hs).length ≤ n + 1
    rw [← e]
    omega
  · obtain ⟨v, C, e2, T, es3, S3, k3, l3, f3, hS3⟩ := (take_okR (tick := tick) kB hp g1 hqS ht (by omega) hw hr).ex
    have k2C := k2B.frame f3 (fun i hi hn => h1 i hn hi)
    obtain ⟨_, D', e3, rfl, es4, S4, k4, l4, f4, hS4⟩ := (taken_ok (tick := tick) k2C hp hw (by omega) hr).ex
    have n3 := f3.le
    have gC := f3.get g1 hqS
    have gD := f4.get gC hqS2
    have n4 := f4.le
    have d34 : ∀ i ∈ S3, i ∉ S2 := fun i hi h => (hS3 i hi).elim (fun q => h1 i q h) fun q => by have := hlA2 i h; omega
    have d34' : ∀ i ∈ S3, i ∉ S4 := fun i hi h => (hS4 i h).elim (d34 i hi) fun q => by have := k3.lt i hi; omega
    have z3 : Z ∉ S3 := fun hi => (hS3 Z hi).elim h2 fun q => by omega
    have z4 : Z ∉ S4 := fun hi => (hS4 Z hi).elim h3 fun q => by omega
    have hs2l := fun p' => hs2_len (tick := tick) (p' := p') kB hp
    obtain ⟨E, e5, f5⟩ : ∃ E, F_l_same [v, rv ((Jn.mk pat room last hs).hs2 p tick).2] D' = .ok (.bl true) E ∧ Fr [] D' E := by
      cases q : ((Jn.mk pat room last hs).hs2 p tick).2 with
      | none =>
        rw [q] at T
        have T : v = .non := T
        subst T
        exact ⟨D', same_non, .refl⟩
      | some p' =>
        rw [q] at T
        obtain ⟨r, rfl, g2, hrl⟩ := T
        have g3 := f4.get g2 (fun hi => by have := hlA2 r hi; omega)
        exact same_ok g3 (by have := hs2l p' q; omega)
    have kE := (k3.frame f4 (fun i hi hn => d34 i hi hn)).frame f5 (by simp)
    have k2E := (k4.frame f5 (by simp)).last (l2 := tick)
    refine ⟨B, v, C, _, D', E, e1, kB.o, e2, e3, e5, f5.get gD (by simp), ⟨_, es3, S3, es4, S4, kE, k2E, d34', z3, z4, ?_⟩, f5.get (f4.get (f3.get zB h2) h3) (by simp)⟩
    have e : es3.length = ((Jn.mk pat room last hs).hs3 p tick).length := kE.len
    have e2 : es.length = hs.length := k.len
    show ((Jn.mk pat room last hs).hs3 p tick).length ≤ n + 1
    rw [← e]
    have l3 : es3.length ≤ es.length + 1 := l3
    omega
theorem pieceM_ok {A : Hs} {i : Nat} (dr : Drw A i) : Rk (F_l_piece [.ref i] A) fun v A1 => ∃ p : Pq, v = p.row ∧ p.Ok ∧ Drw A1 i ∧ Fr [i] A A1 := by
  have nA := dr.lt
  obtain ⟨v1, B1, a1, b1, e1, d1, f1⟩ := next_ok (n := 3) (dr.pushed (x := .lst ([2, 2, 3].map D.int))) (by decide) (by decide)
  have g1 : B1[A.length]? = some (.lst ([2, 2, 3].map D.int)) := f1.get zah (by rw [List.mem_singleton]; omega)
  obtain ⟨t, ht, p1⟩ := pick_i (ns := [2, 2, 3]) a1 b1
  obtain ⟨v2, B2, a2, b2, e2, d2, f2⟩ := next_ok (n := 256) d1 (by decide) (by decide)
  obtain ⟨v3, B3, a3, b3, e3, d3, f3⟩ := next_ok (n := 2) d2 (by decide) (by decide)
  obtain ⟨v4, B4, a4, b4, e4, d4, f4⟩ := next_ok (n := 12) d3 (by decide) (by decide)
  obtain ⟨v5, B5, a5, b5, e5, d5, f5⟩ := next_ok (n := 4) d4 (by decide) (by decide)
  obtain ⟨v6, B6, a6, b6, e6, d6, f6⟩ := next_ok (n := 3) (d5.pushed (x := .lst ([0, v4, 3 * v5].map D.int))) (by decide) (by decide)
  have n5 := d5.lt
  have g6 : B6[B5.length]? = some (.lst ([0, v4, 3 * v5].map D.int)) := f6.get zah (by rw [List.mem_singleton]; omega)
  obtain ⟨f, hf, p6⟩ := pick_i (ns := [0, v4, 3 * v5]) a6 b6
  have hf' : 0 ≤ f ∧ f ≤ 11 := by
    simp only [List.mem_cons, List.not_mem_nil, or_false] at hf
    omega
  obtain ⟨v7, B7, a7, b7, e7, d7, f7⟩ := next_ok (n := 10) d6 (by decide) (by decide)
  obtain ⟨v8, B8, a8, b8, e8, d8, f8⟩ := next_ok (n := 2) (d7.pushed (x := .lst ([v7, 3].map D.int))) (by decide) (by decide)
  have n7 := d7.lt
  have g8 : B8[B7.length]? = some (.lst ([v7, 3].map D.int)) := f8.get zah (by rw [List.mem_singleton]; omega)
  obtain ⟨mm, hm, p8⟩ := pick_i (ns := [v7, 3]) a8 b8
  have hm' : 0 ≤ mm ∧ mm ≤ 9 := by
    simp only [List.mem_cons, List.not_mem_nil, or_false] at hm
    omega
  have ht' : 0 ≤ t ∧ t ≤ 255 := by
    simp only [List.mem_cons, List.not_mem_nil, or_false] at ht
    omega
  simp only [List.map_cons, List.map_nil] at e1 g1 p1 e6 g6 p6 e8 g8 p8
  have fA : Fr [i] A B8 := (((((((((((Fr.refl.then_push).trans f1).trans f2).trans f3).trans f4).trans f5).then_push).trans f6).trans f7).then_push).trans f8)
  have free : ∀ o1 o2, Rk (lcL (SM.gN 4) tYe (eCall0 F_l_next (aCons (eVar 0) (aCons (eC (.int 256)) aNil))) tt [some (.ref i), o1, o2, none, none] (rgL 0 1 mm.toNat) [] B8) fun l E => ∃ bs : List Int, l = bs.map D.int ∧ Bytes bs ∧ bs.length = mm.toNat ∧ Drw E i ∧ Fr [i] B8 E := fun o1 o2 => by
    refine (lc_run (fun j acc B => ∃ bs : List Int, acc = bs.map D.int ∧ Bytes bs ∧ bs.length = j ∧ Drw B i ∧ Fr [i] B8 B) (ds := rgL 0 1 mm.toNat) ⟨[], rfl, (fun x hx => by cases hx), rfl, d8, .refl⟩ (by rw [rgL_len]; omega) (fun _ _ _ _ => trivial) ?_).mono ?_
    · intro j d hd acc B hP
      obtain ⟨rfl, hj⟩ := rgL_get hd
      obtain ⟨bs, rfl, hb, hl, dB, fB⟩ := hP
      obtain ⟨v, C1, v0, v1, e1, d1, f1⟩ := next_ok (n := 256) dB (by decide) (by decide)
      simp_arith [e1]
      refine ⟨bs ++ [v], by simp, fun x hx => ?_, by simp [hl], d1, fB.trans f1⟩
      rcases List.mem_append.mp hx with h | h
      · exact hb x h
      · rw [List.mem_singleton] at h; omega
    · rintro l B ⟨bs, h1, h2, h3, h4, h5⟩
      exact ⟨bs, h1, h2, by rw [h3, rgL_len], h4, h5⟩
  obtain ⟨l0, B9, e9, bs, rfl, hb, hbl, d9, f9⟩ := (free (some (.tup [.int 1, .int t, .int 4, .int v2, .int v3])) (some (.int f))).ex
  obtain ⟨v10, B10, a10, b10, e10, d10, f10⟩ := next_ok (n := 3) (d9.pushed (x := .lst (bs.map D.int))) (by decide) (by decide)
  unfold F_l_piece
  simp_arith [e1, g1, p1, e2, e3, e4, e5, e6, g6, p6, e7, e8, g8, p8, e9, e10, -z73]
  refine ⟨⟨1, t, 4, v2, v3, f, decide (0 < v10), bs⟩, ?_, ?_, d10, ((fA.trans f9).then_push).trans f10⟩
  · rfl
  · exact ⟨by show (0 : Int) ≤ 1 ∧ (1 : Int) ≤ 255; decide, ht', by show (0 : Int) ≤ 4 ∧ (4 : Int) ≤ 255; decide, by show 0 ≤ v2 ∧ v2 ≤ 255; omega, by show 0 ≤ v3 ∧ v3 ≤ 65535; omega, by show 0 ≤ f ∧ f ≤ 1000; omega, hb, by show (bs.length : Int) ≤ 1000 - f; omega⟩
theorem cell_ok {ns : List Int} {k : Int} {A : Hs} (hk : 0 ≤ k) : ∃ n : Int, F_l_cell_at [.scr (ns.map D.int), .int k] A = .ok (.int n) A := by
  unfold F_l_cell_at
  by_cases q : k < (ns.length : Int)
  · have h : atI (ns.map D.int) k = some (.int (ns[k.toNat]'(by omega))) := by
      rw [z73 hk, List.getElem?_map, List.getElem?_eq_getElem (by omega)]; rfl
    refine ⟨ns[k.toNat]'(by omega), ?_⟩
    simp_arith [q, h, -z73]
  · refine ⟨0, ?_⟩
    simp_arith [q]
theorem law_true (ns : List Int) (hn : ns.length ≤ 63) : ∃ A, F_law [.scr (ns.map D.int)] [] = .ok (.bl true) A := by
  suffices H : Rk (F_law [.scr (ns.map D.int)] []) fun v A => v = .bl true by
    obtain ⟨_, A, e, rfl⟩ := H.ex; exact ⟨A, e⟩
  obtain ⟨n0, e1⟩ := cell_ok (ns := ns) (k := 0) (A := []) (by decide)
  obtain ⟨_, A1, e2, rfl, d1, f1⟩ := (state_ok (p := n0) (q := 1) (A := [])).ex
  obtain ⟨v1, A2, a1, b1, e3, d2, f2⟩ := next_ok (n := 20) d1 (by decide) (by decide)
  obtain ⟨v2, A3, a2, b2, e4, d3, f3⟩ := next_ok (n := 40) d2 (by decide) (by decide)
  simp only [List.length_nil] at e2 d1 e3 d2 f2 e4 d3 f3
  obtain ⟨A4, hA4⟩ : ∃ A4, A4 = A3 ++ [O.dic true false []] ++ [O.dic false false [(dS "patience", .int (1 + v1)), (dS "room", .int (1 + v2)), (dS "held", .ref A3.length)]] := ⟨_, rfl⟩
  have l4 : A4.length = A3.length + 2 := by rw [hA4]; simp
  have gm : A4[A3.length + 1]? = some (.dic false false [(dS "patience", .int (1 + v1)), (dS "room", .int (1 + v2)), (dS "held", .ref A3.length)]) := by rw [hA4]; exact getp (by simp)
  have gd : A4[A3.length]? = some (.dic true false []) := by rw [hA4]; exact get_push zah
  obtain ⟨_, A5, e5, rfl, kJ, f5⟩ := (joiner_ok (A := A4) (pat := 1 + v1) (room := 1 + v2) (by omega) (by omega)).ex
  obtain ⟨W, hW⟩ : ∃ W, W = List.drop 1 (ns.map D.int) ++ [D.int 0] := ⟨_, rfl⟩
  have hWi : ∀ (j : Nat) d, W[j]? = some d → ∃ n : Int, d = D.int n := by
    intro j d hd
    have := List.mem_of_getElem? hd
    rw [hW] at this
    rcases List.mem_append.mp this with h | h
    · obtain ⟨n, _, rfl⟩ := List.mem_map.mp (List.mem_of_mem_drop h); exact ⟨n, rfl⟩
    · rw [List.mem_singleton] at h; exact ⟨0, h⟩
  have hWl : W.length ≤ 64 := by rw [hW, List.length_append, List.length_drop, List.length_map, List.length_singleton]; omega
  have n5 := f5.le
  obtain ⟨A6, hA6⟩ : ∃ A6, A6 = A5 ++ [O.lst (List.drop 1 (ns.map D.int))] ++ [O.lst [D.int 0]] ++ [O.lst W] := ⟨_, rfl⟩
  have f6 : Fr [] A5 A6 := by rw [hA6]; exact Fr.push.then_push.then_push
  have kM : IsM A4 (A3.length + 1) A3.length ⟨1 + v1, 1 + v2, 0, []⟩ [] [A3.length + 1, A3.length] :=
    ⟨gm, gd, fun z hz => (by cases hz), rfl, .nil, .nil, .nil, List.mem_cons_self, List.mem_cons_of_mem _ List.mem_cons_self, fun z hz => (by cases hz), fun k hk => (by simp only [List.mem_cons, List.not_mem_nil, or_false] at hk; omega), fun z hz => (by cases hz)⟩
  have two0 : Two A6 A4.length (A4.length + 1) (A3.length + 1) A3.length (A5.length + 1 + 1) W (1 + v1) (1 + v2) 0 0 :=
    ⟨⟨[], [], [A4.length, A4.length + 1], [], [A3.length + 1, A3.length], kJ.frame f6 (by simp), (kM.frame f5 (by simp)).frame f6 (by simp), fun k hk => by
      simp only [List.mem_cons, List.not_mem_nil, or_false] at hk ⊢
      omega, fun hk => by have := kJ.lt _ hk; omega, fun hk => by have := (kM.frame f5 (by simp)).lt _ hk; omega, Nat.le_refl _⟩, by rw [hA6]; exact getp (by simp)⟩
  unfold F_law
  simp_arith [e1, e2, e3, e4]
  rw [← hA4]
  simp_arith [gm, e5]
  rw [← hW, ← hA6]
  refine for_go (R := fun rs => Rk (finR (seqR rs _)) _) (fun j e B => ∃ o1 tick o5 o6 o7 o8, e = [some (.scr (ns.map D.int)), o1, some (.ref (A3.length + 1)), some (.ref A4.length), some (.int tick), o5, o6, o7, o8] ∧ Two B A4.length (A4.length + 1) (A3.length + 1) A3.length (A5.length + 1 + 1) W (1 + v1) (1 + v2) tick j) ⟨_, 0, none, none, none, none, rfl, two0⟩ (fun j e B _ h => ?_) ?_ ?_
  · obtain ⟨_, _, _, _, _, _, _, h⟩ := h
    exact h.z
  · rintro j _ B d hd ⟨o1, tick, o5, o6, o7, o8, rfl, tB⟩
    obtain ⟨x, hx, rfl⟩ := enumL_get hd
    have hj := lt_of_get hx
    obtain ⟨n, rfl⟩ := hWi j x hx
    obtain ⟨_, B1, g1, rfl, dr1, h1⟩ := (state_ok (p := n) (q := 2 + (j : Nat)) (A := B)).ex
    have nB := h1.le
    obtain ⟨w, B2, wa, wb, g2, dr2, h2⟩ := next_ok (n := 7) (dr1.pushed (x := .lst ([0, 0, 1, 1, 2, 3, 20].map D.int))) (by decide) (by decide)
    have nd := dr1.lt
    have q2 : B2[B1.length]? = some (.lst ([0, 0, 1, 1, 2, 3, 20].map D.int)) := h2.get zah (by rw [List.mem_singleton]; omega)
    obtain ⟨st, hst, p2⟩ := pick_i (ns := [0, 0, 1, 1, 2, 3, 20]) wa wb
    have hst' : 0 ≤ st := by
      simp only [List.mem_cons, List.not_mem_nil, or_false] at hst
      omega
    simp only [List.map_cons, List.map_nil] at g2 q2 p2
    obtain ⟨_, B3, g3, p, rfl, pok, dr3, h3⟩ := (pieceM_ok dr2).ex
    have fB : Fr [B.length] B B3 := (((h1.mono (by simp)).then_push).trans h2).trans h3
    have tB3 := tB.frame fB (by simp)
    obtain ⟨C1, v, C2, w2, C3, C4, g4, oC, g5, g6, g7, gE, tE⟩ := two_ok (tick := tick + st) tB3 pok (by omega) (by omega) (by omega)
    have et := told_ok gE
    have en : oNe p.row p.row C4 = .ok (.bl false) C4 := oNe_pd row_pd
    have gE' : C4[B3.length]? = some (.obj "Packet" [("source", .int p.s), ("target", .int p.t), ("kind", .int p.k), ("life", .int p.l), ("name", .int p.n), ("first", .int p.f), ("more", .bl p.m), ("data", rw_ p.d)]) := gE
    unfold jfs at oC
    show Got _ _
    simp_arith [g1, g2, q2, p2, g3, g4, oC, g5, g6, g7, gE', et, en, -z73]
    exact ⟨_, _, _, _, _, _, rfl, tE⟩
  · rintro _ B ⟨o1, tick, o5, o6, o7, o8, rfl, tB⟩
    simp_arith []

end Kk

namespace Kk
open PySem L2 SM
open DL (op_addU op_subU op_mulA op_divU op_modU op_powU op_shlU op_shrU op_andU op_orU op_xorU op_ltU op_leU op_gtU op_geU op_isU op_notU call_lenU call_absU call_max2U call_min2U call_intU call_listU call_tupleU call_allU call_sumU call_isiA ix_U sl_U pi_seqU pe_dx pe_dx0 pe_mx pe_mx0 Dx Mx)
def topS (i : Nat) : Stmt := PySem.Challenge.pw_surewire_k42_joined_by_places.main.body.getD i (.Pass ⟨0, 0, 0, 0⟩)
structure Txt (K : PySem.W.Frag) (mg : Str → Option Value) (ca : CaT) : Prop where
  g_Heap : mg "Heap" = some (.ref (ca "Heap"))
  g_Joiner : mg "Joiner" = some (.ref (ca "Joiner"))
  g_NoNumber : mg "NoNumber" = some (.ref (ca "NoNumber"))
  g_NoPacket : mg "NoPacket" = some (.ref (ca "NoPacket"))
  g_NoTick : mg "NoTick" = some (.ref (ca "NoTick"))
  g_Packet : mg "Packet" = some (.ref (ca "Packet"))
  e_NoNumber : PySem.W.excIn K (ca "NoNumber") [.type "ValueError", .type "Exception", .type "BaseException", .type "object"] "ValueError.__new__" = true
  k_NoNumber : PySem.W.keepIn K (.ref (ca "NoNumber")) = true
  b_NoNumber : PySem.W.subIn K (.ref (ca "NoNumber")) (.type "BaseException") = some true
  t_NoNumber : PySem.W.typeIn K (.ref (ca "NoNumber")) = some (.type "type")
  e_NoPacket : PySem.W.excIn K (ca "NoPacket") [.type "ValueError", .type "Exception", .type "BaseException", .type "object"] "ValueError.__new__" = true
  k_NoPacket : PySem.W.keepIn K (.ref (ca "NoPacket")) = true
  b_NoPacket : PySem.W.subIn K (.ref (ca "NoPacket")) (.type "BaseException") = some true
  t_NoPacket : PySem.W.typeIn K (.ref (ca "NoPacket")) = some (.type "type")
  e_NoTick : PySem.W.excIn K (ca "NoTick") [.type "ValueError", .type "Exception", .type "BaseException", .type "object"] "ValueError.__new__" = true
  k_NoTick : PySem.W.keepIn K (.ref (ca "NoTick")) = true
  b_NoTick : PySem.W.subIn K (.ref (ca "NoTick")) (.type "BaseException") = some true
  t_NoTick : PySem.W.typeIn K (.ref (ca "NoTick")) = some (.type "type")
  cl_Heap : Cls K (ca "Heap")
  mk_Heap : PySem.W.makesIn K (ca "Heap") = true
  kc_Heap : PySem.W.keepIn K (.ref (ca "Heap")) = true
  n_Heap_by_places : PySem.W.findIn K (.ref (ca "Heap")) "by_places" = some none
  n_Heap_end_place : PySem.W.findIn K (.ref (ca "Heap")) "end_place" = some none
  n_Heap_least_life : PySem.W.findIn K (.ref (ca "Heap")) "least_life" = some none
  n_Heap_since : PySem.W.findIn K (.ref (ca "Heap")) "since" = some none
  cl_Joiner : Cls K (ca "Joiner")
  mk_Joiner : PySem.W.makesIn K (ca "Joiner") = true
  kc_Joiner : PySem.W.keepIn K (.ref (ca "Joiner")) = true
  n_Joiner_heaps : PySem.W.findIn K (.ref (ca "Joiner")) "heaps" = some none
  n_Joiner_last_tick : PySem.W.findIn K (.ref (ca "Joiner")) "last_tick" = some none
  n_Joiner_most_held : PySem.W.findIn K (.ref (ca "Joiner")) "most_held" = some none
  n_Joiner_patience : PySem.W.findIn K (.ref (ca "Joiner")) "patience" = some none
  cl_Packet : Cls K (ca "Packet")
  mk_Packet : PySem.W.makesIn K (ca "Packet") = true
  kc_Packet : PySem.W.keepIn K (.ref (ca "Packet")) = true
  n_Packet_data : PySem.W.findIn K (.ref (ca "Packet")) "data" = some none
  n_Packet_first : PySem.W.findIn K (.ref (ca "Packet")) "first" = some none
  n_Packet_kind : PySem.W.findIn K (.ref (ca "Packet")) "kind" = some none
  n_Packet_life : PySem.W.findIn K (.ref (ca "Packet")) "life" = some none
  n_Packet_more : PySem.W.findIn K (.ref (ca "Packet")) "more" = some none
  n_Packet_name : PySem.W.findIn K (.ref (ca "Packet")) "name" = some none
  n_Packet_source : PySem.W.findIn K (.ref (ca "Packet")) "source" = some none
  n_Packet_target : PySem.W.findIn K (.ref (ca "Packet")) "target" = some none
  isO : AllC (fun C => DL.InC K (ca C) ∧ btn C = false) os_
  isX : AllC (fun C => ExcC K (ca C) ∧ btn C = false) xs_
  isT : TbOk K ca tb_
  b_all : mg "all" = none
  b_bool : mg "bool" = none
  b_enumerate : mg "enumerate" = none
  b_int : mg "int" = none
  b_isinstance : mg "isinstance" = none
  b_len : mg "len" = none
  b_list : mg "list" = none
  b_max : mg "max" = none
  b_min : mg "min" = none
  b_range : mg "range" = none
  b_sum : mg "sum" = none
  b_tuple : mg "tuple" = none
  c_MOST_BYTE : ∃ t, mg "MOST_BYTE" = some (.int 255 t)
  c_MOST_TOGETHER : ∃ t, mg "MOST_TOGETHER" = some (.int 1000 t)
  c_MOST_WORD : ∃ t, mg "MOST_WORD" = some (.int 65535 t)
  one : True
abbrev s_need_many : Stmt := topS 13
abbrev N_need_many : List Str := ["thing"]
theorem sc_need_many : FnScope N_need_many ["thing"] (defScope s_need_many) := ⟨rfl, rfl, rfl, by decide +kernel, rfl, by decide +kernel, by decide +kernel⟩
theorem ok_need_many {P : Program} {w : World} {K : PySem.W.Frag} {mg : Str → Option Value} {base : Heap} {a : Addr} {fd : FuncData} {ca : CaT} (T : Txt K mg ca) (F : Fun K "need_many" "need_many" s_need_many a fd)  :
    FnOk P w K mg base (L2.CX P w) 1 a fd ["thing"] (SpF K ca F_need_many) := by
  refine SM.Fn.ofF F sc_need_many rfl fun cdv A outer s H E hr => ?_
  have nd := sc_need_many.nd
  refine ⟨_, (pss_one (ps_if (PW.pt (pw_or (pt_val (pe_callB (call_isiA (K := K)) (by rfl) T.b_isinstance (by decide +kernel) (pa_cons (pv 0) (pa_cons (pe_bltn (v := .ty "bool") (by rfl) T.b_bool (by decide +kernel) rfl) pa_nil)))) (pw_or (pt_not (pt_val (pe_callB (call_isiA (K := K)) (by rfl) T.b_isinstance (by decide +kernel) (pa_cons (pv 0) (pa_cons (pe_bltn (v := .ty "int") (by rfl) T.b_int (by decide +kernel) rfl) pa_nil))))) (pw_or1 (pt_cmpR op_ltU (pv 0) pe_int (nomark _)))))) (pss_one (DL.ps_raiseC rfl (takes_of rfl rfl rfl rfl) (pmk_own PySem.F.excBase_ValueError T.e_NoNumber T.g_NoNumber T.k_NoNumber (raises_own T.b_NoNumber T.t_NoNumber) rfl))) pss_nil)), ?_⟩
  exact (ss_if (st_or (st_b (se_cb (cs_isi T.isO T.isX T.isT) (sa_cons se_var (sa_cons se_ty sa_nil)))) (st_or (st_not (st_b (se_cb (cs_isi T.isO T.isX T.isT) (sa_cons se_var (sa_cons se_ty sa_nil))))) (st_test (se_op os_lt se_var se_int)))) (ss_raise rfl) ss_next)
abbrev s_Joiner___init__ : Stmt := inClass (topS 15) 0
abbrev N_Joiner___init__ : List Str := ["self", "patience", "room"]
theorem sc_Joiner___init__ : FnScope N_Joiner___init__ ["self", "patience", "room"] (defScope s_Joiner___init__) := ⟨rfl, rfl, rfl, by decide +kernel, rfl, by decide +kernel, by decide +kernel⟩
theorem ok_Joiner___init__ {P : Program} {w : World} {K : PySem.W.Frag} {mg : Str → Option Value} {base : Heap} {a : Addr} {fd : FuncData} {ca : CaT} (T : Txt K mg ca) (F : Fun K "__init__" "Joiner.__init__" s_Joiner___init__ a fd) (C_need_many : Dx P w K mg base 1 "need_many" (SpF K ca F_need_many)) :
    FnOk P w K mg base (L2.CX P w) 2 a fd ["self", "patience", "room"] (SpF K ca F_Joiner___init__) := by
  refine SM.Fn.ofF F sc_Joiner___init__ rfl fun cdv A outer s H E hr => ?_
  have nd := sc_Joiner___init__.nd
  refine ⟨_, (pss_cons (ps_expr (pe_dx C_need_many (takes_of rfl rfl rfl rfl) hr (by decide) rfl (pa_cons (pv 1) pa_nil))) (pss_cons (ps_expr (pe_dx C_need_many (takes_of rfl rfl rfl rfl) hr (by decide) rfl (pa_cons (pv 2) pa_nil))) (pss_cons (ps_fld (pv 0) (pv 1) rfl) (pss_cons (ps_fld (pv 0) (pv 2) rfl) (pss_cons (ps_fld (pv 0) pe_int rfl) (pss_one (ps_fld (pv 0) pe_dnewT rfl))))))), ?_⟩
  exact (ss_seq (ss_drop (se_call (sa_cons se_var sa_nil))) (ss_seq (ss_drop (se_call (sa_cons se_var sa_nil))) (ss_seq (ss_fl (by decide +kernel) ⟨⟨T.cl_Joiner, T.n_Joiner_patience⟩, trivial⟩ se_var se_var) (ss_seq (ss_fl (by decide +kernel) ⟨⟨T.cl_Joiner, T.n_Joiner_most_held⟩, trivial⟩ se_var se_var) (ss_seq (ss_fl (by decide +kernel) ⟨⟨T.cl_Joiner, T.n_Joiner_last_tick⟩, trivial⟩ se_var se_int) (ss_fl (by decide +kernel) ⟨⟨T.cl_Joiner, T.n_Joiner_heaps⟩, trivial⟩ se_var se_dnewT))))))
abbrev s_Heap___init__ : Stmt := inClass (topS 14) 0
abbrev N_Heap___init__ : List Str := ["self", "tick", "life"]
theorem sc_Heap___init__ : FnScope N_Heap___init__ ["self", "tick", "life"] (defScope s_Heap___init__) := ⟨rfl, rfl, rfl, by decide +kernel, rfl, by decide +kernel, by decide +kernel⟩
theorem ok_Heap___init__ {P : Program} {w : World} {K : PySem.W.Frag} {mg : Str → Option Value} {base : Heap} {a : Addr} {fd : FuncData} {ca : CaT} (T : Txt K mg ca) (F : Fun K "__init__" "Heap.__init__" s_Heap___init__ a fd)  :
    FnOk P w K mg base (L2.CX P w) 1 a fd ["self", "tick", "life"] (SpF K ca F_Heap___init__) := by
  refine SM.Fn.ofF F sc_Heap___init__ rfl fun cdv A outer s H E hr => ?_
  have nd := sc_Heap___init__.nd
  refine ⟨_, (pss_cons (ps_fld (pv 0) (pv 1) rfl) (pss_cons (ps_fld (pv 0) (pv 2) rfl) (pss_cons (ps_fld (pv 0) pe_non rfl) (pss_one (ps_fld (pv 0) pe_dnewK rfl))))), ?_⟩
  exact (ss_seq (ss_fl (by decide +kernel) ⟨⟨T.cl_Heap, T.n_Heap_since⟩, trivial⟩ se_var se_var) (ss_seq (ss_fl (by decide +kernel) ⟨⟨T.cl_Heap, T.n_Heap_least_life⟩, trivial⟩ se_var se_var) (ss_seq (ss_fl (by decide +kernel) ⟨⟨T.cl_Heap, T.n_Heap_end_place⟩, trivial⟩ se_var se_non) (ss_fl (by decide +kernel) ⟨⟨T.cl_Heap, T.n_Heap_by_places⟩, trivial⟩ se_var se_dnewK))))
abbrev s_Heap_hold : Stmt := inClass (topS 14) 1
abbrev N_Heap_hold : List Str := ["self", "packet", "k", "byte", "end"]
theorem sc_Heap_hold : FnScope N_Heap_hold ["self", "packet"] (defScope s_Heap_hold) := ⟨rfl, rfl, rfl, by decide +kernel, rfl, by decide +kernel, by decide +kernel⟩
theorem ok_Heap_hold {P : Program} {w : World} {K : PySem.W.Frag} {mg : Str → Option Value} {base : Heap} {a : Addr} {fd : FuncData} {ca : CaT} (T : Txt K mg ca) (F : Fun K "hold" "Heap.hold" s_Heap_hold a fd)  :
    FnOk P w K mg base (L2.CX P w) 1 a fd ["self", "packet"] (SpF K ca F_Heap_hold) := by
  refine SM.Fn.ofF F sc_Heap_hold rfl fun cdv A outer s H E hr => ?_
  have nd := sc_Heap_hold.nd
  refine ⟨_, (pss_cons (ps_fld (pv 0) (pe_callB (call_min2U rfl) (by rfl) T.b_min (by decide +kernel) (pa_cons (pe_fld (pv 0) rfl) (pa_cons (pe_fld (pv 1) rfl) pa_nil))) rfl) (pss_cons (ps_for (passes_of rfl) rfl (pi_enumA (by rfl) T.b_enumerate (pa_cons (pe_fld (pv 1) rfl) pa_nil)) (pg_tup rfl (pgs_cons (pg_name (i := 2) nd rfl (by first | exact Or.inl rfl | exact Or.inr rfl)) (pgs_cons (pg_name (i := 3) nd rfl (by first | exact Or.inl rfl | exact Or.inr rfl)) pgs_nil))) (pss_one (ps_expr (pe_dsetd (pe_fld (pv 0) rfl) (pe_op (op_addU (K := K)) (pe_fld (pv 1) rfl) (pv 2)) (pv 3) ⟨rfl, rfl, rfl, rfl⟩)))) (pss_cons (ps_if (pt_not (pt_val (pe_fld (pv 1) rfl))) (pss_cons (ps_set (i := 4) nd rfl (by first | exact Or.inl rfl | exact Or.inr rfl) (pe_op (op_addU (K := K)) (pe_fld (pv 1) rfl) (pe_callB (call_lenU (K := K)) (by rfl) T.b_len (by decide +kernel) (pa_cons (pe_fld (pv 1) rfl) pa_nil)))) (pss_cons (ps_if (PW.pt (pw_and (pt_cmpR op_notU (pe_fld (pv 0) rfl) pe_non (nomark _)) (pw_and1 (pt_cmpR (op_nePK (K := K) (DL.room65 hr)) (pe_fld (pv 0) rfl) (pv 4) (nomark _))))) (pss_one (ps_ret pe_bl)) pss_nil) (pss_one (ps_fld (pv 0) (pv 4) rfl)))) pss_nil) (pss_one (ps_ret (pe_or (pe_cmpR op_isU (pe_fld (pv 0) rfl) pe_non (nomark _)) (pe_one (pe_cmpR op_ltU (L2.pe_callBK (L2.call_maxKDf rfl) (by rfl) T.b_max (by decide +kernel) (pa_cons (pe_fld (pv 0) rfl) pa_nil) (pk_cons (pe_un un_neg pe_int) pk_nil)) (pe_fld (pv 0) rfl) (nomark _))))))))), ?_⟩
  exact (ss_seq (ss_fl (by decide +kernel) ⟨⟨T.cl_Heap, T.n_Heap_least_life⟩, trivial⟩ se_var (se_cb cs_min2 (sa_cons (se_fld (by decide +kernel) ⟨⟨T.cl_Heap, T.n_Heap_least_life⟩, trivial⟩ se_var) (sa_cons (se_fld (by decide +kernel) ⟨⟨T.cl_Packet, T.n_Packet_life⟩, trivial⟩ se_var) sa_nil)))) (ss_seq (ss_for (sw_enumA (se_fld (by decide +kernel) ⟨⟨T.cl_Packet, T.n_Packet_data⟩, trivial⟩ se_var)) (sg_tup (sgs_cons sg_name (sgs_cons sg_name sgs_nil)) rfl) (ss_drop (se_dsetd (se_fld (by decide +kernel) ⟨⟨T.cl_Heap, T.n_Heap_by_places⟩, trivial⟩ se_var) (se_op os_add (se_fld (by decide +kernel) ⟨⟨T.cl_Packet, T.n_Packet_first⟩, trivial⟩ se_var) se_var) se_var))) (ss_seq (ss_if (st_not (st_b (se_fld (by decide +kernel) ⟨⟨T.cl_Packet, T.n_Packet_more⟩, trivial⟩ se_var))) (ss_seq (ss_set (se_op os_add (se_fld (by decide +kernel) ⟨⟨T.cl_Packet, T.n_Packet_first⟩, trivial⟩ se_var) (se_cb cs_len (sa_cons (se_fld (by decide +kernel) ⟨⟨T.cl_Packet, T.n_Packet_data⟩, trivial⟩ se_var) sa_nil)))) (ss_seq (ss_if (st_and (st_test (se_op os_isnot (se_fld (by decide +kernel) ⟨⟨T.cl_Heap, T.n_Heap_end_place⟩, trivial⟩ se_var) se_non)) (st_test (se_op os_ne (se_fld (by decide +kernel) ⟨⟨T.cl_Heap, T.n_Heap_end_place⟩, trivial⟩ se_var) se_var))) (ss_ret se_bl) ss_next) (ss_fl (by decide +kernel) ⟨⟨T.cl_Heap, T.n_Heap_end_place⟩, trivial⟩ se_var se_var))) ss_next) (ss_ret (se_or (se_op os_is (se_fld (by decide +kernel) ⟨⟨T.cl_Heap, T.n_Heap_end_place⟩, trivial⟩ se_var) se_non) (se_op os_lt (se_ck ck_maxKDf (se_fld (by decide +kernel) ⟨⟨T.cl_Heap, T.n_Heap_by_places⟩, trivial⟩ se_var) (se_un us_neg se_int)) (se_fld (by decide +kernel) ⟨⟨T.cl_Heap, T.n_Heap_end_place⟩, trivial⟩ se_var)))))))
abbrev s_Heap_is_there : Stmt := inClass (topS 14) 2
abbrev N_Heap_is_there : List Str := ["self"]
theorem sc_Heap_is_there : FnScope N_Heap_is_there ["self"] (defScope s_Heap_is_there) := ⟨rfl, rfl, rfl, by decide +kernel, rfl, by decide +kernel, by decide +kernel⟩
theorem ok_Heap_is_there {P : Program} {w : World} {K : PySem.W.Frag} {mg : Str → Option Value} {base : Heap} {a : Addr} {fd : FuncData} {ca : CaT} (T : Txt K mg ca) (F : Fun K "is_there" "Heap.is_there" s_Heap_is_there a fd)  :
    FnOk P w K mg base (L2.CX P w) 1 a fd ["self"] (SpF K ca F_Heap_is_there) := by
  refine SM.Fn.ofF F sc_Heap_is_there rfl fun cdv A outer s H E hr => ?_
  have nd := sc_Heap_is_there.nd
  refine ⟨_, (pss_one (ps_ret (pe_and (pe_cmpR op_notU (pe_fld (pv 0) rfl) pe_non (nomark _)) (pe_one (pe_cmpR (op_eqPK (K := K) (DL.room65 hr)) (pe_callB (call_lenU (K := K)) (by rfl) T.b_len (by decide +kernel) (pa_cons (pe_fld (pv 0) rfl) pa_nil)) (pe_fld (pv 0) rfl) (nomark _)))))), ?_⟩
  exact (ss_ret (se_and (se_op os_isnot (se_fld (by decide +kernel) ⟨⟨T.cl_Heap, T.n_Heap_end_place⟩, trivial⟩ se_var) se_non) (se_op os_eq (se_cb cs_len (sa_cons (se_fld (by decide +kernel) ⟨⟨T.cl_Heap, T.n_Heap_by_places⟩, trivial⟩ se_var) sa_nil)) (se_fld (by decide +kernel) ⟨⟨T.cl_Heap, T.n_Heap_end_place⟩, trivial⟩ se_var))))
abbrev s_is_number : Stmt := topS 9
abbrev N_is_number : List Str := ["thing", "most"]
theorem sc_is_number : FnScope N_is_number ["thing", "most"] (defScope s_is_number) := ⟨rfl, rfl, rfl, by decide +kernel, rfl, by decide +kernel, by decide +kernel⟩
theorem ok_is_number {P : Program} {w : World} {K : PySem.W.Frag} {mg : Str → Option Value} {base : Heap} {a : Addr} {fd : FuncData} {ca : CaT} (T : Txt K mg ca) (F : Fun K "is_number" "is_number" s_is_number a fd)  :
    FnOk P w K mg base (L2.CX P w) 1 a fd ["thing", "most"] (SpF K ca F_is_number) := by
  refine SM.Fn.ofF F sc_is_number rfl fun cdv A outer s H E hr => ?_
  have nd := sc_is_number.nd
  refine ⟨_, (pss_one (ps_ret (pe_and (pe_callB (call_isiA (K := K)) (by rfl) T.b_isinstance (by decide +kernel) (pa_cons (pv 0) (pa_cons (pe_bltn (v := .ty "int") (by rfl) T.b_int (by decide +kernel) rfl) pa_nil))) (pe_and (pe_not (pe_callB (call_isiA (K := K)) (by rfl) T.b_isinstance (by decide +kernel) (pa_cons (pv 0) (pa_cons (pe_bltn (v := .ty "bool") (by rfl) T.b_bool (by decide +kernel) rfl) pa_nil)))) (pe_one (pe_chain op_leU op_leU pe_int (pv 0) (pv 1))))))), ?_⟩
  exact (ss_ret (se_and (se_cb (cs_isi T.isO T.isX T.isT) (sa_cons se_var (sa_cons se_ty sa_nil))) (se_and (se_not (se_cb (cs_isi T.isO T.isX T.isT) (sa_cons se_var (sa_cons se_ty sa_nil)))) (se_ch os_le os_le se_int se_var se_var))))
abbrev s_are_bytes : Stmt := topS 10
abbrev N_are_bytes : List Str := ["thing", "most", "byte"]
theorem sc_are_bytes : FnScope N_are_bytes ["thing", "most"] (defScope s_are_bytes) := ⟨rfl, rfl, rfl, by decide +kernel, rfl, by decide +kernel, by decide +kernel⟩
theorem ok_are_bytes {P : Program} {w : World} {K : PySem.W.Frag} {mg : Str → Option Value} {base : Heap} {a : Addr} {fd : FuncData} {ca : CaT} (T : Txt K mg ca) (F : Fun K "are_bytes" "are_bytes" s_are_bytes a fd) (C_is_number : Dx P w K mg base 1 "is_number" (SpF K ca F_is_number)) :
    FnOk P w K mg base (L2.CX P w) 2 a fd ["thing", "most"] (SpF K ca F_are_bytes) := by
  refine SM.Fn.ofF F sc_are_bytes rfl fun cdv A outer s H E hr => ?_
  have nd := sc_are_bytes.nd
  refine ⟨_, (pss_one (ps_ret (pe_and (pe_callB (call_isiA (K := K)) (by rfl) T.b_isinstance (by decide +kernel) (pa_cons (pv 0) (pa_cons (pe_bltn (v := .ty "tuple") (by rfl) T.b_tuple (by decide +kernel) rfl) pa_nil))) (pe_and (pe_cmpR op_leU (pe_callB (call_lenU (K := K)) (by rfl) T.b_len (by decide +kernel) (pa_cons (pv 0) pa_nil)) (pv 1) (nomark _)) (pe_one (pe_callB (call_allU (K := K) rfl) (by rfl) T.b_all (by decide +kernel) (pa_cons (pe_lc (own := [("byte", 2)]) (g := (gName 2)) rfl nd (pi_seqU (K := K) (pv 0)) (blkOk_by (own := [("byte", 2)]) (N := N_are_bytes) (sc := defScope s_are_bytes) (by decide +kernel)) (fun _ _ _ _ _ => (pg_name (i := 2) nd rfl (by first | exact Or.inl rfl | exact Or.inr rfl))) (fun _ _ _ _ _ => pts_nil) (fun _ _ _ _ _ => (pe_dx0 C_is_number hr (by decide) rfl (pa_cons (pv 2) (pa_cons (pe_glob (v := .int 255) rfl T.c_MOST_BYTE.choose_spec ⟨_, rfl⟩) pa_nil))))) pa_nil))))))), ?_⟩
  exact (ss_ret (se_and (se_cb (cs_isi T.isO T.isX T.isT) (sa_cons se_var (sa_cons se_ty sa_nil))) (se_and (se_op os_le (se_cb cs_len (sa_cons se_var sa_nil)) se_var) (se_cb cs_all (sa_cons (se_lc (W2 := fun _ _ _ _ => False) (sw_seq se_var) sg_name (by decide) st_yes (se_call0 (sa_cons se_var (sa_cons se_int sa_nil)))) sa_nil)))))
abbrev s_Packet___init__ : Stmt := inClass (topS 11) 0
abbrev N_Packet___init__ : List Str := ["self", "source", "target", "kind", "life", "name", "first", "more", "data", "thing"]
theorem sc_Packet___init__ : FnScope N_Packet___init__ ["self", "source", "target", "kind", "life", "name", "first", "more", "data"] (defScope s_Packet___init__) := ⟨rfl, rfl, rfl, by decide +kernel, rfl, by decide +kernel, by decide +kernel⟩
theorem ok_Packet___init__ {P : Program} {w : World} {K : PySem.W.Frag} {mg : Str → Option Value} {base : Heap} {a : Addr} {fd : FuncData} {ca : CaT} (T : Txt K mg ca) (F : Fun K "__init__" "Packet.__init__" s_Packet___init__ a fd) (C_are_bytes : Dx P w K mg base 2 "are_bytes" (SpF K ca F_are_bytes)) (C_is_number : Dx P w K mg base 1 "is_number" (SpF K ca F_is_number)) :
    FnOk P w K mg base (L2.CX P w) 3 a fd ["self", "source", "target", "kind", "life", "name", "first", "more", "data"] (SpF K ca F_Packet___init__) := by
  refine SM.Fn.ofF F sc_Packet___init__ rfl fun cdv A outer s H E hr => ?_
  have nd := sc_Packet___init__.nd
  refine ⟨_, (pss_cons (ps_if (pt_not (pt_val (pe_callB (call_allU (K := K) rfl) (by rfl) T.b_all (by decide +kernel) (pa_cons (pe_lc (own := [("thing", 9)]) (g := (gName 9)) rfl nd (pi_seqU (K := K) (pe_tup (pa_cons (pv 1) (pa_cons (pv 2) (pa_cons (pv 3) (pa_cons (pv 4) pa_nil)))))) (blkOk_by (own := [("thing", 9)]) (N := N_Packet___init__) (sc := defScope s_Packet___init__) (by decide +kernel)) (fun _ _ _ _ _ => (pg_name (i := 9) nd rfl (by first | exact Or.inl rfl | exact Or.inr rfl))) (fun _ _ _ _ _ => pts_nil) (fun _ _ _ _ _ => (pe_dx0 C_is_number hr (by decide) rfl (pa_cons (pv 9) (pa_cons (pe_glob (v := .int 255) rfl T.c_MOST_BYTE.choose_spec ⟨_, rfl⟩) pa_nil))))) pa_nil)))) (pss_one (DL.ps_raiseC rfl (takes_of rfl rfl rfl rfl) (pmk_own PySem.F.excBase_ValueError T.e_NoPacket T.g_NoPacket T.k_NoPacket (raises_own T.b_NoPacket T.t_NoPacket) rfl))) pss_nil) (pss_cons (ps_if (PW.pt (pw_or (pt_not (pt_val (pe_dx C_is_number (takes_of rfl rfl rfl rfl) hr (by decide) rfl (pa_cons (pv 5) (pa_cons (pe_glob (v := .int 65535) rfl T.c_MOST_WORD.choose_spec ⟨_, rfl⟩) pa_nil))))) (pw_or (pt_not (pt_val (pe_dx C_is_number (takes_of rfl rfl rfl rfl) hr (by decide) rfl (pa_cons (pv 6) (pa_cons (pe_glob (v := .int 1000) rfl T.c_MOST_TOGETHER.choose_spec ⟨_, rfl⟩) pa_nil))))) (pw_or1 (pt_not (pt_val (pe_callB (call_isiA (K := K)) (by rfl) T.b_isinstance (by decide +kernel) (pa_cons (pv 7) (pa_cons (pe_bltn (v := .ty "bool") (by rfl) T.b_bool (by decide +kernel) rfl) pa_nil))))))))) (pss_one (DL.ps_raiseC rfl (takes_of rfl rfl rfl rfl) (pmk_own PySem.F.excBase_ValueError T.e_NoPacket T.g_NoPacket T.k_NoPacket (raises_own T.b_NoPacket T.t_NoPacket) rfl))) pss_nil) (pss_cons (ps_if (pt_not (pt_val (pe_dx C_are_bytes (takes_of rfl rfl rfl rfl) hr (by decide) rfl (pa_cons (pv 8) (pa_cons (pe_op op_subU (pe_glob (v := .int 1000) rfl T.c_MOST_TOGETHER.choose_spec ⟨_, rfl⟩) (pv 6)) pa_nil))))) (pss_one (DL.ps_raiseC rfl (takes_of rfl rfl rfl rfl) (pmk_own PySem.F.excBase_ValueError T.e_NoPacket T.g_NoPacket T.k_NoPacket (raises_own T.b_NoPacket T.t_NoPacket) rfl))) pss_nil) (pss_cons (ps_fld (pv 0) (pv 1) rfl) (pss_cons (ps_fld (pv 0) (pv 2) rfl) (pss_cons (ps_fld (pv 0) (pv 3) rfl) (pss_cons (ps_fld (pv 0) (pv 4) rfl) (pss_cons (ps_fld (pv 0) (pv 5) rfl) (pss_cons (ps_fld (pv 0) (pv 6) rfl) (pss_cons (ps_fld (pv 0) (pv 7) rfl) (pss_one (ps_fld (pv 0) (pv 8) rfl)))))))))))), ?_⟩
  exact (ss_seq (ss_if (st_not (st_b (se_cb cs_all (sa_cons (se_lc (W2 := fun _ _ _ _ => False) (sw_seq (se_tup (sa_cons se_var (sa_cons se_var (sa_cons se_var (sa_cons se_var sa_nil)))))) sg_name (by decide) st_yes (se_call0 (sa_cons se_var (sa_cons se_int sa_nil)))) sa_nil)))) (ss_raise rfl) ss_next) (ss_seq (ss_if (st_or (st_not (st_b (se_call (sa_cons se_var (sa_cons se_int sa_nil))))) (st_or (st_not (st_b (se_call (sa_cons se_var (sa_cons se_int sa_nil))))) (st_not (st_b (se_cb (cs_isi T.isO T.isX T.isT) (sa_cons se_var (sa_cons se_ty sa_nil))))))) (ss_raise rfl) ss_next) (ss_seq (ss_if (st_not (st_b (se_call (sa_cons se_var (sa_cons (se_op os_sub se_int se_var) sa_nil))))) (ss_raise rfl) ss_next) (ss_seq (ss_fl (by decide +kernel) ⟨⟨T.cl_Packet, T.n_Packet_source⟩, trivial⟩ se_var se_var) (ss_seq (ss_fl (by decide +kernel) ⟨⟨T.cl_Packet, T.n_Packet_target⟩, trivial⟩ se_var se_var) (ss_seq (ss_fl (by decide +kernel) ⟨⟨T.cl_Packet, T.n_Packet_kind⟩, trivial⟩ se_var se_var) (ss_seq (ss_fl (by decide +kernel) ⟨⟨T.cl_Packet, T.n_Packet_life⟩, trivial⟩ se_var se_var) (ss_seq (ss_fl (by decide +kernel) ⟨⟨T.cl_Packet, T.n_Packet_name⟩, trivial⟩ se_var se_var) (ss_seq (ss_fl (by decide +kernel) ⟨⟨T.cl_Packet, T.n_Packet_first⟩, trivial⟩ se_var se_var) (ss_seq (ss_fl (by decide +kernel) ⟨⟨T.cl_Packet, T.n_Packet_more⟩, trivial⟩ se_var se_var) (ss_fl (by decide +kernel) ⟨⟨T.cl_Packet, T.n_Packet_data⟩, trivial⟩ se_var se_var)))))))))))
abbrev s_Heap_packet_made : Stmt := inClass (topS 14) 3
abbrev N_Heap_packet_made : List Str := ["self", "four", "found", "place"]
theorem sc_Heap_packet_made : FnScope N_Heap_packet_made ["self", "four"] (defScope s_Heap_packet_made) := ⟨rfl, rfl, rfl, by decide +kernel, rfl, by decide +kernel, by decide +kernel⟩
theorem ok_Heap_packet_made {P : Program} {w : World} {K : PySem.W.Frag} {mg : Str → Option Value} {base : Heap} {a : Addr} {fd : FuncData} {ca : CaT} (T : Txt K mg ca) (F : Fun K "packet_made" "Heap.packet_made" s_Heap_packet_made a fd) (M_Packet : Mx P w K mg base 3 "Packet" (ca "Packet") (SpF K ca F_Packet___init__)) :
    FnOk P w K mg base (L2.CX P w) 5 a fd ["self", "four"] (SpF K ca F_Heap_packet_made) := by
  refine SM.Fn.ofF F sc_Heap_packet_made rfl fun cdv A outer s H E hr => ?_
  have nd := sc_Heap_packet_made.nd
  refine ⟨_, (pss_cons (ps_set (i := 2) nd rfl (by first | exact Or.inl rfl | exact Or.inr rfl) (pe_callTy (call_tupleU (K := K)) (by rfl) T.b_tuple (by decide +kernel) (pa_cons (pe_lc (own := [("place", 3)]) (g := (gName 3)) rfl nd (pi_range1 rfl T.b_range (pa_cons (pe_fld (pv 0) rfl) pa_nil)) (blkOk_by (own := [("place", 3)]) (N := N_Heap_packet_made) (sc := defScope s_Heap_packet_made) (by decide +kernel)) (fun _ _ _ _ _ => (pg_name (i := 3) nd rfl (by first | exact Or.inl rfl | exact Or.inr rfl))) (fun _ _ _ _ _ => pts_nil) (fun _ _ _ _ _ => (pe_dgetO (DL.room65 hr) (pe_fldK (K := K) rfl (pv 0) rfl) (pv 3) (fun _ _ => rfl)))) pa_nil))) (pss_one (ps_ret (pe_mx M_Packet (takes_of rfl rfl rfl rfl) hr (by decide) rfl (pa_cons (pe_ix (ix_U (K := K)) (pv 1) pe_int (fun _ _ => rfl)) (pa_cons (pe_ix (ix_U (K := K)) (pv 1) pe_int (fun _ _ => rfl)) (pa_cons (pe_ix (ix_U (K := K)) (pv 1) pe_int (fun _ _ => rfl)) (pa_cons (pe_fld (pv 0) rfl) (pa_cons (pe_ix (ix_U (K := K)) (pv 1) pe_int (fun _ _ => rfl)) (pa_cons pe_int (pa_cons pe_bl (pa_cons (pv 2) pa_nil)))))))))))), ?_⟩
  exact (ss_seq (ss_set (se_cb cs_tuple (sa_cons (se_lc (W2 := fun _ _ _ _ => False) (sw_r1 (sa_cons (se_fld (by decide +kernel) ⟨⟨T.cl_Heap, T.n_Heap_end_place⟩, trivial⟩ se_var) sa_nil)) sg_name (by decide) st_yes (se_op os_dget (se_fld (by decide +kernel) ⟨⟨T.cl_Heap, T.n_Heap_by_places⟩, trivial⟩ se_var) se_var)) sa_nil))) (ss_ret (se_make (sa_cons (se_op os_ix se_var se_int) (sa_cons (se_op os_ix se_var se_int) (sa_cons (se_op os_ix se_var se_int) (sa_cons (se_fld (by decide +kernel) ⟨⟨T.cl_Heap, T.n_Heap_least_life⟩, trivial⟩ se_var) (sa_cons (se_op os_ix se_var se_int) (sa_cons se_int (sa_cons se_bl (sa_cons se_var sa_nil)))))))))))
abbrev s_Joiner_let_first_go : Stmt := inClass (topS 15) 2
abbrev N_Joiner_let_first_go : List Str := ["self", "heap", "four"]
theorem sc_Joiner_let_first_go : FnScope N_Joiner_let_first_go ["self"] (defScope s_Joiner_let_first_go) := ⟨rfl, rfl, rfl, by decide +kernel, rfl, by decide +kernel, by decide +kernel⟩
theorem ok_Joiner_let_first_go {P : Program} {w : World} {K : PySem.W.Frag} {mg : Str → Option Value} {base : Heap} {a : Addr} {fd : FuncData} {ca : CaT} (T : Txt K mg ca) (F : Fun K "let_first_go" "Joiner.let_first_go" s_Joiner_let_first_go a fd)  :
    FnOk P w K mg base (L2.CX P w) 1 a fd ["self"] (SpF K ca F_Joiner_let_first_go) := by
  refine SM.Fn.ofF F sc_Joiner_let_first_go rfl fun cdv A outer s H E hr => ?_
  have nd := sc_Joiner_let_first_go.nd
  refine ⟨_, (pss_one (ps_while (passes_of rfl) (pt_cmpR op_gtU (pe_callB (call_sumU (K := K) rfl) (by rfl) T.b_sum (by decide +kernel) (pa_cons (pe_lock (pe_lc (own := [("heap", 1)]) (g := (gName 1)) rfl nd (L2.pi_valuesT (pe_fld (pv 0) rfl)) (blkOk_by (own := [("heap", 1)]) (N := N_Joiner_let_first_go) (sc := defScope s_Joiner_let_first_go) (by decide +kernel)) (fun _ _ _ _ _ => (pg_name (i := 1) nd rfl (by first | exact Or.inl rfl | exact Or.inr rfl))) (fun _ _ _ _ _ => pts_nil) (fun _ _ _ _ _ => (pe_callB (call_lenU (K := K)) (by rfl) T.b_len (by decide +kernel) (pa_cons (pe_fldK (K := K) rfl (pv 1) rfl) pa_nil))))) pa_nil)) (pe_fld (pv 0) rfl) (nomark _)) (pss_one (ps_expr (pe_bm PySem.F.plainAttrs_dict PySem.F.slot_dict_pop PySem.F.type_dict_pop (L2.mt_popT1 (DL.room65w hr)) (pe_fld (pv 0) rfl) (pa_cons (pe_ix (ix_U (K := K)) (pe_callB (L2.call_minU (K := K) (DL.room65 hr) rfl) (by rfl) T.b_min (by decide +kernel) (pa_cons (pe_lock (pe_lc (own := [("four", 2), ("heap", 1)]) (g := (gTup _ 2 (gCons (gName 2) (gCons (gName 1) gNil)))) rfl nd (L2.pi_itemsT (pe_fld (pv 0) rfl)) (blkOk_by (own := [("four", 2), ("heap", 1)]) (N := N_Joiner_let_first_go) (sc := defScope s_Joiner_let_first_go) (by decide +kernel)) (fun _ _ _ _ _ => (pg_tup rfl (pgs_cons (pg_name (i := 2) nd rfl (by first | exact Or.inl rfl | exact Or.inr rfl)) (pgs_cons (pg_name (i := 1) nd rfl (by first | exact Or.inl rfl | exact Or.inr rfl)) pgs_nil)))) (fun _ _ _ _ _ => pts_nil) (fun _ _ _ _ _ => (pe_tup (pa_cons (pe_fldK (K := K) rfl (pv 1) rfl) (pa_cons (pv 2) pa_nil)))))) pa_nil)) pe_int (fun _ _ => rfl)) pa_nil)))))), ?_⟩
  exact (ss_while (st_test (se_op os_gt (se_cb cs_sum (sa_cons (se_lk (se_lc (W2 := fun _ _ _ _ => False) (sw_valsT (se_fld (by decide +kernel) ⟨⟨T.cl_Joiner, T.n_Joiner_heaps⟩, trivial⟩ se_var)) sg_name (by decide) st_yes (se_cb cs_len (sa_cons (se_fld (by decide +kernel) ⟨⟨T.cl_Heap, T.n_Heap_by_places⟩, trivial⟩ se_var) sa_nil)))) sa_nil)) (se_fld (by decide +kernel) ⟨⟨T.cl_Joiner, T.n_Joiner_most_held⟩, trivial⟩ se_var))) (ss_drop (se_bd ms_popT1 (se_fld (by decide +kernel) ⟨⟨T.cl_Joiner, T.n_Joiner_heaps⟩, trivial⟩ se_var) (sa_cons (se_op os_ix (se_cb cs_best (sa_cons (se_lk (se_lc (W2 := fun _ _ _ _ => False) (sw_itemsT (se_fld (by decide +kernel) ⟨⟨T.cl_Joiner, T.n_Joiner_heaps⟩, trivial⟩ se_var)) (sg_tup (sgs_cons sg_name (sgs_cons sg_name sgs_nil)) rfl) (by decide) st_yes (se_tup (sa_cons (se_fld (by decide +kernel) ⟨⟨T.cl_Heap, T.n_Heap_since⟩, trivial⟩ se_var) (sa_cons se_var sa_nil))))) sa_nil)) se_int) sa_nil))))
abbrev s_Joiner_let_old_go : Stmt := inClass (topS 15) 1
abbrev N_Joiner_let_old_go : List Str := ["self", "tick", "four"]
theorem sc_Joiner_let_old_go : FnScope N_Joiner_let_old_go ["self", "tick"] (defScope s_Joiner_let_old_go) := ⟨rfl, rfl, rfl, by decide +kernel, rfl, by decide +kernel, by decide +kernel⟩
theorem ok_Joiner_let_old_go {P : Program} {w : World} {K : PySem.W.Frag} {mg : Str → Option Value} {base : Heap} {a : Addr} {fd : FuncData} {ca : CaT} (T : Txt K mg ca) (F : Fun K "let_old_go" "Joiner.let_old_go" s_Joiner_let_old_go a fd)  :
    FnOk P w K mg base (L2.CX P w) 1 a fd ["self", "tick"] (SpF K ca F_Joiner_let_old_go) := by
  refine SM.Fn.ofF F sc_Joiner_let_old_go rfl fun cdv A outer s H E hr => ?_
  have nd := sc_Joiner_let_old_go.nd
  refine ⟨_, (pss_one (ps_for (passes_of rfl) rfl (pi_seqU (K := K) (pe_callTy (L2.call_list_dT rfl) (by rfl) T.b_list (by decide +kernel) (pa_cons (pe_fld (pv 0) rfl) pa_nil))) (pg_name (i := 2) nd rfl (by first | exact Or.inl rfl | exact Or.inr rfl)) (pss_one (ps_if (pt_cmpR op_geU (pe_op op_subU (pv 1) (pe_fld (pe_dgetO (DL.room65 hr) (pe_fld (pv 0) rfl) (pv 2) (fun _ _ => rfl)) rfl)) (pe_fld (pv 0) rfl) (nomark _)) (pss_one (ps_expr (pe_bm PySem.F.plainAttrs_dict PySem.F.slot_dict_pop PySem.F.type_dict_pop (L2.mt_popT1 (DL.room65w hr)) (pe_fld (pv 0) rfl) (pa_cons (pv 2) pa_nil)))) pss_nil)))), ?_⟩
  exact (ss_for (sw_seq (se_cb cs_listT (sa_cons (se_fld (by decide +kernel) ⟨⟨T.cl_Joiner, T.n_Joiner_heaps⟩, trivial⟩ se_var) sa_nil))) sg_name (ss_if (st_test (se_op os_ge (se_op os_sub se_var (se_fld (by decide +kernel) ⟨⟨T.cl_Heap, T.n_Heap_since⟩, trivial⟩ (se_op os_dget (se_fld (by decide +kernel) ⟨⟨T.cl_Joiner, T.n_Joiner_heaps⟩, trivial⟩ se_var) se_var))) (se_fld (by decide +kernel) ⟨⟨T.cl_Joiner, T.n_Joiner_patience⟩, trivial⟩ se_var))) (ss_drop (se_bd ms_popT1 (se_fld (by decide +kernel) ⟨⟨T.cl_Joiner, T.n_Joiner_heaps⟩, trivial⟩ se_var) (sa_cons se_var sa_nil))) ss_next))
abbrev s_Joiner_take : Stmt := inClass (topS 15) 3
abbrev N_Joiner_take : List Str := ["self", "packet", "tick", "four", "heap"]
theorem sc_Joiner_take : FnScope N_Joiner_take ["self", "packet", "tick"] (defScope s_Joiner_take) := ⟨rfl, rfl, rfl, by decide +kernel, rfl, by decide +kernel, by decide +kernel⟩
theorem ok_Joiner_take {P : Program} {w : World} {K : PySem.W.Frag} {mg : Str → Option Value} {base : Heap} {a : Addr} {fd : FuncData} {ca : CaT} (T : Txt K mg ca) (F : Fun K "take" "Joiner.take" s_Joiner_take a fd) (M_Heap : Mx P w K mg base 1 "Heap" (ca "Heap") (SpF K ca F_Heap___init__)) (M_Heap_hold : SM.Mt P w K mg base 1 (ca "Heap") "hold" (SpF K ca F_Heap_hold)) (M_Heap_is_there : SM.Mt P w K mg base 1 (ca "Heap") "is_there" (SpF K ca F_Heap_is_there)) (M_Heap_packet_made : SM.Mt P w K mg base 5 (ca "Heap") "packet_made" (SpF K ca F_Heap_packet_made)) (M_Joiner_let_first_go : SM.Mt P w K mg base 1 (ca "Joiner") "let_first_go" (SpF K ca F_Joiner_let_first_go)) (M_Joiner_let_old_go : SM.Mt P w K mg base 1 (ca "Joiner") "let_old_go" (SpF K ca F_Joiner_let_old_go)) :
    FnOk P w K mg base (L2.CX P w) 6 a fd ["self", "packet", "tick"] (SpF K ca F_Joiner_take) := by
  refine SM.Fn.ofF F sc_Joiner_take rfl fun cdv A outer s H E hr => ?_
  have nd := sc_Joiner_take.nd
  refine ⟨_, (pss_cons (ps_if (PW.pt (pw_or (pt_val (pe_callB (call_isiA (K := K)) (by rfl) T.b_isinstance (by decide +kernel) (pa_cons (pv 2) (pa_cons (pe_bltn (v := .ty "bool") (by rfl) T.b_bool (by decide +kernel) rfl) pa_nil)))) (pw_or (pt_not (pt_val (pe_callB (call_isiA (K := K)) (by rfl) T.b_isinstance (by decide +kernel) (pa_cons (pv 2) (pa_cons (pe_bltn (v := .ty "int") (by rfl) T.b_int (by decide +kernel) rfl) pa_nil))))) (pw_or1 (pt_cmpR op_ltU (pv 2) (pe_fld (pv 0) rfl) (nomark _)))))) (pss_one (DL.ps_raiseC rfl (takes_of rfl rfl rfl rfl) (pmk_own PySem.F.excBase_ValueError T.e_NoTick T.g_NoTick T.k_NoTick (raises_own T.b_NoTick T.t_NoTick) rfl))) pss_nil) (pss_cons (ps_fld (pv 0) (pv 2) rfl) (pss_cons (ps_expr (pe_mtX M_Joiner_let_old_go (takes_of rfl rfl rfl rfl) hr (by decide) T.cl_Joiner (pv 0) (pa_cons (pv 2) pa_nil))) (pss_cons (ps_if (PW.pt (pw_and (pt_cmpR (op_eqPK (K := K) (DL.room65 hr)) (pe_fld (pv 1) rfl) pe_int (nomark _)) (pw_and1 (pt_not (pt_val (pe_fld (pv 1) rfl)))))) (pss_one (ps_ret (pv 1))) pss_nil) (pss_cons (ps_set (i := 3) nd rfl (by first | exact Or.inl rfl | exact Or.inr rfl) (pe_tup (pa_cons (pe_fld (pv 1) rfl) (pa_cons (pe_fld (pv 1) rfl) (pa_cons (pe_fld (pv 1) rfl) (pa_cons (pe_fld (pv 1) rfl) pa_nil)))))) (pss_cons (ps_if (pt_cmpR (op_notInAll (K := K) (DL.room65 hr)) (pv 3) (pe_fld (pv 0) rfl) rfl) (pss_one (PS.or (ps_asg (pe_mx M_Heap (takes_of rfl rfl rfl rfl) hr (by decide) rfl (pa_cons (pv 2) (pa_cons (pe_fld (pv 1) rfl) pa_nil))) (pg_sub (pe_fld (pv 0) rfl) (pv 3) set_list)) (ps_dput (DL.room65w hr) (pe_fld (pv 0) rfl) (pv 3) (pe_mx M_Heap (takes_of rfl rfl rfl rfl) hr (by decide) rfl (pa_cons (pv 2) (pa_cons (pe_fld (pv 1) rfl) pa_nil))) rfl))) pss_nil) (pss_cons (ps_set (i := 4) nd rfl (by first | exact Or.inl rfl | exact Or.inr rfl) (pe_dgetO (DL.room65 hr) (pe_fld (pv 0) rfl) (pv 3) (fun _ _ => rfl))) (pss_cons (ps_if (pt_not (pt_val (pe_mtX M_Heap_hold (takes_of rfl rfl rfl rfl) hr (by decide) T.cl_Heap (pv 4) (pa_cons (pv 1) pa_nil)))) (pss_cons (ps_expr (pe_bm PySem.F.plainAttrs_dict PySem.F.slot_dict_pop PySem.F.type_dict_pop (L2.mt_popT1 (DL.room65w hr)) (pe_fld (pv 0) rfl) (pa_cons (pv 3) pa_nil))) (pss_one (ps_ret pe_non))) pss_nil) (pss_cons (ps_if (pt_val (pe_mtX0 M_Heap_is_there (takes_of rfl rfl rfl rfl) hr (by decide) T.cl_Heap (pv 4))) (pss_cons (ps_expr (pe_bm PySem.F.plainAttrs_dict PySem.F.slot_dict_pop PySem.F.type_dict_pop (L2.mt_popT1 (DL.room65w hr)) (pe_fld (pv 0) rfl) (pa_cons (pv 3) pa_nil))) (pss_one (ps_ret (pe_mtX M_Heap_packet_made (takes_of rfl rfl rfl rfl) hr (by decide) T.cl_Heap (pv 4) (pa_cons (pv 3) pa_nil))))) pss_nil) (pss_cons (ps_expr (pe_mtX0 M_Joiner_let_first_go (takes_of rfl rfl rfl rfl) hr (by decide) T.cl_Joiner (pv 0))) (pss_one (ps_ret pe_non)))))))))))), ?_⟩
  exact (ss_seq (ss_if (st_or (st_b (se_cb (cs_isi T.isO T.isX T.isT) (sa_cons se_var (sa_cons se_ty sa_nil)))) (st_or (st_not (st_b (se_cb (cs_isi T.isO T.isX T.isT) (sa_cons se_var (sa_cons se_ty sa_nil))))) (st_test (se_op os_lt se_var (se_fld (by decide +kernel) ⟨⟨T.cl_Joiner, T.n_Joiner_last_tick⟩, trivial⟩ se_var))))) (ss_raise rfl) ss_next) (ss_seq (ss_fl (by decide +kernel) ⟨⟨T.cl_Joiner, T.n_Joiner_last_tick⟩, trivial⟩ se_var se_var) (ss_seq (ss_drop (meth_one (by decide +kernel) se_var (sa_cons se_var sa_nil))) (ss_seq (ss_if (st_and (st_test (se_op os_eq (se_fld (by decide +kernel) ⟨⟨T.cl_Packet, T.n_Packet_first⟩, trivial⟩ se_var) se_int)) (st_not (st_b (se_fld (by decide +kernel) ⟨⟨T.cl_Packet, T.n_Packet_more⟩, trivial⟩ se_var)))) (ss_ret se_var) ss_next) (ss_seq (ss_set (se_tup (sa_cons (se_fld (by decide +kernel) ⟨⟨T.cl_Packet, T.n_Packet_source⟩, trivial⟩ se_var) (sa_cons (se_fld (by decide +kernel) ⟨⟨T.cl_Packet, T.n_Packet_target⟩, trivial⟩ se_var) (sa_cons (se_fld (by decide +kernel) ⟨⟨T.cl_Packet, T.n_Packet_kind⟩, trivial⟩ se_var) (sa_cons (se_fld (by decide +kernel) ⟨⟨T.cl_Packet, T.n_Packet_name⟩, trivial⟩ se_var) sa_nil)))))) (ss_seq (ss_if (st_test (se_op os_notin se_var (se_fld (by decide +kernel) ⟨⟨T.cl_Joiner, T.n_Joiner_heaps⟩, trivial⟩ se_var))) (ss_put (se_fld (by decide +kernel) ⟨⟨T.cl_Joiner, T.n_Joiner_heaps⟩, trivial⟩ se_var) se_var (se_make (sa_cons se_var (sa_cons (se_fld (by decide +kernel) ⟨⟨T.cl_Packet, T.n_Packet_life⟩, trivial⟩ se_var) sa_nil)))) ss_next) (ss_seq (ss_set (se_op os_dget (se_fld (by decide +kernel) ⟨⟨T.cl_Joiner, T.n_Joiner_heaps⟩, trivial⟩ se_var) se_var)) (ss_seq (ss_if (st_not (st_b (meth_one (by decide +kernel) se_var (sa_cons se_var sa_nil)))) (ss_seq (ss_drop (se_bd ms_popT1 (se_fld (by decide +kernel) ⟨⟨T.cl_Joiner, T.n_Joiner_heaps⟩, trivial⟩ se_var) (sa_cons se_var sa_nil))) (ss_ret se_non)) ss_next) (ss_seq (ss_if (st_b (meth_one (by decide +kernel) se_var sa_nil)) (ss_seq (ss_drop (se_bd ms_popT1 (se_fld (by decide +kernel) ⟨⟨T.cl_Joiner, T.n_Joiner_heaps⟩, trivial⟩ se_var) (sa_cons se_var sa_nil))) (ss_ret (meth_one (by decide +kernel) se_var (sa_cons se_var sa_nil)))) ss_next) (ss_seq (ss_drop (meth_one (by decide +kernel) se_var sa_nil)) (ss_ret se_non)))))))))))
abbrev s_Packet_told : Stmt := inClass (topS 11) 1
abbrev N_Packet_told : List Str := ["self", "ends"]
theorem sc_Packet_told : FnScope N_Packet_told ["self"] (defScope s_Packet_told) := ⟨rfl, rfl, rfl, by decide +kernel, rfl, by decide +kernel, by decide +kernel⟩
theorem ok_Packet_told {P : Program} {w : World} {K : PySem.W.Frag} {mg : Str → Option Value} {base : Heap} {a : Addr} {fd : FuncData} {ca : CaT} (T : Txt K mg ca) (F : Fun K "told" "Packet.told" s_Packet_told a fd)  :
    FnOk P w K mg base (L2.CX P w) 1 a fd ["self"] (SpF K ca F_Packet_told) := by
  refine SM.Fn.ofF F sc_Packet_told rfl fun cdv A outer s H E hr => ?_
  have nd := sc_Packet_told.nd
  refine ⟨_, (pss_cons (ps_set (i := 1) nd rfl (by first | exact Or.inl rfl | exact Or.inr rfl) (pe_tup (pa_cons (pe_fld (pv 0) rfl) (pa_cons (pe_fld (pv 0) rfl) (pa_cons (pe_fld (pv 0) rfl) (pa_cons (pe_fld (pv 0) rfl) pa_nil)))))) (pss_one (ps_ret (pe_op (op_addU (K := K)) (pv 1) (pe_tup (pa_cons (pe_fld (pv 0) rfl) (pa_cons (pe_fld (pv 0) rfl) (pa_cons (pe_fld (pv 0) rfl) (pa_cons (pe_fld (pv 0) rfl) pa_nil))))))))), ?_⟩
  exact (ss_seq (ss_set (se_tup (sa_cons (se_fld (by decide +kernel) ⟨⟨T.cl_Packet, T.n_Packet_source⟩, trivial⟩ se_var) (sa_cons (se_fld (by decide +kernel) ⟨⟨T.cl_Packet, T.n_Packet_target⟩, trivial⟩ se_var) (sa_cons (se_fld (by decide +kernel) ⟨⟨T.cl_Packet, T.n_Packet_kind⟩, trivial⟩ se_var) (sa_cons (se_fld (by decide +kernel) ⟨⟨T.cl_Packet, T.n_Packet_life⟩, trivial⟩ se_var) sa_nil)))))) (ss_ret (se_op os_add se_var (se_tup (sa_cons (se_fld (by decide +kernel) ⟨⟨T.cl_Packet, T.n_Packet_name⟩, trivial⟩ se_var) (sa_cons (se_fld (by decide +kernel) ⟨⟨T.cl_Packet, T.n_Packet_first⟩, trivial⟩ se_var) (sa_cons (se_fld (by decide +kernel) ⟨⟨T.cl_Packet, T.n_Packet_more⟩, trivial⟩ se_var) (sa_cons (se_fld (by decide +kernel) ⟨⟨T.cl_Packet, T.n_Packet_data⟩, trivial⟩ se_var) sa_nil))))))))
abbrev s_l_cell_at : Stmt := topS 17
abbrev N_l_cell_at : List Str := ["_law_script", "_law_k"]
theorem sc_l_cell_at : FnScope N_l_cell_at ["_law_script", "_law_k"] (defScope s_l_cell_at) := ⟨rfl, rfl, rfl, by decide +kernel, rfl, by decide +kernel, by decide +kernel⟩
theorem ok_l_cell_at {P : Program} {w : World} {K : PySem.W.Frag} {mg : Str → Option Value} {base : Heap} {a : Addr} {fd : FuncData} {ca : CaT} (T : Txt K mg ca) (F : Fun K "_law_cell_at" "_law_cell_at" s_l_cell_at a fd)  :
    FnOk P w K mg base (L2.CX P w) 1 a fd ["_law_script", "_law_k"] (SpF K ca F_l_cell_at) := by
  refine SM.Fn.ofF F sc_l_cell_at rfl fun cdv A outer s H E hr => ?_
  have nd := sc_l_cell_at.nd
  refine ⟨_, (pss_cons (ps_if (pt_cmpR op_ltU (pv 1) (pe_callB (call_lenU (K := K)) (by rfl) T.b_len (by decide +kernel) (pa_cons (pv 0) pa_nil)) (nomark _)) (pss_one (ps_ret (pe_ix (ix_U (K := K)) (pv 0) (pv 1) (fun _ _ => rfl)))) pss_nil) (pss_one (ps_ret pe_int))), ?_⟩
  exact (ss_seq (ss_if (st_test (se_op os_lt se_var (se_cb cs_len (sa_cons se_var sa_nil)))) (ss_ret (se_op os_ix se_var se_var)) ss_next) (ss_ret se_int))
abbrev s_l_next : Stmt := topS 19
abbrev N_l_next : List Str := ["_law_state_here", "_law_size", "_law_found", "_law_mixed"]
theorem sc_l_next : FnScope N_l_next ["_law_state_here", "_law_size"] (defScope s_l_next) := ⟨rfl, rfl, rfl, by decide +kernel, rfl, by decide +kernel, by decide +kernel⟩
theorem ok_l_next {P : Program} {w : World} {K : PySem.W.Frag} {mg : Str → Option Value} {base : Heap} {a : Addr} {fd : FuncData} {ca : CaT} (T : Txt K mg ca) (F : Fun K "_law_next" "_law_next" s_l_next a fd)  :
    FnOk P w K mg base (L2.CX P w) 1 a fd ["_law_state_here", "_law_size"] (SpF K ca F_l_next) := by
  refine SM.Fn.ofF F sc_l_next rfl fun cdv A outer s H E hr => ?_
  have nd := sc_l_next.nd
  refine ⟨_, (pss_cons (ps_if (pt_cmpR op_gtU (pe_ix (ix_U (K := K)) (pv 0) pe_int (fun _ _ => rfl)) pe_int (nomark _)) (pss_cons (ps_set (i := 2) nd rfl (by first | exact Or.inl rfl | exact Or.inr rfl) (pe_op op_modU (pe_ix (ix_U (K := K)) (pv 0) pe_int (fun _ _ => rfl)) (pv 1))) (pss_cons (PS.or (ps_asg (pe_op op_divU (pe_ix (ix_U (K := K)) (pv 0) pe_int (fun _ _ => rfl)) (pv 1)) (pg_sub (pv 0) pe_int set_list)) (ps_dput (DL.room65w hr) (pv 0) pe_int (pe_op op_divU (pe_ix (ix_U (K := K)) (pv 0) pe_int (fun _ _ => rfl)) (pv 1)) rfl)) (pss_one (ps_ret (pv 2))))) pss_nil) (pss_cons (PS.or (ps_asg (pe_op op_modU (pe_op (op_addU (K := K)) (pe_op (op_mulA (K := K)) (pe_ix (ix_U (K := K)) (pv 0) pe_int (fun _ _ => rfl)) pe_int) pe_int) pe_int) (pg_sub (pv 0) pe_int set_list)) (ps_dput (DL.room65w hr) (pv 0) pe_int (pe_op op_modU (pe_op (op_addU (K := K)) (pe_op (op_mulA (K := K)) (pe_ix (ix_U (K := K)) (pv 0) pe_int (fun _ _ => rfl)) pe_int) pe_int) pe_int) rfl)) (pss_cons (ps_set (i := 3) nd rfl (by first | exact Or.inl rfl | exact Or.inr rfl) (pe_op op_modU (pe_op (op_mulA (K := K)) (pe_ix (ix_U (K := K)) (pv 0) pe_int (fun _ _ => rfl)) (pe_ix (ix_U (K := K)) (pv 0) pe_int (fun _ _ => rfl))) pe_int)) (pss_one (ps_ret (pe_op op_modU (pe_op op_divU (pe_op op_modU (pe_op (op_addU (K := K)) (pe_op (op_mulA (K := K)) (pv 3) pe_int) (pe_ix (ix_U (K := K)) (pv 0) pe_int (fun _ _ => rfl))) pe_int) pe_int) (pv 1))))))), ?_⟩
  exact (ss_seq (ss_if (st_test (se_op os_gt (se_op os_ix se_var se_int) se_int)) (ss_seq (ss_set (se_op os_mod (se_op os_ix se_var se_int) se_var)) (ss_seq (ss_put se_var se_int (se_op os_div (se_op os_ix se_var se_int) se_var)) (ss_ret se_var))) ss_next) (ss_seq (ss_put se_var se_int (se_op os_mod (se_op os_add (se_op os_mul (se_op os_ix se_var se_int) se_int) se_int) se_int)) (ss_seq (ss_set (se_op os_mod (se_op os_mul (se_op os_ix se_var se_int) (se_op os_ix se_var se_int)) se_int)) (ss_ret (se_op os_mod (se_op os_div (se_op os_mod (se_op os_add (se_op os_mul se_var se_int) (se_op os_ix se_var se_int)) se_int) se_int) se_var)))))
abbrev s_l_packet_of : Stmt := topS 20
abbrev N_l_packet_of : List Str := ["_law_row"]
theorem sc_l_packet_of : FnScope N_l_packet_of ["_law_row"] (defScope s_l_packet_of) := ⟨rfl, rfl, rfl, by decide +kernel, rfl, by decide +kernel, by decide +kernel⟩
theorem ok_l_packet_of {P : Program} {w : World} {K : PySem.W.Frag} {mg : Str → Option Value} {base : Heap} {a : Addr} {fd : FuncData} {ca : CaT} (T : Txt K mg ca) (F : Fun K "_law_packet_of" "_law_packet_of" s_l_packet_of a fd) (M_Packet : Mx P w K mg base 3 "Packet" (ca "Packet") (SpF K ca F_Packet___init__)) :
    FnOk P w K mg base (L2.CX P w) 5 a fd ["_law_row"] (SpF K ca F_l_packet_of) := by
  refine SM.Fn.ofF F sc_l_packet_of rfl fun cdv A outer s H E hr => ?_
  have nd := sc_l_packet_of.nd
  refine ⟨_, (pss_one (ps_ret (pe_mx M_Packet (takes_of rfl rfl rfl rfl) hr (by decide) rfl (pa_cons (pe_ix (ix_U (K := K)) (pv 0) pe_int (fun _ _ => rfl)) (pa_cons (pe_ix (ix_U (K := K)) (pv 0) pe_int (fun _ _ => rfl)) (pa_cons (pe_ix (ix_U (K := K)) (pv 0) pe_int (fun _ _ => rfl)) (pa_cons (pe_ix (ix_U (K := K)) (pv 0) pe_int (fun _ _ => rfl)) (pa_cons (pe_ix (ix_U (K := K)) (pv 0) pe_int (fun _ _ => rfl)) (pa_cons (pe_ix (ix_U (K := K)) (pv 0) pe_int (fun _ _ => rfl)) (pa_cons (pe_ix (ix_U (K := K)) (pv 0) pe_int (fun _ _ => rfl)) (pa_cons (pe_ix (ix_U (K := K)) (pv 0) pe_int (fun _ _ => rfl)) pa_nil))))))))))), ?_⟩
  exact (ss_ret (se_make (sa_cons (se_op os_ix se_var se_int) (sa_cons (se_op os_ix se_var se_int) (sa_cons (se_op os_ix se_var se_int) (sa_cons (se_op os_ix se_var se_int) (sa_cons (se_op os_ix se_var se_int) (sa_cons (se_op os_ix se_var se_int) (sa_cons (se_op os_ix se_var se_int) (sa_cons (se_op os_ix se_var se_int) sa_nil))))))))))
abbrev s_l_piece : Stmt := topS 23
abbrev N_l_piece : List Str := ["_law_state_here", "_law_head", "_law_first", "_law_data", "_law_k"]
theorem sc_l_piece : FnScope N_l_piece ["_law_state_here"] (defScope s_l_piece) := ⟨rfl, rfl, rfl, by decide +kernel, rfl, by decide +kernel, by decide +kernel⟩
theorem ok_l_piece {P : Program} {w : World} {K : PySem.W.Frag} {mg : Str → Option Value} {base : Heap} {a : Addr} {fd : FuncData} {ca : CaT} (T : Txt K mg ca) (F : Fun K "_law_piece" "_law_piece" s_l_piece a fd) (C_l_next : Dx P w K mg base 1 "_law_next" (SpF K ca F_l_next)) :
    FnOk P w K mg base (L2.CX P w) 2 a fd ["_law_state_here"] (SpF K ca F_l_piece) := by
  refine SM.Fn.ofF F sc_l_piece rfl fun cdv A outer s H E hr => ?_
  have nd := sc_l_piece.nd
  refine ⟨_, (pss_cons (ps_set (i := 1) nd rfl (by first | exact Or.inl rfl | exact Or.inr rfl) (pe_tup (pa_cons pe_int (pa_cons (pe_ix (ix_U (K := K)) (pe_lst (pa_cons pe_int (pa_cons pe_int (pa_cons pe_int pa_nil)))) (pe_dx C_l_next (takes_of rfl rfl rfl rfl) hr (by decide) rfl (pa_cons (pv 0) (pa_cons pe_int pa_nil))) (fun _ _ => rfl)) (pa_cons pe_int (pa_cons (pe_dx C_l_next (takes_of rfl rfl rfl rfl) hr (by decide) rfl (pa_cons (pv 0) (pa_cons pe_int pa_nil))) (pa_cons (pe_dx C_l_next (takes_of rfl rfl rfl rfl) hr (by decide) rfl (pa_cons (pv 0) (pa_cons pe_int pa_nil))) pa_nil))))))) (pss_cons (ps_set (i := 2) nd rfl (by first | exact Or.inl rfl | exact Or.inr rfl) (pe_ix (ix_U (K := K)) (pe_lst (pa_cons pe_int (pa_cons (pe_dx C_l_next (takes_of rfl rfl rfl rfl) hr (by decide) rfl (pa_cons (pv 0) (pa_cons pe_int pa_nil))) (pa_cons (pe_op (op_mulA (K := K)) pe_int (pe_dx C_l_next (takes_of rfl rfl rfl rfl) hr (by decide) rfl (pa_cons (pv 0) (pa_cons pe_int pa_nil)))) pa_nil)))) (pe_dx C_l_next (takes_of rfl rfl rfl rfl) hr (by decide) rfl (pa_cons (pv 0) (pa_cons pe_int pa_nil))) (fun _ _ => rfl))) (pss_cons (ps_set (i := 3) nd rfl (by first | exact Or.inl rfl | exact Or.inr rfl) (pe_callTy (call_tupleU (K := K)) (by rfl) T.b_tuple (by decide +kernel) (pa_cons (pe_lc (own := [("_law_k", 4)]) (g := (gName 4)) rfl nd (pi_range1 rfl T.b_range (pa_cons (pe_ix (ix_U (K := K)) (pe_lst (pa_cons (pe_dx C_l_next (takes_of rfl rfl rfl rfl) hr (by decide) rfl (pa_cons (pv 0) (pa_cons pe_int pa_nil))) (pa_cons pe_int pa_nil))) (pe_dx C_l_next (takes_of rfl rfl rfl rfl) hr (by decide) rfl (pa_cons (pv 0) (pa_cons pe_int pa_nil))) (fun _ _ => rfl)) pa_nil)) (blkOk_by (own := [("_law_k", 4)]) (N := N_l_piece) (sc := defScope s_l_piece) (by decide +kernel)) (fun _ _ _ _ _ => (pg_name (i := 4) nd rfl (by first | exact Or.inl rfl | exact Or.inr rfl))) (fun _ _ _ _ _ => pts_nil) (fun _ _ _ _ _ => (pe_dx0 C_l_next hr (by decide) rfl (pa_cons (pv 0) (pa_cons pe_int pa_nil))))) pa_nil))) (pss_one (ps_ret (pe_op (op_addU (K := K)) (pv 1) (pe_tup (pa_cons (pv 2) (pa_cons (pe_cmpR op_gtU (pe_dx C_l_next (takes_of rfl rfl rfl rfl) hr (by decide) rfl (pa_cons (pv 0) (pa_cons pe_int pa_nil))) pe_int (nomark _)) (pa_cons (pv 3) pa_nil)))))))))), ?_⟩
  exact (ss_seq (ss_set (se_tup (sa_cons se_int (sa_cons (se_op os_ix (se_lst (sa_cons se_int (sa_cons se_int (sa_cons se_int sa_nil)))) (se_call (sa_cons se_var (sa_cons se_int sa_nil)))) (sa_cons se_int (sa_cons (se_call (sa_cons se_var (sa_cons se_int sa_nil))) (sa_cons (se_call (sa_cons se_var (sa_cons se_int sa_nil))) sa_nil))))))) (ss_seq (ss_set (se_op os_ix (se_lst (sa_cons se_int (sa_cons (se_call (sa_cons se_var (sa_cons se_int sa_nil))) (sa_cons (se_op os_mul se_int (se_call (sa_cons se_var (sa_cons se_int sa_nil)))) sa_nil)))) (se_call (sa_cons se_var (sa_cons se_int sa_nil))))) (ss_seq (ss_set (se_cb cs_tuple (sa_cons (se_lc (W2 := fun _ _ _ _ => False) (sw_r1 (sa_cons (se_op os_ix (se_lst (sa_cons (se_call (sa_cons se_var (sa_cons se_int sa_nil))) (sa_cons se_int sa_nil))) (se_call (sa_cons se_var (sa_cons se_int sa_nil)))) sa_nil)) sg_name (by decide) st_yes (se_call0 (sa_cons se_var (sa_cons se_int sa_nil)))) sa_nil))) (ss_ret (se_op os_add se_var (se_tup (sa_cons se_var (sa_cons (se_op os_gt (se_call (sa_cons se_var (sa_cons se_int sa_nil))) se_int) (sa_cons se_var sa_nil)))))))))
abbrev s_l_same : Stmt := topS 21
abbrev N_l_same : List Str := ["_law_found", "_law_due", "_law_told", "_law_k", "_law_byte"]
theorem sc_l_same : FnScope N_l_same ["_law_found", "_law_due"] (defScope s_l_same) := ⟨rfl, rfl, rfl, by decide +kernel, rfl, by decide +kernel, by decide +kernel⟩
theorem ok_l_same {P : Program} {w : World} {K : PySem.W.Frag} {mg : Str → Option Value} {base : Heap} {a : Addr} {fd : FuncData} {ca : CaT} (T : Txt K mg ca) (F : Fun K "_law_same" "_law_same" s_l_same a fd) (M_Packet_told : SM.Mt P w K mg base 1 (ca "Packet") "told" (SpF K ca F_Packet_told)) :
    FnOk P w K mg base (L2.CX P w) 2 a fd ["_law_found", "_law_due"] (SpF K ca F_l_same) := by
  refine SM.Fn.ofF F sc_l_same rfl fun cdv A outer s H E hr => ?_
  have nd := sc_l_same.nd
  refine ⟨_, (pss_cons (ps_if (PW.pt (pw_or (pt_cmpR op_isU (pv 1) pe_non (nomark _)) (pw_or1 (pt_not (pt_val (pe_callB (call_isiA (K := K)) (by rfl) T.b_isinstance (by decide +kernel) (pa_cons (pv 0) (pa_cons (pe_glob (v := .ref (ca "Packet")) rfl T.g_Packet rfl) pa_nil)))))))) (pss_one (ps_ret (pe_and (pe_cmpR op_isU (pv 1) pe_non (nomark _)) (pe_one (pe_cmpR op_isU (pv 0) pe_non (nomark _)))))) pss_nil) (pss_cons (ps_set (i := 2) nd rfl (by first | exact Or.inl rfl | exact Or.inr rfl) (pe_mtX0 M_Packet_told (takes_of rfl rfl rfl rfl) hr (by decide) T.cl_Packet (pv 0))) (pss_cons (ps_if (PW.pt (pw_or (pt_not (pt_val (pe_callB (call_isiA (K := K)) (by rfl) T.b_isinstance (by decide +kernel) (pa_cons (pv 2) (pa_cons (pe_bltn (v := .ty "tuple") (by rfl) T.b_tuple (by decide +kernel) rfl) pa_nil))))) (pw_or (pt_cmpR (op_nePK (K := K) (DL.room65 hr)) (pv 2) (pv 1) (nomark _)) (pw_or1 (pt_not (pt_val (pe_callB (call_isiA (K := K)) (by rfl) T.b_isinstance (by decide +kernel) (pa_cons (pe_ix (ix_U (K := K)) (pv 2) pe_int (fun _ _ => rfl)) (pa_cons (pe_bltn (v := .ty "tuple") (by rfl) T.b_tuple (by decide +kernel) rfl) pa_nil))))))))) (pss_one (ps_ret pe_bl)) pss_nil) (pss_cons (ps_if (pt_cmpR (op_nePK (K := K) (DL.room65 hr)) (pe_lc (own := [("_law_k", 3)]) (g := (gName 3)) rfl nd (pi_range1 rfl T.b_range (pa_cons pe_int pa_nil)) (blkOk_by (own := [("_law_k", 3)]) (N := N_l_same) (sc := defScope s_l_same) (by decide +kernel)) (fun _ _ _ _ _ => (pg_name (i := 3) nd rfl (by first | exact Or.inl rfl | exact Or.inr rfl))) (fun _ _ _ _ _ => (pts_one (pt_cmpR (op_nePK (K := K) (DL.room65 hr)) (pe_callB (call_isiA (K := K)) (by rfl) T.b_isinstance (by decide +kernel) (pa_cons (pe_ix (ix_U (K := K)) (pv 2) (pv 3) (fun _ _ => rfl)) (pa_cons (pe_bltn (v := .ty "bool") (by rfl) T.b_bool (by decide +kernel) rfl) pa_nil))) (pe_cmpR (op_eqPK (K := K) (DL.room65 hr)) (pv 3) pe_int (nomark _)) (nomark _)))) (fun _ _ _ _ _ => (pv 3))) (pe_lst pa_nil) (nomark _)) (pss_one (ps_ret pe_bl)) pss_nil) (pss_one (ps_ret (pe_cmpR (op_eqPK (K := K) (DL.room65 hr)) (pe_lc (own := [("_law_byte", 4)]) (g := (gName 4)) rfl nd (pi_seqU (K := K) (pe_ix (ix_U (K := K)) (pv 2) pe_int (fun _ _ => rfl))) (blkOk_by (own := [("_law_byte", 4)]) (N := N_l_same) (sc := defScope s_l_same) (by decide +kernel)) (fun _ _ _ _ _ => (pg_name (i := 4) nd rfl (by first | exact Or.inl rfl | exact Or.inr rfl))) (fun _ _ _ _ _ => (pts_one (pt_val (pe_callB (call_isiA (K := K)) (by rfl) T.b_isinstance (by decide +kernel) (pa_cons (pv 4) (pa_cons (pe_bltn (v := .ty "bool") (by rfl) T.b_bool (by decide +kernel) rfl) pa_nil)))))) (fun _ _ _ _ _ => (pv 4))) (pe_lst pa_nil) (nomark _)))))))), ?_⟩
  exact (ss_seq (ss_if (st_or (st_test (se_op os_is se_var se_non)) (st_not (st_b (se_cb (cs_isi T.isO T.isX T.isT) (sa_cons se_var (sa_cons (se_nm rfl) sa_nil)))))) (ss_ret (se_and (se_op os_is se_var se_non) (se_op os_is se_var se_non))) ss_next) (ss_seq (ss_set (meth_one (by decide +kernel) se_var sa_nil)) (ss_seq (ss_if (st_or (st_not (st_b (se_cb (cs_isi T.isO T.isX T.isT) (sa_cons se_var (sa_cons se_ty sa_nil))))) (st_or (st_test (se_op os_ne se_var se_var)) (st_not (st_b (se_cb (cs_isi T.isO T.isX T.isT) (sa_cons (se_op os_ix se_var se_int) (sa_cons se_ty sa_nil))))))) (ss_ret se_bl) ss_next) (ss_seq (ss_if (st_test (se_op os_ne (se_lc (W2 := fun _ _ _ _ => False) (sw_r1 (sa_cons se_int sa_nil)) sg_name (by decide) (st_test (se_op os_ne (se_cb (cs_isi T.isO T.isX T.isT) (sa_cons (se_op os_ix se_var se_var) (sa_cons se_ty sa_nil))) (se_op os_eq se_var se_int))) se_var) (se_lst sa_nil))) (ss_ret se_bl) ss_next) (ss_ret (se_op os_eq (se_lc (W2 := fun _ _ _ _ => False) (sw_seq (se_op os_ix se_var se_int)) sg_name (by decide) (st_b (se_cb (cs_isi T.isO T.isX T.isT) (sa_cons se_var (sa_cons se_ty sa_nil)))) se_var) (se_lst sa_nil)))))))
abbrev s_l_state : Stmt := topS 18
abbrev N_l_state : List Str := ["_law_cell", "_law_k", "_law_drawn"]
theorem sc_l_state : FnScope N_l_state ["_law_cell", "_law_k"] (defScope s_l_state) := ⟨rfl, rfl, rfl, by decide +kernel, rfl, by decide +kernel, by decide +kernel⟩
theorem ok_l_state {P : Program} {w : World} {K : PySem.W.Frag} {mg : Str → Option Value} {base : Heap} {a : Addr} {fd : FuncData} {ca : CaT} (T : Txt K mg ca) (F : Fun K "_law_state" "_law_state" s_l_state a fd)  :
    FnOk P w K mg base (L2.CX P w) 1 a fd ["_law_cell", "_law_k"] (SpF K ca F_l_state) := by
  refine SM.Fn.ofF F sc_l_state rfl fun cdv A outer s H E hr => ?_
  have nd := sc_l_state.nd
  refine ⟨_, (pss_cons (ps_set (i := 2) nd rfl (by first | exact Or.inl rfl | exact Or.inr rfl) (pe_op op_modU (pe_op (op_mulA (K := K)) (pe_op (op_addU (K := K)) (pe_op (op_addU (K := K)) (pv 0) (pe_op (op_mulA (K := K)) pe_int (pv 1))) pe_int) pe_int) pe_int)) (pss_one (ps_ret (pe_lst (pa_cons (pe_op (op_mulA (K := K)) (pv 0) (pe_callTy call_intU (by rfl) T.b_int (by decide +kernel) (pa_cons (pe_cmpR op_geU (pv 0) (pe_op op_powU pe_int pe_int) (nomark _)) pa_nil))) (pa_cons (pe_op op_modU (pe_op (op_addU (K := K)) (pe_op (op_addU (K := K)) (pe_op (op_mulA (K := K)) (pv 2) (pv 2)) (pe_op (op_mulA (K := K)) pe_int (pv 2))) (pv 1)) pe_int) pa_nil)))))), ?_⟩
  exact (ss_seq (ss_set (se_op os_mod (se_op os_mul (se_op os_add (se_op os_add se_var (se_op os_mul se_int se_var)) se_int) se_int) se_int)) (ss_ret (se_lst (sa_cons (se_op os_mul se_var (se_cb cs_int (sa_cons (se_op os_ge se_var (se_op os_pow se_int se_int)) sa_nil))) (sa_cons (se_op os_mod (se_op os_add (se_op os_add (se_op os_mul se_var se_var) (se_op os_mul se_int se_var)) se_var) se_int) sa_nil)))))
abbrev s_l_taken : Stmt := topS 22
abbrev N_l_taken : List Str := ["_law_m", "_law_row", "_law_tick", "_law_four", "_law_heap", "_law_k", "_law_byte", "_law_ends", "_law_unlike", "_law_place", "_law_data", "_law_one", "_law_key"]
theorem sc_l_taken : FnScope N_l_taken ["_law_m", "_law_row", "_law_tick"] (defScope s_l_taken) := ⟨rfl, rfl, rfl, by decide +kernel, rfl, by decide +kernel, by decide +kernel⟩
theorem ok_l_taken {P : Program} {w : World} {K : PySem.W.Frag} {mg : Str → Option Value} {base : Heap} {a : Addr} {fd : FuncData} {ca : CaT} (T : Txt K mg ca) (F : Fun K "_law_taken" "_law_taken" s_l_taken a fd)  :
    FnOk P w K mg base (L2.CX P w) 1 a fd ["_law_m", "_law_row", "_law_tick"] (SpF K ca F_l_taken) := by
  refine SM.Fn.ofF F sc_l_taken rfl fun cdv A outer s H E hr => ?_
  have nd := sc_l_taken.nd
  refine ⟨_, (pss_cons (ps_for (passes_of rfl) rfl (pi_seqU (K := K) (pe_callTy (L2.call_list_dT rfl) (by rfl) T.b_list (by decide +kernel) (pa_cons (pe_dgetO (DL.room65 hr) (pv 0) pe_str (fun _ _ => rfl)) pa_nil))) (pg_name (i := 3) nd rfl (by first | exact Or.inl rfl | exact Or.inr rfl)) (pss_one (ps_if (pt_cmpR op_geU (pe_op op_subU (pv 2) (pe_ix (ix_U (K := K)) (pe_dgetO (DL.room65 hr) (pe_dgetO (DL.room65 hr) (pv 0) pe_str (fun _ _ => rfl)) (pv 3) (fun _ _ => rfl)) pe_int (fun _ _ => rfl))) (pe_dgetO (DL.room65 hr) (pv 0) pe_str (fun _ _ => rfl)) (nomark _)) (pss_one (ps_expr (pe_bm PySem.F.plainAttrs_dict PySem.F.slot_dict_pop PySem.F.type_dict_pop (L2.mt_popT1 (DL.room65w hr)) (pe_dgetO (DL.room65 hr) (pv 0) pe_str (fun _ _ => rfl)) (pa_cons (pv 3) pa_nil)))) pss_nil))) (pss_cons (ps_if (PW.pt (pw_and (pt_cmpR (op_eqPK (K := K) (DL.room65 hr)) (pe_ix (ix_U (K := K)) (pv 1) pe_int (fun _ _ => rfl)) pe_int (nomark _)) (pw_and1 (pt_not (pt_val (pe_ix (ix_U (K := K)) (pv 1) pe_int (fun _ _ => rfl))))))) (pss_one (ps_ret (pv 1))) pss_nil) (pss_cons (ps_set (i := 3) nd rfl (by first | exact Or.inl rfl | exact Or.inr rfl) (pe_op (op_addU (K := K)) (pe_slice (sl_U (K := K)) (pv 1) po_none (po_some pe_int)) (pe_tup (pa_cons (pe_ix (ix_U (K := K)) (pv 1) pe_int (fun _ _ => rfl)) pa_nil)))) (pss_cons (ps_set (i := 4) nd rfl (by first | exact Or.inl rfl | exact Or.inr rfl) (pe_bm PySem.F.plainAttrs_dict PySem.F.slot_dict_setdefault PySem.F.type_dict_setdefault (L2.mt_setdT (DL.room65w hr)) (pe_dgetO (DL.room65 hr) (pv 0) pe_str (fun _ _ => rfl)) (pa_cons (pv 3) (pa_cons (pe_lst (pa_cons (pv 2) (pa_cons (pe_ix (ix_U (K := K)) (pv 1) pe_int (fun _ _ => rfl)) (pa_cons pe_non (pa_cons pe_dnewK pa_nil))))) pa_nil)))) (pss_cons (PS.or (ps_asg (pe_callB (call_min2U rfl) (by rfl) T.b_min (by decide +kernel) (pa_cons (pe_ix (ix_U (K := K)) (pv 4) pe_int (fun _ _ => rfl)) (pa_cons (pe_ix (ix_U (K := K)) (pv 1) pe_int (fun _ _ => rfl)) pa_nil))) (pg_sub (pv 4) pe_int set_list)) (ps_dput (DL.room65w hr) (pv 4) pe_int (pe_callB (call_min2U rfl) (by rfl) T.b_min (by decide +kernel) (pa_cons (pe_ix (ix_U (K := K)) (pv 4) pe_int (fun _ _ => rfl)) (pa_cons (pe_ix (ix_U (K := K)) (pv 1) pe_int (fun _ _ => rfl)) pa_nil))) rfl)) (pss_cons (ps_for (passes_of rfl) rfl (pi_enumA (by rfl) T.b_enumerate (pa_cons (pe_ix (ix_U (K := K)) (pv 1) pe_int (fun _ _ => rfl)) pa_nil)) (pg_tup rfl (pgs_cons (pg_name (i := 5) nd rfl (by first | exact Or.inl rfl | exact Or.inr rfl)) (pgs_cons (pg_name (i := 6) nd rfl (by first | exact Or.inl rfl | exact Or.inr rfl)) pgs_nil))) (pss_one (ps_expr (pe_dsetd (pe_ix (ix_U (K := K)) (pv 4) pe_int (fun _ _ => rfl)) (pe_op (op_addU (K := K)) (pe_ix (ix_U (K := K)) (pv 1) pe_int (fun _ _ => rfl)) (pv 5)) (pv 6) ⟨rfl, rfl, rfl, rfl⟩)))) (pss_cons (ps_set (i := 7) nd rfl (by first | exact Or.inl rfl | exact Or.inr rfl) (pe_lst (pa_cons (pe_ix (ix_U (K := K)) (pv 4) pe_int (fun _ _ => rfl)) (pa_cons (pe_op (op_addU (K := K)) (pe_ix (ix_U (K := K)) (pv 1) pe_int (fun _ _ => rfl)) (pe_callB (call_lenU (K := K)) (by rfl) T.b_len (by decide +kernel) (pa_cons (pe_ix (ix_U (K := K)) (pv 1) pe_int (fun _ _ => rfl)) pa_nil))) pa_nil)))) (pss_cons (ps_if (pt_not (pt_val (pe_ix (ix_U (K := K)) (pv 1) pe_int (fun _ _ => rfl)))) (pss_one (PS.or (ps_asg (pe_ix (ix_U (K := K)) (pv 7) pe_int (fun _ _ => rfl)) (pg_sub (pv 4) pe_int set_list)) (ps_dput (DL.room65w hr) (pv 4) pe_int (pe_ix (ix_U (K := K)) (pv 7) pe_int (fun _ _ => rfl)) rfl))) pss_nil) (pss_cons (ps_set (i := 8) nd rfl (by first | exact Or.inl rfl | exact Or.inr rfl) (pe_and (pe_cmpR op_notU (pe_ix (ix_U (K := K)) (pv 7) pe_int (fun _ _ => rfl)) pe_non (nomark _)) (pe_and (pe_not (pe_ix (ix_U (K := K)) (pv 1) pe_int (fun _ _ => rfl))) (pe_one (pe_cmpR (op_nePK (K := K) (DL.room65 hr)) (pe_ix (ix_U (K := K)) (pv 7) pe_int (fun _ _ => rfl)) (pe_ix (ix_U (K := K)) (pv 7) pe_int (fun _ _ => rfl)) (nomark _)))))) (pss_cons (ps_if (PW.pt (pw_or (pt_val (pv 8)) (pw_or1 (PW.pt (pw_and (pt_cmpR op_notU (pe_ix (ix_U (K := K)) (pv 4) pe_int (fun _ _ => rfl)) pe_non (nomark _)) (pw_and1 (pt_cmpR (op_nePK (K := K) (DL.room65 hr)) (pe_lock (pe_lc (own := [("_law_place", 9)]) (g := (gName 9)) rfl nd (pi_keys (pe_ix (ix_U (K := K)) (pv 4) pe_int (fun _ _ => rfl))) (blkOk_by (own := [("_law_place", 9)]) (N := N_l_taken) (sc := defScope s_l_taken) (by decide +kernel)) (fun _ _ _ _ _ => (pg_name (i := 9) nd rfl (by first | exact Or.inl rfl | exact Or.inr rfl))) (fun _ _ _ _ _ => (pts_one (pt_cmpR op_geU (pv 9) (pe_ix (ix_U (K := K)) (pv 4) pe_int (fun _ _ => rfl)) (nomark _)))) (fun _ _ _ _ _ => (pv 9)))) (pe_lst pa_nil) (nomark _)))))))) (pss_cons (ps_expr (pe_bm PySem.F.plainAttrs_dict PySem.F.slot_dict_pop PySem.F.type_dict_pop (L2.mt_popT1 (DL.room65w hr)) (pe_dgetO (DL.room65 hr) (pv 0) pe_str (fun _ _ => rfl)) (pa_cons (pv 3) pa_nil))) (pss_one (ps_ret pe_non))) pss_nil) (pss_cons (ps_if (PW.pt (pw_and (pt_cmpR op_notU (pe_ix (ix_U (K := K)) (pv 4) pe_int (fun _ _ => rfl)) pe_non (nomark _)) (pw_and1 (pt_cmpR (op_eqPK (K := K) (DL.room65 hr)) (pe_callB (call_lenU (K := K)) (by rfl) T.b_len (by decide +kernel) (pa_cons (pe_ix (ix_U (K := K)) (pv 4) pe_int (fun _ _ => rfl)) pa_nil)) (pe_ix (ix_U (K := K)) (pv 4) pe_int (fun _ _ => rfl)) (nomark _))))) (pss_cons (ps_expr (pe_bm PySem.F.plainAttrs_dict PySem.F.slot_dict_pop PySem.F.type_dict_pop (L2.mt_popT1 (DL.room65w hr)) (pe_dgetO (DL.room65 hr) (pv 0) pe_str (fun _ _ => rfl)) (pa_cons (pv 3) pa_nil))) (pss_cons (ps_set (i := 10) nd rfl (by first | exact Or.inl rfl | exact Or.inr rfl) (pe_callTy (call_tupleU (K := K)) (by rfl) T.b_tuple (by decide +kernel) (pa_cons (pe_lc (own := [("_law_place", 9)]) (g := (gName 9)) rfl nd (pi_range1 rfl T.b_range (pa_cons (pe_ix (ix_U (K := K)) (pv 4) pe_int (fun _ _ => rfl)) pa_nil)) (blkOk_by (own := [("_law_place", 9)]) (N := N_l_taken) (sc := defScope s_l_taken) (by decide +kernel)) (fun _ _ _ _ _ => (pg_name (i := 9) nd rfl (by first | exact Or.inl rfl | exact Or.inr rfl))) (fun _ _ _ _ _ => pts_nil) (fun _ _ _ _ _ => (pe_dgetO (DL.room65 hr) (pe_ix (ix_U (K := K)) (pv 4) pe_int (fun _ _ => rfl)) (pv 9) (fun _ _ => rfl)))) pa_nil))) (pss_one (ps_ret (pe_op (op_addU (K := K)) (pe_slice (sl_U (K := K)) (pv 1) po_none (po_some pe_int)) (pe_tup (pa_cons (pe_ix (ix_U (K := K)) (pv 4) pe_int (fun _ _ => rfl)) (pa_cons (pe_ix (ix_U (K := K)) (pv 1) pe_int (fun _ _ => rfl)) (pa_cons pe_int (pa_cons pe_bl (pa_cons (pv 10) pa_nil))))))))))) pss_nil) (pss_cons (ps_while (passes_of rfl) (pt_cmpR op_gtU (pe_callB (call_sumU (K := K) rfl) (by rfl) T.b_sum (by decide +kernel) (pa_cons (pe_lock (pe_lc (own := [("_law_one", 11)]) (g := (gName 11)) rfl nd (L2.pi_valuesT (pe_dgetO (DL.room65 hr) (pv 0) pe_str (fun _ _ => rfl))) (blkOk_by (own := [("_law_one", 11)]) (N := N_l_taken) (sc := defScope s_l_taken) (by decide +kernel)) (fun _ _ _ _ _ => (pg_name (i := 11) nd rfl (by first | exact Or.inl rfl | exact Or.inr rfl))) (fun _ _ _ _ _ => pts_nil) (fun _ _ _ _ _ => (pe_callB (call_lenU (K := K)) (by rfl) T.b_len (by decide +kernel) (pa_cons (pe_ix (ix_U (K := K)) (pv 11) pe_int (fun _ _ => rfl)) pa_nil))))) pa_nil)) (pe_dgetO (DL.room65 hr) (pv 0) pe_str (fun _ _ => rfl)) (nomark _)) (pss_one (ps_expr (pe_bm PySem.F.plainAttrs_dict PySem.F.slot_dict_pop PySem.F.type_dict_pop (L2.mt_popT1 (DL.room65w hr)) (pe_dgetO (DL.room65 hr) (pv 0) pe_str (fun _ _ => rfl)) (pa_cons (pe_ix (ix_U (K := K)) (pe_callB (L2.call_minU (K := K) (DL.room65 hr) rfl) (by rfl) T.b_min (by decide +kernel) (pa_cons (pe_lock (pe_lc (own := [("_law_key", 12), ("_law_one", 11)]) (g := (gTup _ 2 (gCons (gName 12) (gCons (gName 11) gNil)))) rfl nd (L2.pi_itemsT (pe_dgetO (DL.room65 hr) (pv 0) pe_str (fun _ _ => rfl))) (blkOk_by (own := [("_law_key", 12), ("_law_one", 11)]) (N := N_l_taken) (sc := defScope s_l_taken) (by decide +kernel)) (fun _ _ _ _ _ => (pg_tup rfl (pgs_cons (pg_name (i := 12) nd rfl (by first | exact Or.inl rfl | exact Or.inr rfl)) (pgs_cons (pg_name (i := 11) nd rfl (by first | exact Or.inl rfl | exact Or.inr rfl)) pgs_nil)))) (fun _ _ _ _ _ => pts_nil) (fun _ _ _ _ _ => (pe_tup (pa_cons (pe_ix (ix_U (K := K)) (pv 11) pe_int (fun _ _ => rfl)) (pa_cons (pv 12) pa_nil)))))) pa_nil)) pe_int (fun _ _ => rfl)) pa_nil))))) (pss_one (ps_ret pe_non)))))))))))))), ?_⟩
  exact (ss_seq (ss_for (sw_seq (se_cb cs_listT (sa_cons (se_op os_dget se_var (se_strS (by decide +kernel))) sa_nil))) sg_name (ss_if (st_test (se_op os_ge (se_op os_sub se_var (se_op os_ix (se_op os_dget (se_op os_dget se_var (se_strS (by decide +kernel))) se_var) se_int)) (se_op os_dget se_var (se_strS (by decide +kernel))))) (ss_drop (se_bd ms_popT1 (se_op os_dget se_var (se_strS (by decide +kernel))) (sa_cons se_var sa_nil))) ss_next)) (ss_seq (ss_if (st_and (st_test (se_op os_eq (se_op os_ix se_var se_int) se_int)) (st_not (st_b (se_op os_ix se_var se_int)))) (ss_ret se_var) ss_next) (ss_seq (ss_set (se_op os_add (se_sl sls_all se_var so_none (so_some se_int)) (se_tup (sa_cons (se_op os_ix se_var se_int) sa_nil)))) (ss_seq (ss_set (se_bd ms_setdT (se_op os_dget se_var (se_strS (by decide +kernel))) (sa_cons se_var (sa_cons (se_lst (sa_cons se_var (sa_cons (se_op os_ix se_var se_int) (sa_cons se_non (sa_cons se_dnewK sa_nil))))) sa_nil)))) (ss_seq (ss_put se_var se_int (se_cb cs_min2 (sa_cons (se_op os_ix se_var se_int) (sa_cons (se_op os_ix se_var se_int) sa_nil)))) (ss_seq (ss_for (sw_enumA (se_op os_ix se_var se_int)) (sg_tup (sgs_cons sg_name (sgs_cons sg_name sgs_nil)) rfl) (ss_drop (se_dsetd (se_op os_ix se_var se_int) (se_op os_add (se_op os_ix se_var se_int) se_var) se_var))) (ss_seq (ss_set (se_lst (sa_cons (se_op os_ix se_var se_int) (sa_cons (se_op os_add (se_op os_ix se_var se_int) (se_cb cs_len (sa_cons (se_op os_ix se_var se_int) sa_nil))) sa_nil)))) (ss_seq (ss_if (st_not (st_b (se_op os_ix se_var se_int))) (ss_put se_var se_int (se_op os_ix se_var se_int)) ss_next) (ss_seq (ss_set (se_and (se_op os_isnot (se_op os_ix se_var se_int) se_non) (se_and (se_not (se_op os_ix se_var se_int)) (se_op os_ne (se_op os_ix se_var se_int) (se_op os_ix se_var se_int))))) (ss_seq (ss_if (st_or (st_b se_var) (st_and (st_test (se_op os_isnot (se_op os_ix se_var se_int) se_non)) (st_test (se_op os_ne (se_lk (se_lc (W2 := fun _ _ _ _ => False) (sw_keys (se_op os_ix se_var se_int)) sg_name (by decide) (st_test (se_op os_ge se_var (se_op os_ix se_var se_int))) se_var)) (se_lst sa_nil))))) (ss_seq (ss_drop (se_bd ms_popT1 (se_op os_dget se_var (se_strS (by decide +kernel))) (sa_cons se_var sa_nil))) (ss_ret se_non)) ss_next) (ss_seq (ss_if (st_and (st_test (se_op os_isnot (se_op os_ix se_var se_int) se_non)) (st_test (se_op os_eq (se_cb cs_len (sa_cons (se_op os_ix se_var se_int) sa_nil)) (se_op os_ix se_var se_int)))) (ss_seq (ss_drop (se_bd ms_popT1 (se_op os_dget se_var (se_strS (by decide +kernel))) (sa_cons se_var sa_nil))) (ss_seq (ss_set (se_cb cs_tuple (sa_cons (se_lc (W2 := fun _ _ _ _ => False) (sw_r1 (sa_cons (se_op os_ix se_var se_int) sa_nil)) sg_name (by decide) st_yes (se_op os_dget (se_op os_ix se_var se_int) se_var)) sa_nil))) (ss_ret (se_op os_add (se_sl sls_all se_var so_none (so_some se_int)) (se_tup (sa_cons (se_op os_ix se_var se_int) (sa_cons (se_op os_ix se_var se_int) (sa_cons se_int (sa_cons se_bl (sa_cons se_var sa_nil)))))))))) ss_next) (ss_seq (ss_while (st_test (se_op os_gt (se_cb cs_sum (sa_cons (se_lk (se_lc (W2 := fun _ _ _ _ => False) (sw_valsT (se_op os_dget se_var (se_strS (by decide +kernel)))) sg_name (by decide) st_yes (se_cb cs_len (sa_cons (se_op os_ix se_var se_int) sa_nil)))) sa_nil)) (se_op os_dget se_var (se_strS (by decide +kernel))))) (ss_drop (se_bd ms_popT1 (se_op os_dget se_var (se_strS (by decide +kernel))) (sa_cons (se_op os_ix (se_cb cs_best (sa_cons (se_lk (se_lc (W2 := fun _ _ _ _ => False) (sw_itemsT (se_op os_dget se_var (se_strS (by decide +kernel)))) (sg_tup (sgs_cons sg_name (sgs_cons sg_name sgs_nil)) rfl) (by decide) st_yes (se_tup (sa_cons (se_op os_ix se_var se_int) (sa_cons se_var sa_nil))))) sa_nil)) se_int) sa_nil)))) (ss_ret se_non)))))))))))))
abbrev s_law : Stmt := topS 24
abbrev N_law : List Str := ["_law_script", "_law_state_here", "_law_m", "_law_joiner", "_law_tick", "_law_k", "_law_cell", "_law_row", "_law_packet"]
theorem sc_law : FnScope N_law ["_law_script"] (defScope s_law) := ⟨rfl, rfl, rfl, by decide +kernel, rfl, by decide +kernel, by decide +kernel⟩
theorem ok_law {P : Program} {w : World} {K : PySem.W.Frag} {mg : Str → Option Value} {base : Heap} {a : Addr} {fd : FuncData} {ca : CaT} (T : Txt K mg ca) (F : Fun K "law" "law" s_law a fd) (M_Joiner : Mx P w K mg base 2 "Joiner" (ca "Joiner") (SpF K ca F_Joiner___init__)) (M_Joiner_take : SM.Mt P w K mg base 6 (ca "Joiner") "take" (SpF K ca F_Joiner_take)) (M_Packet_told : SM.Mt P w K mg base 1 (ca "Packet") "told" (SpF K ca F_Packet_told)) (C_l_cell_at : Dx P w K mg base 1 "_law_cell_at" (SpF K ca F_l_cell_at)) (C_l_next : Dx P w K mg base 1 "_law_next" (SpF K ca F_l_next)) (C_l_packet_of : Dx P w K mg base 5 "_law_packet_of" (SpF K ca F_l_packet_of)) (C_l_piece : Dx P w K mg base 2 "_law_piece" (SpF K ca F_l_piece)) (C_l_same : Dx P w K mg base 2 "_law_same" (SpF K ca F_l_same)) (C_l_state : Dx P w K mg base 1 "_law_state" (SpF K ca F_l_state)) (C_l_taken : Dx P w K mg base 1 "_law_taken" (SpF K ca F_l_taken)) :
    FnOk P w K mg base CX0 7 a fd ["_law_script"] (SpF K ca F_law) := by
  refine SM.Fn.ofF0 F sc_law rfl fun cdv A outer s H E hr => ?_
  have nd := sc_law.nd
  refine ⟨_, (pss_cons (ps_set (i := 1) nd rfl (by first | exact Or.inl rfl | exact Or.inr rfl) (pe_dx0 C_l_state hr (by decide) rfl (pa_cons (pe_dx0 C_l_cell_at hr (by decide) rfl (pa_cons (pv 0) (pa_cons pe_int pa_nil))) (pa_cons pe_int pa_nil)))) (pss_cons (ps_set (i := 2) nd rfl (by first | exact Or.inl rfl | exact Or.inr rfl) (pe_disp (pps_cons pe_str (pe_op (op_addU (K := K)) pe_int (pe_dx0 C_l_next hr (by decide) rfl (pa_cons (pv 1) (pa_cons pe_int pa_nil)))) (pps_cons pe_str (pe_op (op_addU (K := K)) pe_int (pe_dx0 C_l_next hr (by decide) rfl (pa_cons (pv 1) (pa_cons pe_int pa_nil)))) (pps_cons pe_str pe_dnewT pps_nil))) rfl rfl (by intro z; cases z) (by decide))) (pss_cons (ps_set (i := 3) nd rfl (by first | exact Or.inl rfl | exact Or.inr rfl) (pe_mx0 M_Joiner hr (by decide) rfl (pa_cons (pe_dgetO (DL.room65 hr) (pv 2) pe_str (fun _ _ => rfl)) (pa_cons (pe_dgetO (DL.room65 hr) (pv 2) pe_str (fun _ _ => rfl)) pa_nil)))) (pss_cons (ps_set (i := 4) nd rfl (by first | exact Or.inl rfl | exact Or.inr rfl) pe_int) (pss_cons (ps_for PassesOwn.never rfl (pi_enumA (by rfl) T.b_enumerate (pa_cons (pe_op (op_addU (K := K)) (pe_slice (sl_U (K := K)) (pv 0) (po_some pe_int) po_none) (pe_lst (pa_cons pe_int pa_nil))) pa_nil)) (pg_tup rfl (pgs_cons (pg_name (i := 5) nd rfl (by first | exact Or.inl rfl | exact Or.inr rfl)) (pgs_cons (pg_name (i := 6) nd rfl (by first | exact Or.inl rfl | exact Or.inr rfl)) pgs_nil))) (pss_cons (ps_set (i := 1) nd rfl (by first | exact Or.inl rfl | exact Or.inr rfl) (pe_dx0 C_l_state hr (by decide) rfl (pa_cons (pv 6) (pa_cons (pe_op (op_addU (K := K)) pe_int (pv 5)) pa_nil)))) (pss_cons (ps_set (i := 4) nd rfl (by first | exact Or.inl rfl | exact Or.inr rfl) (pe_op (op_addU (K := K)) (pv 4) (pe_ix (ix_U (K := K)) (pe_lst (pa_cons pe_int (pa_cons pe_int (pa_cons pe_int (pa_cons pe_int (pa_cons pe_int (pa_cons pe_int (pa_cons pe_int pa_nil)))))))) (pe_dx0 C_l_next hr (by decide) rfl (pa_cons (pv 1) (pa_cons pe_int pa_nil))) (fun _ _ => rfl)))) (pss_cons (ps_set (i := 7) nd rfl (by first | exact Or.inl rfl | exact Or.inr rfl) (pe_dx0 C_l_piece hr (by decide) rfl (pa_cons (pv 1) pa_nil))) (pss_cons (ps_set (i := 8) nd rfl (by first | exact Or.inl rfl | exact Or.inr rfl) (pe_dx0 C_l_packet_of hr (by decide) rfl (pa_cons (pv 7) pa_nil))) (pss_one (ps_if (PW.pt (pw_or (pt_not (pt_val (pe_dx0 C_l_same hr (by decide) rfl (pa_cons (pe_mtN M_Joiner_take hr (by decide) T.cl_Joiner (pv 3) (pa_cons (pv 8) (pa_cons (pv 4) pa_nil))) (pa_cons (pe_dx0 C_l_taken hr (by decide) rfl (pa_cons (pv 2) (pa_cons (pv 7) (pa_cons (pv 4) pa_nil)))) pa_nil))))) (pw_or1 (pt_cmpR (op_nePK (K := K) (DL.room65 hr)) (pe_mtN0 M_Packet_told hr (by decide) T.cl_Packet (pv 8)) (pv 7) (nomark _))))) (pss_one (ps_ret pe_bl)) pss_nil))))))) (pss_one (ps_ret pe_bl))))))), ?_⟩
  exact (ss_seq (ss_set (se_call0 (sa_cons (se_call0 (sa_cons se_var (sa_cons se_int sa_nil))) (sa_cons se_int sa_nil)))) (ss_seq (ss_set (se_disp (sd_cons (se_strS (by decide +kernel)) (se_op os_add se_int (se_call0 (sa_cons se_var (sa_cons se_int sa_nil)))) (sd_cons (se_strS (by decide +kernel)) (se_op os_add se_int (se_call0 (sa_cons se_var (sa_cons se_int sa_nil)))) (sd_cons (se_strS (by decide +kernel)) se_dnewT sd_nil))))) (ss_seq (ss_set (se_make0 (sa_cons (se_op os_dget se_var (se_strS (by decide +kernel))) (sa_cons (se_op os_dget se_var (se_strS (by decide +kernel))) sa_nil)))) (ss_seq (ss_set se_int) (ss_seq (ss_for (sw_enumA (se_op os_add (se_sl sls_all se_var (so_some se_int) so_none) (se_lst (sa_cons se_int sa_nil)))) (sg_tup (sgs_cons sg_name (sgs_cons sg_name sgs_nil)) rfl) (ss_seq (ss_set (se_call0 (sa_cons se_var (sa_cons (se_op os_add se_int se_var) sa_nil)))) (ss_seq (ss_set (se_op os_add se_var (se_op os_ix (se_lst (sa_cons se_int (sa_cons se_int (sa_cons se_int (sa_cons se_int (sa_cons se_int (sa_cons se_int (sa_cons se_int sa_nil)))))))) (se_call0 (sa_cons se_var (sa_cons se_int sa_nil)))))) (ss_seq (ss_set (se_call0 (sa_cons se_var sa_nil))) (ss_seq (ss_set (se_call0 (sa_cons se_var sa_nil))) (ss_if (st_or (st_not (st_b (se_call0 (sa_cons (meth0_one (by decide +kernel) se_var (sa_cons se_var (sa_cons se_var sa_nil))) (sa_cons (se_call0 (sa_cons se_var (sa_cons se_var (sa_cons se_var sa_nil)))) sa_nil))))) (st_test (se_op os_ne (meth0_one (by decide +kernel) se_var sa_nil) se_var))) (ss_ret se_bl) ss_next)))))) (ss_ret se_bl))))))
def spLaw (K : PySem.W.Frag) : Sp := fun vs H Q _ => ∃ (a : Addr) (ns : List Int), vs = [.ref a] ∧ SqL K H a (ns.map V.int) ∧ ns.length ≤ 63 ∧ ∀ H1, Q (.bl true) H1
theorem law_imp {K : PySem.W.Frag} {ca : CaT} (hT : ca.T = []) : ∀ (vs : List V) (H : Hp) (Q : VK) (E : XK), spLaw K vs H Q E → SpF K ca F_law vs H Q E := fun vs H Q E ⟨a, ns, e, h, hl, k⟩ => by
  subst e
  obtain ⟨A, hA⟩ := law_true ns hl
  refine ⟨SM.noT H, [], [], [.scr (ns.map D.int)], Rl.start (by rw [hT]; simp), .cons (.scr (SM.SqL.noT h) RepL.of_ints) .nil, ?_⟩
  rw [hA]
  intro v F' m' H' _ _ r
  cases r
  exact k H'
theorem all_mk {l : PySem.W.OpenLaw} {w : World} {K : PySem.W.Frag} {h : Heap} {mg : Str → Option Value} {fa f0 f1 f2 f3 f4 f5 f6 f7 f8 f9 f10 f11 f12 f13 f14 f15 f16 f17 f18 f19 f20 : Addr} (X : K.In h) (G : h.Ns mainGlobals mg) (hfa : mg "law" = some (.ref fa))
    {od0 an0 od1 an1 od2 an2 od3 an3 od4 an4 od5 an5 od6 an6 od7 an7 od8 an8 od9 an9 od10 an10 od11 an11 od12 an12 od13 an13 od14 an14 od15 an15 od16 an16 od17 an17 od18 an18 od19 an19 od20 an20 : Option Addr} {sl0 sl1 sl2 sl3 sl4 sl5 sl6 sl7 sl8 sl9 sl10 sl11 sl12 sl13 sl14 sl15 sl16 sl17 sl18 sl19 sl20 : Array (Option Value)} {oc0 kV0 dc0 pm0 cd0 ct0 oc1 kV1 dc1 pm1 cd1 ct1 oc2 kV2 dc2 pm2 cd2 ct2 oc3 kV3 dc3 pm3 cd3 ct3 oc4 kV4 dc4 pm4 cd4 ct4 oc5 kV5 dc5 pm5 cd5 ct5 oc6 kV6 dc6 pm6 cd6 ct6 oc7 kV7 dc7 pm7 cd7 ct7 oc8 kV8 dc8 pm8 cd8 ct8 oc9 kV9 dc9 pm9 cd9 ct9 oc10 kV10 dc10 pm10 cd10 ct10 oc11 kV11 dc11 pm11 cd11 ct11 oc12 kV12 dc12 pm12 cd12 ct12 oc13 kV13 dc13 pm13 cd13 ct13 oc14 kV14 dc14 pm14 cd14 ct14 oc15 kV15 dc15 pm15 cd15 ct15 oc16 kV16 dc16 pm16 cd16 ct16 oc17 kV17 dc17 pm17 cd17 ct17 oc18 kV18 dc18 pm18 cd18 ct18 oc19 kV19 dc19 pm19 cd19 ct19 oc20 kV20 dc20 pm20 cd20 ct20 : Value}
    {ca_Heap : Addr} (g_Heap : PySem.W.nsIn K mainGlobals "Heap" = some (some (.ref ca_Heap))) {ca_Joiner : Addr} (g_Joiner : PySem.W.nsIn K mainGlobals "Joiner" = some (some (.ref ca_Joiner))) {ca_NoNumber : Addr} (g_NoNumber : PySem.W.nsIn K mainGlobals "NoNumber" = some (some (.ref ca_NoNumber))) {ca_NoPacket : Addr} (g_NoPacket : PySem.W.nsIn K mainGlobals "NoPacket" = some (some (.ref ca_NoPacket))) {ca_NoTick : Addr} (g_NoTick : PySem.W.nsIn K mainGlobals "NoTick" = some (some (.ref ca_NoTick))) {ca_Packet : Addr} (g_Packet : PySem.W.nsIn K mainGlobals "Packet" = some (some (.ref ca_Packet)))
    (a0 : PySem.W.nsIn K mainGlobals "need_many" = some (some (.ref f0))) (l0 : K.lookup f0 = some ⟨oc0, od0, .func (PySem.W.fnOf "need_many" "need_many" (defArgs s_need_many) (defBody s_need_many) (defScope s_need_many) .none kV0 dc0 pm0 an0 cd0 ct0), sl0⟩) (c0 : PySem.W.codeIn K cd0 "need_many" = true) (k0 : PySem.W.keepIn K (.ref f0) = true)
    (a1 : PySem.W.findIn K (.ref ca_Joiner) "__init__" = some (some (.ref f1))) (i1 : PySem.W.isFn K (.ref f1) = true) (l1 : K.lookup f1 = some ⟨oc1, od1, .func (PySem.W.fnOf "__init__" "Joiner.__init__" (defArgs s_Joiner___init__) (defBody s_Joiner___init__) (defScope s_Joiner___init__) .none kV1 dc1 pm1 an1 cd1 ct1), sl1⟩) (c1 : PySem.W.codeIn K cd1 "Joiner.__init__" = true) (k1 : PySem.W.keepIn K (.ref f1) = true)
    (a2 : PySem.W.findIn K (.ref ca_Heap) "__init__" = some (some (.ref f2))) (i2 : PySem.W.isFn K (.ref f2) = true) (l2 : K.lookup f2 = some ⟨oc2, od2, .func (PySem.W.fnOf "__init__" "Heap.__init__" (defArgs s_Heap___init__) (defBody s_Heap___init__) (defScope s_Heap___init__) .none kV2 dc2 pm2 an2 cd2 ct2), sl2⟩) (c2 : PySem.W.codeIn K cd2 "Heap.__init__" = true) (k2 : PySem.W.keepIn K (.ref f2) = true)
    (a3 : PySem.W.findIn K (.ref ca_Heap) "hold" = some (some (.ref f3))) (i3 : PySem.W.isFn K (.ref f3) = true) (l3 : K.lookup f3 = some ⟨oc3, od3, .func (PySem.W.fnOf "hold" "Heap.hold" (defArgs s_Heap_hold) (defBody s_Heap_hold) (defScope s_Heap_hold) .none kV3 dc3 pm3 an3 cd3 ct3), sl3⟩) (c3 : PySem.W.codeIn K cd3 "Heap.hold" = true) (k3 : PySem.W.keepIn K (.ref f3) = true)
    (a4 : PySem.W.findIn K (.ref ca_Heap) "is_there" = some (some (.ref f4))) (i4 : PySem.W.isFn K (.ref f4) = true) (l4 : K.lookup f4 = some ⟨oc4, od4, .func (PySem.W.fnOf "is_there" "Heap.is_there" (defArgs s_Heap_is_there) (defBody s_Heap_is_there) (defScope s_Heap_is_there) .none kV4 dc4 pm4 an4 cd4 ct4), sl4⟩) (c4 : PySem.W.codeIn K cd4 "Heap.is_there" = true) (k4 : PySem.W.keepIn K (.ref f4) = true)
    (a5 : PySem.W.nsIn K mainGlobals "is_number" = some (some (.ref f5))) (l5 : K.lookup f5 = some ⟨oc5, od5, .func (PySem.W.fnOf "is_number" "is_number" (defArgs s_is_number) (defBody s_is_number) (defScope s_is_number) .none kV5 dc5 pm5 an5 cd5 ct5), sl5⟩) (c5 : PySem.W.codeIn K cd5 "is_number" = true) (k5 : PySem.W.keepIn K (.ref f5) = true)
    (a6 : PySem.W.nsIn K mainGlobals "are_bytes" = some (some (.ref f6))) (l6 : K.lookup f6 = some ⟨oc6, od6, .func (PySem.W.fnOf "are_bytes" "are_bytes" (defArgs s_are_bytes) (defBody s_are_bytes) (defScope s_are_bytes) .none kV6 dc6 pm6 an6 cd6 ct6), sl6⟩) (c6 : PySem.W.codeIn K cd6 "are_bytes" = true) (k6 : PySem.W.keepIn K (.ref f6) = true)
    (a7 : PySem.W.findIn K (.ref ca_Packet) "__init__" = some (some (.ref f7))) (i7 : PySem.W.isFn K (.ref f7) = true) (l7 : K.lookup f7 = some ⟨oc7, od7, .func (PySem.W.fnOf "__init__" "Packet.__init__" (defArgs s_Packet___init__) (defBody s_Packet___init__) (defScope s_Packet___init__) .none kV7 dc7 pm7 an7 cd7 ct7), sl7⟩) (c7 : PySem.W.codeIn K cd7 "Packet.__init__" = true) (k7 : PySem.W.keepIn K (.ref f7) = true)
    (a8 : PySem.W.findIn K (.ref ca_Heap) "packet_made" = some (some (.ref f8))) (i8 : PySem.W.isFn K (.ref f8) = true) (l8 : K.lookup f8 = some ⟨oc8, od8, .func (PySem.W.fnOf "packet_made" "Heap.packet_made" (defArgs s_Heap_packet_made) (defBody s_Heap_packet_made) (defScope s_Heap_packet_made) .none kV8 dc8 pm8 an8 cd8 ct8), sl8⟩) (c8 : PySem.W.codeIn K cd8 "Heap.packet_made" = true) (k8 : PySem.W.keepIn K (.ref f8) = true)
    (a9 : PySem.W.findIn K (.ref ca_Joiner) "let_first_go" = some (some (.ref f9))) (i9 : PySem.W.isFn K (.ref f9) = true) (l9 : K.lookup f9 = some ⟨oc9, od9, .func (PySem.W.fnOf "let_first_go" "Joiner.let_first_go" (defArgs s_Joiner_let_first_go) (defBody s_Joiner_let_first_go) (defScope s_Joiner_let_first_go) .none kV9 dc9 pm9 an9 cd9 ct9), sl9⟩) (c9 : PySem.W.codeIn K cd9 "Joiner.let_first_go" = true) (k9 : PySem.W.keepIn K (.ref f9) = true)
    (a10 : PySem.W.findIn K (.ref ca_Joiner) "let_old_go" = some (some (.ref f10))) (i10 : PySem.W.isFn K (.ref f10) = true) (l10 : K.lookup f10 = some ⟨oc10, od10, .func (PySem.W.fnOf "let_old_go" "Joiner.let_old_go" (defArgs s_Joiner_let_old_go) (defBody s_Joiner_let_old_go) (defScope s_Joiner_let_old_go) .none kV10 dc10 pm10 an10 cd10 ct10), sl10⟩) (c10 : PySem.W.codeIn K cd10 "Joiner.let_old_go" = true) (k10 : PySem.W.keepIn K (.ref f10) = true)
    (a11 : PySem.W.findIn K (.ref ca_Joiner) "take" = some (some (.ref f11))) (i11 : PySem.W.isFn K (.ref f11) = true) (l11 : K.lookup f11 = some ⟨oc11, od11, .func (PySem.W.fnOf "take" "Joiner.take" (defArgs s_Joiner_take) (defBody s_Joiner_take) (defScope s_Joiner_take) .none kV11 dc11 pm11 an11 cd11 ct11), sl11⟩) (c11 : PySem.W.codeIn K cd11 "Joiner.take" = true) (k11 : PySem.W.keepIn K (.ref f11) = true)
    (a12 : PySem.W.findIn K (.ref ca_Packet) "told" = some (some (.ref f12))) (i12 : PySem.W.isFn K (.ref f12) = true) (l12 : K.lookup f12 = some ⟨oc12, od12, .func (PySem.W.fnOf "told" "Packet.told" (defArgs s_Packet_told) (defBody s_Packet_told) (defScope s_Packet_told) .none kV12 dc12 pm12 an12 cd12 ct12), sl12⟩) (c12 : PySem.W.codeIn K cd12 "Packet.told" = true) (k12 : PySem.W.keepIn K (.ref f12) = true)
    (a13 : PySem.W.nsIn K mainGlobals "_law_cell_at" = some (some (.ref f13))) (l13 : K.lookup f13 = some ⟨oc13, od13, .func (PySem.W.fnOf "_law_cell_at" "_law_cell_at" (defArgs s_l_cell_at) (defBody s_l_cell_at) (defScope s_l_cell_at) .none kV13 dc13 pm13 an13 cd13 ct13), sl13⟩) (c13 : PySem.W.codeIn K cd13 "_law_cell_at" = true) (k13 : PySem.W.keepIn K (.ref f13) = true)
    (a14 : PySem.W.nsIn K mainGlobals "_law_next" = some (some (.ref f14))) (l14 : K.lookup f14 = some ⟨oc14, od14, .func (PySem.W.fnOf "_law_next" "_law_next" (defArgs s_l_next) (defBody s_l_next) (defScope s_l_next) .none kV14 dc14 pm14 an14 cd14 ct14), sl14⟩) (c14 : PySem.W.codeIn K cd14 "_law_next" = true) (k14 : PySem.W.keepIn K (.ref f14) = true)
    (a15 : PySem.W.nsIn K mainGlobals "_law_packet_of" = some (some (.ref f15))) (l15 : K.lookup f15 = some ⟨oc15, od15, .func (PySem.W.fnOf "_law_packet_of" "_law_packet_of" (defArgs s_l_packet_of) (defBody s_l_packet_of) (defScope s_l_packet_of) .none kV15 dc15 pm15 an15 cd15 ct15), sl15⟩) (c15 : PySem.W.codeIn K cd15 "_law_packet_of" = true) (k15 : PySem.W.keepIn K (.ref f15) = true)
    (a16 : PySem.W.nsIn K mainGlobals "_law_piece" = some (some (.ref f16))) (l16 : K.lookup f16 = some ⟨oc16, od16, .func (PySem.W.fnOf "_law_piece" "_law_piece" (defArgs s_l_piece) (defBody s_l_piece) (defScope s_l_piece) .none kV16 dc16 pm16 an16 cd16 ct16), sl16⟩) (c16 : PySem.W.codeIn K cd16 "_law_piece" = true) (k16 : PySem.W.keepIn K (.ref f16) = true)
    (a17 : PySem.W.nsIn K mainGlobals "_law_same" = some (some (.ref f17))) (l17 : K.lookup f17 = some ⟨oc17, od17, .func (PySem.W.fnOf "_law_same" "_law_same" (defArgs s_l_same) (defBody s_l_same) (defScope s_l_same) .none kV17 dc17 pm17 an17 cd17 ct17), sl17⟩) (c17 : PySem.W.codeIn K cd17 "_law_same" = true) (k17 : PySem.W.keepIn K (.ref f17) = true)
    (a18 : PySem.W.nsIn K mainGlobals "_law_state" = some (some (.ref f18))) (l18 : K.lookup f18 = some ⟨oc18, od18, .func (PySem.W.fnOf "_law_state" "_law_state" (defArgs s_l_state) (defBody s_l_state) (defScope s_l_state) .none kV18 dc18 pm18 an18 cd18 ct18), sl18⟩) (c18 : PySem.W.codeIn K cd18 "_law_state" = true) (k18 : PySem.W.keepIn K (.ref f18) = true)
    (a19 : PySem.W.nsIn K mainGlobals "_law_taken" = some (some (.ref f19))) (l19 : K.lookup f19 = some ⟨oc19, od19, .func (PySem.W.fnOf "_law_taken" "_law_taken" (defArgs s_l_taken) (defBody s_l_taken) (defScope s_l_taken) .none kV19 dc19 pm19 an19 cd19 ct19), sl19⟩) (c19 : PySem.W.codeIn K cd19 "_law_taken" = true) (k19 : PySem.W.keepIn K (.ref f19) = true)
    (a20 : PySem.W.nsIn K mainGlobals "law" = some (some (.ref f20))) (l20 : K.lookup f20 = some ⟨oc20, od20, .func (PySem.W.fnOf "law" "law" (defArgs s_law) (defBody s_law) (defScope s_law) .none kV20 dc20 pm20 an20 cd20 ct20), sl20⟩) (c20 : PySem.W.codeIn K cd20 "law" = true) (k20 : PySem.W.keepIn K (.ref f20) = true)
    (z_all : PySem.W.nsIn K mainGlobals "all" = some none) (z_bool : PySem.W.nsIn K mainGlobals "bool" = some none) (z_enumerate : PySem.W.nsIn K mainGlobals "enumerate" = some none) (z_int : PySem.W.nsIn K mainGlobals "int" = some none) (z_isinstance : PySem.W.nsIn K mainGlobals "isinstance" = some none) (z_len : PySem.W.nsIn K mainGlobals "len" = some none) (z_list : PySem.W.nsIn K mainGlobals "list" = some none) (z_max : PySem.W.nsIn K mainGlobals "max" = some none) (z_min : PySem.W.nsIn K mainGlobals "min" = some none) (z_range : PySem.W.nsIn K mainGlobals "range" = some none) (z_sum : PySem.W.nsIn K mainGlobals "sum" = some none) (z_tuple : PySem.W.nsIn K mainGlobals "tuple" = some none) {t_MOST_BYTE : Tok} (y_MOST_BYTE : PySem.W.nsIn K mainGlobals "MOST_BYTE" = some (some (.int 255 t_MOST_BYTE))) {t_MOST_TOGETHER : Tok} (y_MOST_TOGETHER : PySem.W.nsIn K mainGlobals "MOST_TOGETHER" = some (some (.int 1000 t_MOST_TOGETHER))) {t_MOST_WORD : Tok} (y_MOST_WORD : PySem.W.nsIn K mainGlobals "MOST_WORD" = some (some (.int 65535 t_MOST_WORD))) (e_NoNumber : PySem.W.excIn K ca_NoNumber [.type "ValueError", .type "Exception", .type "BaseException", .type "object"] "ValueError.__new__" = true) (k_NoNumber : PySem.W.keepIn K (.ref ca_NoNumber) = true) (b_NoNumber : PySem.W.subIn K (.ref ca_NoNumber) (.type "BaseException") = some true) (t_NoNumber : PySem.W.typeIn K (.ref ca_NoNumber) = some (.type "type")) (e_NoPacket : PySem.W.excIn K ca_NoPacket [.type "ValueError", .type "Exception", .type "BaseException", .type "object"] "ValueError.__new__" = true) (k_NoPacket : PySem.W.keepIn K (.ref ca_NoPacket) = true) (b_NoPacket : PySem.W.subIn K (.ref ca_NoPacket) (.type "BaseException") = some true) (t_NoPacket : PySem.W.typeIn K (.ref ca_NoPacket) = some (.type "type")) (e_NoTick : PySem.W.excIn K ca_NoTick [.type "ValueError", .type "Exception", .type "BaseException", .type "object"] "ValueError.__new__" = true) (k_NoTick : PySem.W.keepIn K (.ref ca_NoTick) = true) (b_NoTick : PySem.W.subIn K (.ref ca_NoTick) (.type "BaseException") = some true) (t_NoTick : PySem.W.typeIn K (.ref ca_NoTick) = some (.type "type")) (cl_Heap : Cls K ca_Heap) (mk_Heap : PySem.W.makesIn K ca_Heap = true) (kc_Heap : PySem.W.keepIn K (.ref ca_Heap) = true) (n_Heap_by_places : PySem.W.findIn K (.ref ca_Heap) "by_places" = some none) (n_Heap_end_place : PySem.W.findIn K (.ref ca_Heap) "end_place" = some none) (n_Heap_least_life : PySem.W.findIn K (.ref ca_Heap) "least_life" = some none) (n_Heap_since : PySem.W.findIn K (.ref ca_Heap) "since" = some none) (cl_Joiner : Cls K ca_Joiner) (mk_Joiner : PySem.W.makesIn K ca_Joiner = true) (kc_Joiner : PySem.W.keepIn K (.ref ca_Joiner) = true) (n_Joiner_heaps : PySem.W.findIn K (.ref ca_Joiner) "heaps" = some none) (n_Joiner_last_tick : PySem.W.findIn K (.ref ca_Joiner) "last_tick" = some none) (n_Joiner_most_held : PySem.W.findIn K (.ref ca_Joiner) "most_held" = some none) (n_Joiner_patience : PySem.W.findIn K (.ref ca_Joiner) "patience" = some none) (cl_Packet : Cls K ca_Packet) (mk_Packet : PySem.W.makesIn K ca_Packet = true) (kc_Packet : PySem.W.keepIn K (.ref ca_Packet) = true) (n_Packet_data : PySem.W.findIn K (.ref ca_Packet) "data" = some none) (n_Packet_first : PySem.W.findIn K (.ref ca_Packet) "first" = some none) (n_Packet_kind : PySem.W.findIn K (.ref ca_Packet) "kind" = some none) (n_Packet_life : PySem.W.findIn K (.ref ca_Packet) "life" = some none) (n_Packet_more : PySem.W.findIn K (.ref ca_Packet) "more" = some none) (n_Packet_name : PySem.W.findIn K (.ref ca_Packet) "name" = some none) (n_Packet_source : PySem.W.findIn K (.ref ca_Packet) "source" = some none) (n_Packet_target : PySem.W.findIn K (.ref ca_Packet) "target" = some none) (in_Heap : DL.InC K ca_Heap) (in_Joiner : DL.InC K ca_Joiner) (in_Packet : DL.InC K ca_Packet) (x_NoNumber : ExcC K ca_NoNumber) (x_NoPacket : ExcC K ca_NoPacket) (x_NoTick : ExcC K ca_NoTick) (i_NoneType_Packet : PySem.W.kitOne K (.type "NoneType") (.ref ca_Packet) = some false) (i_bool_Packet : PySem.W.kitOne K (.type "bool") (.ref ca_Packet) = some false) (i_int_Packet : PySem.W.kitOne K (.type "int") (.ref ca_Packet) = some false) (i_str_Packet : PySem.W.kitOne K (.type "str") (.ref ca_Packet) = some false) (i_tuple_Packet : PySem.W.kitOne K (.type "tuple") (.ref ca_Packet) = some false) (i_list_Packet : PySem.W.kitOne K (.type "list") (.ref ca_Packet) = some false) (i_dict_Packet : PySem.W.kitOne K (.type "dict") (.ref ca_Packet) = some false) (i_Heap_Packet : PySem.W.kitOne K (.ref ca_Heap) (.ref ca_Packet) = some false) (i_Heap_bool : PySem.W.kitOne K (.ref ca_Heap) (.type "bool") = some false) (i_Heap_int : PySem.W.kitOne K (.ref ca_Heap) (.type "int") = some false) (i_Heap_tuple : PySem.W.kitOne K (.ref ca_Heap) (.type "tuple") = some false) (i_Joiner_Packet : PySem.W.kitOne K (.ref ca_Joiner) (.ref ca_Packet) = some false) (i_Joiner_bool : PySem.W.kitOne K (.ref ca_Joiner) (.type "bool") = some false) (i_Joiner_int : PySem.W.kitOne K (.ref ca_Joiner) (.type "int") = some false) (i_Joiner_tuple : PySem.W.kitOne K (.ref ca_Joiner) (.type "tuple") = some false) (i_Packet_Packet : PySem.W.kitOne K (.ref ca_Packet) (.ref ca_Packet) = some true) (i_Packet_bool : PySem.W.kitOne K (.ref ca_Packet) (.type "bool") = some false) (i_Packet_int : PySem.W.kitOne K (.ref ca_Packet) (.type "int") = some false) (i_Packet_tuple : PySem.W.kitOne K (.ref ca_Packet) (.type "tuple") = some false) (i_NoNumber_Packet : PySem.W.kitOne K (.ref ca_NoNumber) (.ref ca_Packet) = some false) (i_NoNumber_bool : PySem.W.kitOne K (.ref ca_NoNumber) (.type "bool") = some false) (i_NoNumber_int : PySem.W.kitOne K (.ref ca_NoNumber) (.type "int") = some false) (i_NoNumber_tuple : PySem.W.kitOne K (.ref ca_NoNumber) (.type "tuple") = some false) (i_NoPacket_Packet : PySem.W.kitOne K (.ref ca_NoPacket) (.ref ca_Packet) = some false) (i_NoPacket_bool : PySem.W.kitOne K (.ref ca_NoPacket) (.type "bool") = some false) (i_NoPacket_int : PySem.W.kitOne K (.ref ca_NoPacket) (.type "int") = some false) (i_NoPacket_tuple : PySem.W.kitOne K (.ref ca_NoPacket) (.type "tuple") = some false) (i_NoTick_Packet : PySem.W.kitOne K (.ref ca_NoTick) (.ref ca_Packet) = some false) (i_NoTick_bool : PySem.W.kitOne K (.ref ca_NoTick) (.type "bool") = some false) (i_NoTick_int : PySem.W.kitOne K (.ref ca_NoTick) (.type "int") = some false) (i_NoTick_tuple : PySem.W.kitOne K (.ref ca_NoTick) (.type "tuple") = some false) :
    ∃ fd : FuncData, (∀ (s : Shared) (v : Value), BindsTo s fd ⟨[v], []⟩ [("_law_script", v)]) ∧ ∀ base : Heap, K.In base → base.Ns mainGlobals mg → FnOk l.prog w K mg base CX0 7 fa fd ["_law_script"] (spLaw K) := by
  have e := hfa.symm.trans (PySem.W.mg_of X G a20)
  cases e
  obtain ⟨ca, hT, q_Heap, q_Joiner, q_NoNumber, q_NoPacket, q_NoTick, q_Packet⟩ : ∃ ca : CaT, ca.T = [] ∧ ca "Heap" = ca_Heap ∧ ca "Joiner" = ca_Joiner ∧ ca "NoNumber" = ca_NoNumber ∧ ca "NoPacket" = ca_NoPacket ∧ ca "NoTick" = ca_NoTick ∧ ca "Packet" = ca_Packet := ⟨⟨fun x => if x = "Heap" then ca_Heap else if x = "Joiner" then ca_Joiner else if x = "NoNumber" then ca_NoNumber else if x = "NoPacket" then ca_NoPacket else if x = "NoTick" then ca_NoTick else if x = "Packet" then ca_Packet else 0, []⟩, rfl, by simp, by simp, by simp, by simp, by simp, by simp⟩
  subst q_Heap q_Joiner q_NoNumber q_NoPacket q_NoTick q_Packet
  have T : Txt K mg ca := ⟨PySem.W.mg_of X G g_Heap, PySem.W.mg_of X G g_Joiner, PySem.W.mg_of X G g_NoNumber, PySem.W.mg_of X G g_NoPacket, PySem.W.mg_of X G g_NoTick, PySem.W.mg_of X G g_Packet, e_NoNumber, k_NoNumber, b_NoNumber, t_NoNumber, e_NoPacket, k_NoPacket, b_NoPacket, t_NoPacket, e_NoTick, k_NoTick, b_NoTick, t_NoTick, cl_Heap, mk_Heap, kc_Heap, n_Heap_by_places, n_Heap_end_place, n_Heap_least_life, n_Heap_since, cl_Joiner, mk_Joiner, kc_Joiner, n_Joiner_heaps, n_Joiner_last_tick, n_Joiner_most_held, n_Joiner_patience, cl_Packet, mk_Packet, kc_Packet, n_Packet_data, n_Packet_first, n_Packet_kind, n_Packet_life, n_Packet_more, n_Packet_name, n_Packet_source, n_Packet_target, ⟨⟨in_Heap, by decide⟩, ⟨in_Joiner, by decide⟩, ⟨in_Packet, by decide⟩, trivial⟩, ⟨⟨x_NoNumber, by decide⟩, ⟨x_NoPacket, by decide⟩, ⟨x_NoTick, by decide⟩, trivial⟩, (by unfold tb_; exact .cons (by simpa [vOf, btn] using i_NoneType_Packet) (.cons (by simpa [vOf, btn] using i_bool_Packet) (.cons (by simpa [vOf, btn] using i_int_Packet) (.cons (by simpa [vOf, btn] using i_str_Packet) (.cons (by simpa [vOf, btn] using i_tuple_Packet) (.cons (by simpa [vOf, btn] using i_list_Packet) (.cons (by simpa [vOf, btn] using i_dict_Packet) (.cons (by simpa [vOf, btn] using i_Heap_Packet) (.cons (by simpa [vOf, btn] using i_Heap_bool) (.cons (by simpa [vOf, btn] using i_Heap_int) (.cons (by simpa [vOf, btn] using i_Heap_tuple) (.cons (by simpa [vOf, btn] using i_Joiner_Packet) (.cons (by simpa [vOf, btn] using i_Joiner_bool) (.cons (by simpa [vOf, btn] using i_Joiner_int) (.cons (by simpa [vOf, btn] using i_Joiner_tuple) (.cons (by simpa [vOf, btn] using i_Packet_Packet) (.cons (by simpa [vOf, btn] using i_Packet_bool) (.cons (by simpa [vOf, btn] using i_Packet_int) (.cons (by simpa [vOf, btn] using i_Packet_tuple) (.cons (by simpa [vOf, btn] using i_NoNumber_Packet) (.cons (by simpa [vOf, btn] using i_NoNumber_bool) (.cons (by simpa [vOf, btn] using i_NoNumber_int) (.cons (by simpa [vOf, btn] using i_NoNumber_tuple) (.cons (by simpa [vOf, btn] using i_NoPacket_Packet) (.cons (by simpa [vOf, btn] using i_NoPacket_bool) (.cons (by simpa [vOf, btn] using i_NoPacket_int) (.cons (by simpa [vOf, btn] using i_NoPacket_tuple) (.cons (by simpa [vOf, btn] using i_NoTick_Packet) (.cons (by simpa [vOf, btn] using i_NoTick_bool) (.cons (by simpa [vOf, btn] using i_NoTick_int) (.cons (by simpa [vOf, btn] using i_NoTick_tuple) (.nil)))))))))))))))))))))))))))))))), PySem.W.mg_none_of X G z_all, PySem.W.mg_none_of X G z_bool, PySem.W.mg_none_of X G z_enumerate, PySem.W.mg_none_of X G z_int, PySem.W.mg_none_of X G z_isinstance, PySem.W.mg_none_of X G z_len, PySem.W.mg_none_of X G z_list, PySem.W.mg_none_of X G z_max, PySem.W.mg_none_of X G z_min, PySem.W.mg_none_of X G z_range, PySem.W.mg_none_of X G z_sum, PySem.W.mg_none_of X G z_tuple, ⟨_, PySem.W.mg_of X G y_MOST_BYTE⟩, ⟨_, PySem.W.mg_of X G y_MOST_TOGETHER⟩, ⟨_, PySem.W.mg_of X G y_MOST_WORD⟩, True.intro⟩
  have F0 := fun_mk (st := s_need_many) l0 c0 k0
  have b0 := F0.binds (ps := ["thing"]) fun _ _ _ _ _ _ us hl => match us, hl with | [_], _ => rfl
  have F1 := fun_mk (st := s_Joiner___init__) l1 c1 k1
  have b1 := F1.binds (ps := ["self", "patience", "room"]) fun _ _ _ _ _ _ us hl => match us, hl with | [_, _, _], _ => rfl
  have F2 := fun_mk (st := s_Heap___init__) l2 c2 k2
  have b2 := F2.binds (ps := ["self", "tick", "life"]) fun _ _ _ _ _ _ us hl => match us, hl with | [_, _, _], _ => rfl
  have F3 := fun_mk (st := s_Heap_hold) l3 c3 k3
  have b3 := F3.binds (ps := ["self", "packet"]) fun _ _ _ _ _ _ us hl => match us, hl with | [_, _], _ => rfl
  have F4 := fun_mk (st := s_Heap_is_there) l4 c4 k4
  have b4 := F4.binds (ps := ["self"]) fun _ _ _ _ _ _ us hl => match us, hl with | [_], _ => rfl
  have F5 := fun_mk (st := s_is_number) l5 c5 k5
  have b5 := F5.binds (ps := ["thing", "most"]) fun _ _ _ _ _ _ us hl => match us, hl with | [_, _], _ => rfl
  have F6 := fun_mk (st := s_are_bytes) l6 c6 k6
  have b6 := F6.binds (ps := ["thing", "most"]) fun _ _ _ _ _ _ us hl => match us, hl with | [_, _], _ => rfl
  have F7 := fun_mk (st := s_Packet___init__) l7 c7 k7
  have b7 := F7.binds (ps := ["self", "source", "target", "kind", "life", "name", "first", "more", "data"]) fun _ _ _ _ _ _ us hl => match us, hl with | [_, _, _, _, _, _, _, _, _], _ => rfl
  have F8 := fun_mk (st := s_Heap_packet_made) l8 c8 k8
  have b8 := F8.binds (ps := ["self", "four"]) fun _ _ _ _ _ _ us hl => match us, hl with | [_, _], _ => rfl
  have F9 := fun_mk (st := s_Joiner_let_first_go) l9 c9 k9
  have b9 := F9.binds (ps := ["self"]) fun _ _ _ _ _ _ us hl => match us, hl with | [_], _ => rfl
  have F10 := fun_mk (st := s_Joiner_let_old_go) l10 c10 k10
  have b10 := F10.binds (ps := ["self", "tick"]) fun _ _ _ _ _ _ us hl => match us, hl with | [_, _], _ => rfl
  have F11 := fun_mk (st := s_Joiner_take) l11 c11 k11
  have b11 := F11.binds (ps := ["self", "packet", "tick"]) fun _ _ _ _ _ _ us hl => match us, hl with | [_, _, _], _ => rfl
  have F12 := fun_mk (st := s_Packet_told) l12 c12 k12
  have b12 := F12.binds (ps := ["self"]) fun _ _ _ _ _ _ us hl => match us, hl with | [_], _ => rfl
  have F13 := fun_mk (st := s_l_cell_at) l13 c13 k13
  have b13 := F13.binds (ps := ["_law_script", "_law_k"]) fun _ _ _ _ _ _ us hl => match us, hl with | [_, _], _ => rfl
  have F14 := fun_mk (st := s_l_next) l14 c14 k14
  have b14 := F14.binds (ps := ["_law_state_here", "_law_size"]) fun _ _ _ _ _ _ us hl => match us, hl with | [_, _], _ => rfl
  have F15 := fun_mk (st := s_l_packet_of) l15 c15 k15
  have b15 := F15.binds (ps := ["_law_row"]) fun _ _ _ _ _ _ us hl => match us, hl with | [_], _ => rfl
  have F16 := fun_mk (st := s_l_piece) l16 c16 k16
  have b16 := F16.binds (ps := ["_law_state_here"]) fun _ _ _ _ _ _ us hl => match us, hl with | [_], _ => rfl
  have F17 := fun_mk (st := s_l_same) l17 c17 k17
  have b17 := F17.binds (ps := ["_law_found", "_law_due"]) fun _ _ _ _ _ _ us hl => match us, hl with | [_, _], _ => rfl
  have F18 := fun_mk (st := s_l_state) l18 c18 k18
  have b18 := F18.binds (ps := ["_law_cell", "_law_k"]) fun _ _ _ _ _ _ us hl => match us, hl with | [_, _], _ => rfl
  have F19 := fun_mk (st := s_l_taken) l19 c19 k19
  have b19 := F19.binds (ps := ["_law_m", "_law_row", "_law_tick"]) fun _ _ _ _ _ _ us hl => match us, hl with | [_, _, _], _ => rfl
  have F20 := fun_mk (st := s_law) l20 c20 k20
  have b20 := F20.binds (ps := ["_law_script"]) fun _ _ _ _ _ _ us hl => match us, hl with | [_], _ => rfl
  refine ⟨PySem.W.fnOf "law" "law" (defArgs s_law) (defBody s_law) (defScope s_law) .none kV20 dc20 pm20 an20 cd20 ct20, fun s v => .of_eq rfl, fun base _ _ => ?_⟩
  have C_need_many := Dx.of2 (ok_need_many (P := l.prog) (w := w) (mg := mg) (base := base) T F0 ) F0 (PySem.W.mg_of X G a0) b0
  have M_Joiner := Mx.of ⟨mk_Joiner, a1, i1, kc_Joiner⟩ (ok_Joiner___init__ (P := l.prog) (w := w) (mg := mg) (base := base) T F1 C_need_many) (PySem.W.mg_of X G g_Joiner) b1
  have M_Heap := Mx.of ⟨mk_Heap, a2, i2, kc_Heap⟩ (ok_Heap___init__ (P := l.prog) (w := w) (mg := mg) (base := base) T F2 ) (PySem.W.mg_of X G g_Heap) b2
  have M_Heap_hold := SM.Mt.of ⟨a3, i3, k3⟩ (ok_Heap_hold (P := l.prog) (w := w) (mg := mg) (base := base) T F3 ) b3
  have M_Heap_is_there := SM.Mt.of ⟨a4, i4, k4⟩ (ok_Heap_is_there (P := l.prog) (w := w) (mg := mg) (base := base) T F4 ) b4
  have C_is_number := Dx.of2 (ok_is_number (P := l.prog) (w := w) (mg := mg) (base := base) T F5 ) F5 (PySem.W.mg_of X G a5) b5
  have C_are_bytes := Dx.of2 (ok_are_bytes (P := l.prog) (w := w) (mg := mg) (base := base) T F6 C_is_number) F6 (PySem.W.mg_of X G a6) b6
  have M_Packet := Mx.of ⟨mk_Packet, a7, i7, kc_Packet⟩ (ok_Packet___init__ (P := l.prog) (w := w) (mg := mg) (base := base) T F7 C_are_bytes C_is_number) (PySem.W.mg_of X G g_Packet) b7
  have M_Heap_packet_made := SM.Mt.of ⟨a8, i8, k8⟩ (ok_Heap_packet_made (P := l.prog) (w := w) (mg := mg) (base := base) T F8 M_Packet) b8
  have M_Joiner_let_first_go := SM.Mt.of ⟨a9, i9, k9⟩ (ok_Joiner_let_first_go (P := l.prog) (w := w) (mg := mg) (base := base) T F9 ) b9
  have M_Joiner_let_old_go := SM.Mt.of ⟨a10, i10, k10⟩ (ok_Joiner_let_old_go (P := l.prog) (w := w) (mg := mg) (base := base) T F10 ) b10
  have M_Joiner_take := SM.Mt.of ⟨a11, i11, k11⟩ (ok_Joiner_take (P := l.prog) (w := w) (mg := mg) (base := base) T F11 M_Heap M_Heap_hold M_Heap_is_there M_Heap_packet_made M_Joiner_let_first_go M_Joiner_let_old_go) b11
  have M_Packet_told := SM.Mt.of ⟨a12, i12, k12⟩ (ok_Packet_told (P := l.prog) (w := w) (mg := mg) (base := base) T F12 ) b12
  have C_l_cell_at := Dx.of2 (ok_l_cell_at (P := l.prog) (w := w) (mg := mg) (base := base) T F13 ) F13 (PySem.W.mg_of X G a13) b13
  have C_l_next := Dx.of2 (ok_l_next (P := l.prog) (w := w) (mg := mg) (base := base) T F14 ) F14 (PySem.W.mg_of X G a14) b14
  have C_l_packet_of := Dx.of2 (ok_l_packet_of (P := l.prog) (w := w) (mg := mg) (base := base) T F15 M_Packet) F15 (PySem.W.mg_of X G a15) b15
  have C_l_piece := Dx.of2 (ok_l_piece (P := l.prog) (w := w) (mg := mg) (base := base) T F16 C_l_next) F16 (PySem.W.mg_of X G a16) b16
  have C_l_same := Dx.of2 (ok_l_same (P := l.prog) (w := w) (mg := mg) (base := base) T F17 M_Packet_told) F17 (PySem.W.mg_of X G a17) b17
  have C_l_state := Dx.of2 (ok_l_state (P := l.prog) (w := w) (mg := mg) (base := base) T F18 ) F18 (PySem.W.mg_of X G a18) b18
  have C_l_taken := Dx.of2 (ok_l_taken (P := l.prog) (w := w) (mg := mg) (base := base) T F19 ) F19 (PySem.W.mg_of X G a19) b19
  exact (ok_law T F20 M_Joiner M_Joiner_take M_Packet_told C_l_cell_at C_l_next C_l_packet_of C_l_piece C_l_same C_l_state C_l_taken).imp (law_imp hT)
theorem walk {l : PySem.W.OpenLaw} {q : Program} {loose : List Str} {XP : (Str → Option Value) → Heap → Prop} {YP : World → Heap → Prop} {d : DefRec} {K : Params → PySem.W.Frag} (hn : l.most = some 63) (hdf : d.params.defaults = [])
    (hY : ∀ (w : World) (h : Heap), YP w h → (K w.params).In h)
    (F : ∀ (w : World) (mg : Str → Option Value) (fa : Addr) (h : Heap), (K w.params).In h → h.Ns mainGlobals mg → mg d.name = some (.ref fa) →
      ∃ fd : FuncData, (∀ (s : Shared) (u : Value), BindsTo s fd ⟨[u], []⟩ [("_law_script", u)]) ∧ ∀ base : Heap, (K w.params).In base → base.Ns mainGlobals mg → FnOk l.prog w (K w.params) mg base CX0 7 fa fd ["_law_script"] (spLaw (K w.params))) :
    PySem.W.WalkO q loose XP YP l.row.toRowW d [] (fun f vs => PySem.call f vs) :=
  L2.walk_of (n := 63) (k := 7) (x := "_law_script") (CX := fun _ => CX0) (sp := fun w => spLaw (K w.params)) hn (by decide) hdf ⟨rfl, by decide, by decide⟩ hY F (fun _ _ a ns hl _ hS => ⟨a, ns, rfl, hS, hl, fun _ => rfl⟩) fun _ _ _ _ _ z => z
end Kk
open PySem PySem.W PyProof.Rows in
set_option maxRecDepth 100000 in
set_option maxHeartbeats 0 in
theorem PySem.Challenge.cw_surewire_k42_joined_by_places_holds : PySem.Challenge.rw_surewire_k42_joined_by_places.Holds := by
  w_on; o_law; k_head; (case hw => w_witness2)
  k_fill
  refine Kk.walk (l := PySem.Challenge.rw_surewire_k42_joined_by_places) rfl rfl (fun w h Y => PySem.W.kIn_of Y) ?F
  case F =>
    intro w mg fa h KX G hmg
    refine' Kk.all_mk KX G hmg ?g_Heap ?g_Joiner ?g_NoNumber ?g_NoPacket ?g_NoTick ?g_Packet ?a0 ?l0 ?c0 ?k0 ?a1 ?i1 ?l1 ?c1 ?k1 ?a2 ?i2 ?l2 ?c2 ?k2 ?a3 ?i3 ?l3 ?c3 ?k3 ?a4 ?i4 ?l4 ?c4 ?k4 ?a5 ?l5 ?c5 ?k5 ?a6 ?l6 ?c6 ?k6 ?a7 ?i7 ?l7 ?c7 ?k7 ?a8 ?i8 ?l8 ?c8 ?k8 ?a9 ?i9 ?l9 ?c9 ?k9 ?a10 ?i10 ?l10 ?c10 ?k10 ?a11 ?i11 ?l11 ?c11 ?k11 ?a12 ?i12 ?l12 ?c12 ?k12 ?a13 ?l13 ?c13 ?k13 ?a14 ?l14 ?c14 ?k14 ?a15 ?l15 ?c15 ?k15 ?a16 ?l16 ?c16 ?k16 ?a17 ?l17 ?c17 ?k17 ?a18 ?l18 ?c18 ?k18 ?a19 ?l19 ?c19 ?k19 ?a20 ?l20 ?c20 ?k20 ?z_all ?z_bool ?z_enumerate ?z_int ?z_isinstance ?z_len ?z_list ?z_max ?z_min ?z_range ?z_sum ?z_tuple ?y_MOST_BYTE ?y_MOST_TOGETHER ?y_MOST_WORD ?e_NoNumber ?k_NoNumber ?b_NoNumber ?t_NoNumber ?e_NoPacket ?k_NoPacket ?b_NoPacket ?t_NoPacket ?e_NoTick ?k_NoTick ?b_NoTick ?t_NoTick ?cl_Heap ?mk_Heap ?kc_Heap ?n_Heap_by_places ?n_Heap_end_place ?n_Heap_least_life ?n_Heap_since ?cl_Joiner ?mk_Joiner ?kc_Joiner ?n_Joiner_heaps ?n_Joiner_last_tick ?n_Joiner_most_held ?n_Joiner_patience ?cl_Packet ?mk_Packet ?kc_Packet ?n_Packet_data ?n_Packet_first ?n_Packet_kind ?n_Packet_life ?n_Packet_more ?n_Packet_name ?n_Packet_source ?n_Packet_target ?in_Heap ?in_Joiner ?in_Packet ?x_NoNumber ?x_NoPacket ?x_NoTick ?i_NoneType_Packet ?i_bool_Packet ?i_int_Packet ?i_str_Packet ?i_tuple_Packet ?i_list_Packet ?i_dict_Packet ?i_Heap_Packet ?i_Heap_bool ?i_Heap_int ?i_Heap_tuple ?i_Joiner_Packet ?i_Joiner_bool ?i_Joiner_int ?i_Joiner_tuple ?i_Packet_Packet ?i_Packet_bool ?i_Packet_int ?i_Packet_tuple ?i_NoNumber_Packet ?i_NoNumber_bool ?i_NoNumber_int ?i_NoNumber_tuple ?i_NoPacket_Packet ?i_NoPacket_bool ?i_NoPacket_int ?i_NoPacket_tuple ?i_NoTick_Packet ?i_NoTick_bool ?i_NoTick_int ?i_NoTick_tuple
    (case g_Heap => k_is)
    (case g_Joiner => k_is)
    (case g_NoNumber => k_is)
    (case g_NoPacket => k_is)
    (case g_NoTick => k_is)
    (case g_Packet => k_is)
    (case a0 => k_is)
    (case l0 => k_is)
    (case c0 => k_is)
    (case k0 => k_is)
    (case a1 => k_is)
    (case i1 => k_is)
    (case l1 => k_is)
    (case c1 => k_is)
    (case k1 => k_is)
    (case a2 => k_is)
    (case i2 => k_is)
    (case l2 => k_is)
    (case c2 => k_is)
    (case k2 => k_is)
    (case a3 => k_is)
    (case i3 => k_is)
    (case l3 => k_is)
    (case c3 => k_is)
    (case k3 => k_is)
    (case a4 => k_is)
    (case i4 => k_is)
    (case l4 => k_is)
    (case c4 => k_is)
    (case k4 => k_is)
    (case a5 => k_is)
    (case l5 => k_is)
    (case c5 => k_is)
    (case k5 => k_is)
    (case a6 => k_is)
    (case l6 => k_is)
    (case c6 => k_is)
    (case k6 => k_is)
    (case a7 => k_is)
    (case i7 => k_is)
    (case l7 => k_is)
    (case c7 => k_is)
    (case k7 => k_is)
    (case a8 => k_is)
    (case i8 => k_is)
    (case l8 => k_is)
    (case c8 => k_is)
    (case k8 => k_is)
    (case a9 => k_is)
    (case i9 => k_is)
    (case l9 => k_is)
    (case c9 => k_is)
    (case k9 => k_is)
    (case a10 => k_is)
    (case i10 => k_is)
    (case l10 => k_is)
    (case c10 => k_is)
    (case k10 => k_is)
    (case a11 => k_is)
    (case i11 => k_is)
    (case l11 => k_is)
    (case c11 => k_is)
    (case k11 => k_is)
    (case a12 => k_is)
    (case i12 => k_is)
    (case l12 => k_is)
    (case c12 => k_is)
    (case k12 => k_is)
    (case a13 => k_is)
    (case l13 => k_is)
    (case c13 => k_is)
    (case k13 => k_is)
    (case a14 => k_is)
    (case l14 => k_is)
    (case c14 => k_is)
    (case k14 => k_is)
    (case a15 => k_is)
    (case l15 => k_is)
    (case c15 => k_is)
    (case k15 => k_is)
    (case a16 => k_is)
    (case l16 => k_is)
    (case c16 => k_is)
    (case k16 => k_is)
    (case a17 => k_is)
    (case l17 => k_is)
    (case c17 => k_is)
    (case k17 => k_is)
    (case a18 => k_is)
    (case l18 => k_is)
    (case c18 => k_is)
    (case k18 => k_is)
    (case a19 => k_is)
    (case l19 => k_is)
    (case c19 => k_is)
    (case k19 => k_is)
    (case a20 => k_is)
    (case l20 => k_is)
    (case c20 => k_is)
    (case k20 => k_is)
    (case z_all => k_is)
    (case z_bool => k_is)
    (case z_enumerate => k_is)
    (case z_int => k_is)
    (case z_isinstance => k_is)
    (case z_len => k_is)
    (case z_list => k_is)
    (case z_max => k_is)
    (case z_min => k_is)
    (case z_range => k_is)
    (case z_sum => k_is)
    (case z_tuple => k_is)
    (case y_MOST_BYTE => k_is)
    (case y_MOST_TOGETHER => k_is)
    (case y_MOST_WORD => k_is)
    (case e_NoNumber => k_exc)
    (case k_NoNumber => k_is)
    (case b_NoNumber => k_is)
    (case t_NoNumber => k_is)
    (case e_NoPacket => k_exc)
    (case k_NoPacket => k_is)
    (case b_NoPacket => k_is)
    (case t_NoPacket => k_is)
    (case e_NoTick => k_exc)
    (case k_NoTick => k_is)
    (case b_NoTick => k_is)
    (case t_NoTick => k_is)
    (case cl_Heap => exact ⟨by k_is, by k_is, by k_is, by k_is⟩)
    (case mk_Heap => k_is)
    (case kc_Heap => k_is)
    (case n_Heap_by_places => k_is)
    (case n_Heap_end_place => k_is)
    (case n_Heap_least_life => k_is)
    (case n_Heap_since => k_is)
    (case cl_Joiner => exact ⟨by k_is, by k_is, by k_is, by k_is⟩)
    (case mk_Joiner => k_is)
    (case kc_Joiner => k_is)
    (case n_Joiner_heaps => k_is)
    (case n_Joiner_last_tick => k_is)
    (case n_Joiner_most_held => k_is)
    (case n_Joiner_patience => k_is)
    (case cl_Packet => exact ⟨by k_is, by k_is, by k_is, by k_is⟩)
    (case mk_Packet => k_is)
    (case kc_Packet => k_is)
    (case n_Packet_data => k_is)
    (case n_Packet_first => k_is)
    (case n_Packet_kind => k_is)
    (case n_Packet_life => k_is)
    (case n_Packet_more => k_is)
    (case n_Packet_name => k_is)
    (case n_Packet_source => k_is)
    (case n_Packet_target => k_is)
    (case in_Heap => exact ⟨⟨by k_is, by k_is, by k_is, by k_is⟩, by k_is, by k_is, by k_is, by k_is⟩)
    (case in_Joiner => exact ⟨⟨by k_is, by k_is, by k_is, by k_is⟩, by k_is, by k_is, by k_is, by k_is⟩)
    (case in_Packet => exact ⟨⟨by k_is, by k_is, by k_is, by k_is⟩, by k_is, by k_is, by k_is, by k_is⟩)
    (case x_NoNumber => exact ⟨by k_is, by k_is, by k_is, by k_is, by k_is, by k_is, by k_is, by k_is⟩)
    (case x_NoPacket => exact ⟨by k_is, by k_is, by k_is, by k_is, by k_is, by k_is, by k_is, by k_is⟩)
    (case x_NoTick => exact ⟨by k_is, by k_is, by k_is, by k_is, by k_is, by k_is, by k_is, by k_is⟩)
    (case i_NoneType_Packet => first | k_is | kit_is)
    (case i_bool_Packet => first | k_is | kit_is)
    (case i_int_Packet => first | k_is | kit_is)
    (case i_str_Packet => first | k_is | kit_is)
    (case i_tuple_Packet => first | k_is | kit_is)
    (case i_list_Packet => first | k_is | kit_is)
    (case i_dict_Packet => first | k_is | kit_is)
    (case i_Heap_Packet => first | k_is | kit_is)
    (case i_Heap_bool => first | k_is | kit_is)
    (case i_Heap_int => first | k_is | kit_is)
    (case i_Heap_tuple => first | k_is | kit_is)
    (case i_Joiner_Packet => first | k_is | kit_is)
    (case i_Joiner_bool => first | k_is | kit_is)
    (case i_Joiner_int => first | k_is | kit_is)
    (case i_Joiner_tuple => first | k_is | kit_is)
    (case i_Packet_Packet => first | k_is | kit_is)
    (case i_Packet_bool => first | k_is | kit_is)
    (case i_Packet_int => first | k_is | kit_is)
    (case i_Packet_tuple => first | k_is | kit_is)
    (case i_NoNumber_Packet => first | k_is | kit_is)
    (case i_NoNumber_bool => first | k_is | kit_is)
    (case i_NoNumber_int => first | k_is | kit_is)
    (case i_NoNumber_tuple => first | k_is | kit_is)
    (case i_NoPacket_Packet => first | k_is | kit_is)
    (case i_NoPacket_bool => first | k_is | kit_is)
    (case i_NoPacket_int => first | k_is | kit_is)
    (case i_NoPacket_tuple => first | k_is | kit_is)
    (case i_NoTick_Packet => first | k_is | kit_is)
    (case i_NoTick_bool => first | k_is | kit_is)
    (case i_NoTick_int => first | k_is | kit_is)
    (case i_NoTick_tuple => first | k_is | kit_is)
#print axioms PySem.Challenge.cw_surewire_k42_joined_by_places_holds
