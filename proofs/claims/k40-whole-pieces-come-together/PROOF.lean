import PyProof.Rows.All
import Wide.All
import OpenK.AllK
import Wide.FinOn
import HandS.ForMost
import HandS.IsInst
import HandS.Style
import HandS.Flow
import HandS.Exc
import HandS.TryOnly
import HandS.ExcOwn
import HandS.WordsExc
import HandS.WideBits
import HandS.Wide
import HandS.TupAny
import HandS.Walk
import HandS.ExcIs
import HandS.RaiseMore
import HandS.TupMul
import KE.KBits
import HandS.Zip
import HandS.Deep
import HandS.More
import HandS.SetFor
import HandS.FStrTup
import HandS.Ends
import PyProof.ReprRoads
import PyProof.FitsInt
import PyProof.CallFns
import HandS.Text
import HandS.StrMore
import HandS.RevRange
import HandS.Lambda
import KE.DataEq
import HandS.Flt
import HandS.Steps
import KE.GoesEnum
import HandS.Defaults
import PyProof.StrOps2
import HandS.ReplaceList
import HandS.SortInts
import HandS.EndOwn
import KE.KNestM
import KE.DataMinMax
import KE.SortData
import HandS.SortKw
import HandS.SetKeys
import KE.KDictWalk
import HandS.DictTup
import KE.KDictPairs
import PySem.Challenge.RW_surewire_k40_whole_pieces_come_together
set_option Elab.async false
set_option linter.all false
set_option maxRecDepth 100000
set_option maxHeartbeats 2000000
/-! ## the data layer: what a reading gives, told by plain data; what stands is told by slots -/
namespace DL
open PySem L2

/-- plain data -/
inductive D where
  | non | bl (b : Bool) | int (i : Int) | str (x : Str) | ty (n : String) | ref (a : Addr)
  | tup (l : List D) | lst (l : List D) | scr (l : List D)
  | dic (l : List (Key × D)) | dit (l : List (List Key × D))
  | obj (C : Addr) (fs : List (Str × D))
  | exc (C : Addr)
/-- what one owned object holds -/
inductive OB where
  | lst (l : List D) | dic (l : List (Key × D)) | dit (l : List (List Key × D)) | obj (C : Addr) (fs : List (Str × D))
def OB.d : OB → D
  | .lst l => .lst l
  | .dic l => .dic l
  | .dit l => .dit l
  | .obj C fs => .obj C fs
/-- what is known of a slot -/
inductive EV where
  | any | val (d : D) | own (o : OB)
abbrev Env := List EV

def Ex (H H' : Hp) : Prop := ∀ a o, H a = some o → H' a = some o
theorem Ex.refl (H : Hp) : Ex H H := fun _ _ h => h
theorem Ex.trans {H H1 H2 : Hp} (a : Ex H H1) (b : Ex H1 H2) : Ex H H2 := fun x o h => b x o (a x o h)
theorem Ex.new {H : Hp} {p : Addr} {o : HO} (h : H p = none) : Ex H (upd H p o) := fun a u e => by
  rw [upd_ne (ne_of_none e h)]; exact e
theorem Ex.back {H H' : Hp} {p : Addr} (e : Ex H H') (h : H' p = none) : H p = none := by
  cases h1 : H p with
  | none => rfl
  | some o => rw [e p o h1] at h; cases h
theorem Ex.both {F H : Hp} {p : Addr} {o : HO} (e : Ex F H) : Ex (upd F p o) (upd H p o) := fun a u h => by
  by_cases q : a = p
  · subst q; rw [upd_same] at h ⊢; exact h
  · rw [upd_ne q] at h ⊢; exact e a u h
theorem Ex.right {F H : Hp} {p : Addr} {o : HO} (e : Ex F H) (h : F p = none) : Ex F (upd H p o) := fun a u q => by
  rw [upd_ne (ne_of_none q h)]; exact e a u q
theorem Ex.left {F H : Hp} {p : Addr} {o : HO} (e : Ex F H) (h : H p = some o) : Ex (upd F p o) H := fun a u q => by
  by_cases z : a = p
  · subst z; rw [upd_same] at q; rw [h]; exact q
  · rw [upd_ne z] at q; exact e a u q
theorem Ex.rd {H H' : Hp} {a : Addr} {u : HO} (e : Ex H H') (h : Rd H a u) : Rd H' a u := by
  rcases h with h | ⟨o, h⟩
  · exact Or.inl (e a _ h)
  · exact Or.inr ⟨o, e a _ h⟩
theorem Ex.l {K : PySem.W.Frag} {H H' : Hp} {a : Addr} {xs : List V} (e : Ex H H') (h : SqL K H a xs) : SqL K H' a xs := by
  rcases h with h | h
  · exact Or.inl (e.rd h)
  · exact Or.inr h
theorem Ex.t {K : PySem.W.Frag} {H H' : Hp} {a : Addr} {xs : List V} (e : Ex H H') (h : SqT K H a xs) : SqT K H' a xs := by
  rcases h with h | h
  · exact Or.inl (e.rd h)
  · exact Or.inr h

/-- an exception of the class at C, caught and kept -/
def ExK (C a : Addr) : HO := .ext fun h => ∃ (oe : Obj) (vs : Array Value), h.get? a = some oe ∧ Zc (.ref C) none oe ∧ oe.data = .fields vs
mutual
/-- the value v is the data d, all of it standing in F -/
inductive Rep (K : PySem.W.Frag) (F : Hp) : V → D → Prop
  | non : Rep K F .non .non
  | bl (b : Bool) : Rep K F (.bl b) (.bl b)
  | int (i : Int) : Rep K F (.int i) (.int i)
  | str (x : Str) : Rep K F (.str x) (.str x)
  | ty (n : String) : Rep K F (.ty n) (.ty n)
  | ref (a : Addr) : Rep K F (.ref a) (.ref a)
  | tup {a : Addr} {vs : List V} {l : List D} : SqT K F a vs → RepL K F vs l → Rep K F (.ref a) (.tup l)
  | lst {a : Addr} {vs : List V} {l : List D} : F a = some (.lst vs) → RepL K F vs l → Rep K F (.ref a) (.lst l)
  | scr {a : Addr} {vs : List V} {l : List D} : SqL K F a vs → RepL K F vs l → Rep K F (.ref a) (.scr l)
  | dic {a : Addr} {ks : List Key} {vs : List V} {ds : List D} : F a = some (.dK (ks.zip vs)) → ks.length = ds.length → RepL K F vs ds → Rep K F (.ref a) (.dic (ks.zip ds))
  | dit {a : Addr} {ks : List (List Key)} {vs : List V} {ds : List D} : F a = some (.dT (ks.zip vs)) → ks.length = ds.length → RepL K F vs ds → Rep K F (.ref a) (.dit (ks.zip ds))
  | obj {a C dx : Addr} {ks : List Str} {vs : List V} {ds : List D} : F a = some (.ins C dx (ks.zip vs)) → ks.length = ds.length → RepL K F vs ds → Rep K F (.ref a) (.obj C (ks.zip ds))
  | exc {a C : Addr} : F a = some (ExK C a) → Rep K F (.ref a) (.exc C)
inductive RepL (K : PySem.W.Frag) (F : Hp) : List V → List D → Prop
  | nil : RepL K F [] []
  | cons {v : V} {vs : List V} {d : D} {ds : List D} : Rep K F v d → RepL K F vs ds → RepL K F (v :: vs) (d :: ds)
end
section
variable {K : PySem.W.Frag} {F F' : Hp}
mutual
theorem Rep.mono (e : Ex F F') : ∀ {v : V} {d : D}, Rep K F v d → Rep K F' v d
  | _, _, .non => .non
  | _, _, .bl b => .bl b
  | _, _, .int i => .int i
  | _, _, .str x => .str x
  | _, _, .ty n => .ty n
  | _, _, .ref a => .ref a
  | _, _, .tup h r => .tup (e.t h) (RepL.mono e r)
  | _, _, .lst h r => .lst (e _ _ h) (RepL.mono e r)
  | _, _, .scr h r => .scr (e.l h) (RepL.mono e r)
  | _, _, .dic h l r => .dic (e _ _ h) l (RepL.mono e r)
  | _, _, .dit h l r => .dit (e _ _ h) l (RepL.mono e r)
  | _, _, .obj h l r => .obj (e _ _ h) l (RepL.mono e r)
  | _, _, .exc h => .exc (e _ _ h)
theorem RepL.mono (e : Ex F F') : ∀ {vs : List V} {ds : List D}, RepL K F vs ds → RepL K F' vs ds
  | _, _, .nil => .nil
  | _, _, .cons h r => .cons (Rep.mono e h) (RepL.mono e r)
end
theorem RepL.length : ∀ {vs : List V} {ds : List D}, RepL K F vs ds → vs.length = ds.length
  | _, _, .nil => rfl
  | _, _, .cons _ r => by rw [List.length_cons, List.length_cons, r.length]
theorem RepL.get : ∀ {vs : List V} {ds : List D} {i : Nat} {d : D}, RepL K F vs ds → ds[i]? = some d → ∃ v, vs[i]? = some v ∧ Rep K F v d
  | _, _, _, _, .nil, h => by simp at h
  | _, _, 0, _, .cons h _, e => by simp at e; subst e; exact ⟨_, rfl, h⟩
  | _, _, i + 1, _, .cons _ r, e => by
    obtain ⟨v, h1, h2⟩ := RepL.get (i := i) r (by simpa using e)
    exact ⟨v, by simpa using h1, h2⟩
theorem RepL.append : ∀ {vs ws : List V} {ds es : List D}, RepL K F vs ds → RepL K F ws es → RepL K F (vs ++ ws) (ds ++ es)
  | _, _, _, _, .nil, s => s
  | _, _, _, _, .cons h r, s => .cons h (RepL.append r s)
theorem RepL.take : ∀ {vs : List V} {ds : List D} (n : Nat), RepL K F vs ds → RepL K F (vs.take n) (ds.take n)
  | _, _, 0, _ => .nil
  | _, _, _ + 1, .nil => .nil
  | _, _, n + 1, .cons h r => .cons h (RepL.take n r)
theorem RepL.drop : ∀ {vs : List V} {ds : List D} (n : Nat), RepL K F vs ds → RepL K F (vs.drop n) (ds.drop n)
  | _, _, 0, r => r
  | _, _, _ + 1, .nil => .nil
  | _, _, n + 1, .cons _ r => RepL.drop n r
theorem RepL.set {v : V} {d : D} (h : Rep K F v d) : ∀ {vs : List V} {ds : List D} (n : Nat), RepL K F vs ds → RepL K F (vs.set n v) (ds.set n d)
  | _, _, _, .nil => .nil
  | _, _, 0, .cons _ r => .cons h r
  | _, _, n + 1, .cons q r => .cons q (RepL.set h n r)
theorem RepL.reverse : ∀ {vs : List V} {ds : List D}, RepL K F vs ds → RepL K F vs.reverse ds.reverse
  | _, _, .nil => .nil
  | _, _, .cons h r => by
    rw [List.reverse_cons, List.reverse_cons]
    exact (RepL.reverse r).append (.cons h .nil)
/-- ints, truths, texts: the values are those of the data -/
theorem RepL.ints : ∀ {vs : List V} {ns : List Int}, RepL K F vs (ns.map D.int) → vs = ns.map V.int
  | _, [], h => by cases h; rfl
  | _, n :: r, h => by
    cases h with
    | cons q t => cases q; rw [RepL.ints t]; rfl
theorem RepL.bools : ∀ {vs : List V} {ns : List Bool}, RepL K F vs (ns.map D.bl) → vs = ns.map V.bl
  | _, [], h => by cases h; rfl
  | _, n :: r, h => by
    cases h with
    | cons q t => cases q; rw [RepL.bools t]; rfl
theorem RepL.of_ints : ∀ {ns : List Int}, RepL K F (ns.map V.int) (ns.map D.int)
  | [] => .nil
  | n :: _ => .cons (.int n) RepL.of_ints
/-- data that no heap is asked for -/
def flat : D → Bool
  | .non | .bl _ | .int _ | .str _ | .ty _ | .ref _ => true
  | _ => false
theorem Rep.flat {v : V} {d : D} (h : Rep K F v d) (f : flat d = true) : Rep K F' v d := by
  cases h <;> first | (cases f; done) | constructor
theorem RepL.flat : ∀ {vs : List V} {ds : List D}, RepL K F vs ds → ds.all DL.flat = true → RepL K F' vs ds
  | _, _, .nil, _ => .nil
  | _, _, .cons h r, f => by
    rw [List.all_cons, Bool.and_eq_true] at f
    exact .cons (h.flat f.1) (RepL.flat r f.2)
end

/-- the owned object at a holds o; its parts stand in F -/
def ORep (K : PySem.W.Frag) (F H : Hp) (a : Addr) : OB → Prop
  | .lst l => ∃ vs, H a = some (.lst vs) ∧ RepL K F vs l
  | .dic l => ∃ ks vs ds, H a = some (.dK (List.zip ks vs)) ∧ List.length ks = List.length ds ∧ RepL K F vs ds ∧ l = ks.zip ds
  | .dit l => ∃ ks vs ds, H a = some (.dT (List.zip ks vs)) ∧ List.length ks = List.length ds ∧ RepL K F vs ds ∧ l = ks.zip ds
  | .obj C fs => ∃ dx ks vs ds, H a = some (.ins C dx (List.zip ks vs)) ∧ List.length ks = List.length ds ∧ RepL K F vs ds ∧ fs = ks.zip ds
section
variable {K : PySem.W.Frag} {F F' H H' : Hp} {a : Addr} {o : OB}
theorem ORep.mono (h : ORep K F H a o) (e : Ex F F') (k : ∀ u, H a = some u → H' a = some u) : ORep K F' H' a o := by
  cases o with
  | lst l => obtain ⟨vs, x, r⟩ := h; exact ⟨vs, k _ x, r.mono e⟩
  | dic l => obtain ⟨ks, vs, ds, x, z, r, q⟩ := h; exact ⟨ks, vs, ds, k _ x, z, r.mono e, q⟩
  | dit l => obtain ⟨ks, vs, ds, x, z, r, q⟩ := h; exact ⟨ks, vs, ds, k _ x, z, r.mono e, q⟩
  | obj C fs => obtain ⟨dx, ks, vs, ds, x, z, r, q⟩ := h; exact ⟨dx, ks, vs, ds, k _ x, z, r.mono e, q⟩
theorem ORep.ho (h : ORep K F H a o) : ∃ u, H a = some u := by
  cases o with
  | lst l => obtain ⟨vs, x, r⟩ := h; exact ⟨_, x⟩
  | dic l => obtain ⟨ks, vs, ds, x, _⟩ := h; exact ⟨_, x⟩
  | dit l => obtain ⟨ks, vs, ds, x, _⟩ := h; exact ⟨_, x⟩
  | obj C fs => obtain ⟨dx, ks, vs, ds, x, _⟩ := h; exact ⟨_, x⟩
/-- an owned object, given up: from now on it stands -/
theorem ORep.give (h : ORep K F H a o) (n : F a = none) : ∃ u, H a = some u ∧ Rep K (upd F a u) (.ref a) o.d := by
  cases o with
  | lst l => obtain ⟨vs, x, r⟩ := h; exact ⟨_, x, .lst upd_same (r.mono (Ex.new n))⟩
  | dic l => obtain ⟨ks, vs, ds, x, z, r, q⟩ := h; subst q; exact ⟨_, x, .dic upd_same z (r.mono (Ex.new n))⟩
  | dit l => obtain ⟨ks, vs, ds, x, z, r, q⟩ := h; subst q; exact ⟨_, x, .dit upd_same z (r.mono (Ex.new n))⟩
  | obj C fs => obtain ⟨dx, ks, vs, ds, x, z, r, q⟩ := h; subst q; exact ⟨_, x, .obj upd_same z (r.mono (Ex.new n))⟩
end

/-- what grows between two moments: what stands (F) and all that is tracked (H) -/
structure Grow (F0 H0 F H : Hp) : Prop where
  gf : Ex F0 F
  gh : Ex H0 H
  fh : Ex F H
  gn : ∀ a, F a ≠ none → F0 a ≠ none ∨ H0 a = none
section
variable {F0 H0 F1 H1 F H : Hp}
theorem Grow.refl (e : Ex F H) : Grow F H F H := ⟨Ex.refl _, Ex.refl _, e, fun _ h => .inl h⟩
theorem Grow.trans (a : Grow F0 H0 F1 H1) (b : Grow F1 H1 F H) : Grow F0 H0 F H := ⟨a.gf.trans b.gf, a.gh.trans b.gh, b.fh, fun x h => by
  rcases b.gn x h with q | q
  · exact a.gn x q
  · exact .inr (a.gh.back q)⟩
/-- a new object, standing -/
theorem Grow.new {p : Addr} {o : HO} (g : Grow F0 H0 F H) (n : H p = none) : Grow F0 H0 (upd F p o) (upd H p o) := ⟨g.gf.trans (Ex.new (g.fh.back n)), g.gh.trans (Ex.new n), g.fh.both, fun x h => by
  by_cases q : x = p
  · subst q; exact .inr (g.gh.back n)
  · rw [upd_ne q] at h; exact g.gn x h⟩
/-- an owned new one is given up -/
theorem Grow.give {p : Addr} {o : HO} (g : Grow F0 H0 F H) (n : F p = none) (n0 : H0 p = none) (e : H p = some o) : Grow F0 H0 (upd F p o) H := ⟨g.gf.trans (Ex.new n), g.gh, g.fh.left e, fun x h => by
  by_cases q : x = p
  · subst q; exact .inr n0
  · rw [upd_ne q] at h; exact g.gn x h⟩
end

/-- where a def begins: what stands, what is tracked, which slots hold the objects handed in to be changed -/
structure Bs where
  F : Hp
  H : Hp
  fx : Nat → Option Addr
/-- the slots as they are known; oa i the address of what slot i owns -/
structure Sig (K : PySem.W.Frag) (b : Bs) (F : Hp) (oa : Nat → Addr) (σ : L2.St) (H : Hp) (env : Env) : Prop where
  g : Grow b.F b.H F H
  len : σ.length = env.length
  val : ∀ (i : Nat) (d : D), env[i]? = some (EV.val d) → ∃ v : V, σ[i]? = some (some v) ∧ Rep K F v d
  own : ∀ (i : Nat) (o : OB), env[i]? = some (EV.own o) → σ[i]? = some (some (.ref (oa i))) ∧ F (oa i) = none ∧ b.H (oa i) = none ∧ ORep K F H (oa i) o
  dist : ∀ (i j : Nat) (o u : OB), env[i]? = some (EV.own o) → env[j]? = some (.own u) → oa i = oa j → i = j
  fix : ∀ (i : Nat) (a : Addr), b.fx i = some a → oa i = a ∧ H a ≠ none
section
variable {K : PySem.W.Frag} {b : Bs} {F F1 H H1 : Hp} {oa : Nat → Addr} {σ : L2.St} {env env' : Env} {i : Nat} {v : V} {d : D} {o : OB}
/-- what is owned is not there where nothing is -/
theorem Sig.ne (S : Sig K b F oa σ H env) {p : Addr} (n : H p = none) (e : env[i]? = some (.own o)) : oa i ≠ p := fun q => by
  obtain ⟨_, _, _, r⟩ := S.own i o e
  obtain ⟨u, hu⟩ := r.ho
  rw [q, n] at hu; cases hu
/-- more stands, all else as it was -/
theorem Sig.grow (S : Sig K b F oa σ H env) (g : Grow F H F1 H1) : Sig K b F1 oa σ H1 env where
  g := S.g.trans g
  len := S.len
  val := fun i d e => by
    obtain ⟨v, h1, h2⟩ := S.val i d e
    exact ⟨v, h1, h2.mono g.gf⟩
  own := fun i o e => by
    obtain ⟨h1, h2, h3, h4⟩ := S.own i o e
    refine ⟨h1, ?_, h3, h4.mono g.gf fun u q => g.gh _ _ q⟩
    cases q : F1 (oa i) with
    | none => rfl
    | some u =>
      rcases g.gn (oa i) (by rw [q]; simp) with z | z
      · exact absurd h2 z
      · obtain ⟨w, hw⟩ := h4.ho
        rw [z] at hw; cases hw
  dist := S.dist
  fix := fun i c e => by
    obtain ⟨h1, h2⟩ := S.fix i c e
    refine ⟨h1, fun z => ?_⟩
    exact h2 (g.gh.back z)
theorem Sig.new {p : Addr} {u : HO} (S : Sig K b F oa σ H env) (n : H p = none) : Sig K b (upd F p u) oa σ (upd H p u) env := S.grow ((Grow.refl S.g.fh).new n)
/-- slot i holds v -/
theorem Sig.set (S : Sig K b F oa σ H env) (r : Rep K F v d) : Sig K b F oa (σ.set i (some v)) H (env.set i (.val d)) where
  g := S.g
  len := by simp [S.len]
  val := fun j e h => by
    by_cases q : i = j
    · subst q
      rw [List.getElem?_set] at h
      rw [List.getElem?_set]
      have l := S.len
      split at h
      · split at h
        · cases h
          refine ⟨v, ?_, r⟩
          simp_all
        · cases h
      · rename_i z; exact absurd rfl z
    · rw [List.getElem?_set_ne q] at h
      rw [List.getElem?_set_ne q]
      exact S.val j e h
  own := fun j e h => by
    by_cases q : i = j
    · subst q
      rw [List.getElem?_set] at h
      split at h
      · split at h <;> cases h
      · rename_i z; exact absurd rfl z
    · rw [List.getElem?_set_ne q] at h
      rw [List.getElem?_set_ne q]
      exact S.own j e h
  dist := fun j k e u h1 h2 => by
    have t : ∀ (j : Nat) (e : OB), (env.set i (.val d))[j]? = some (.own e) → env[j]? = some (.own e) := fun j e h => by
      by_cases q : i = j
      · subst q
        rw [List.getElem?_set] at h
        split at h
        · split at h <;> cases h
        · rename_i z; exact absurd rfl z
      · rw [List.getElem?_set_ne q] at h; exact h
    exact S.dist j k e u (t _ _ h1) (t _ _ h2)
  fix := S.fix
/-- the slot of what is owned, given up -/
theorem Sig.give (S : Sig K b F oa σ H env) (e : env[i]? = some (.own o)) : ∃ F', Sig K b F' oa σ H (env.set i (.val o.d)) ∧ Ex F F' := by
  obtain ⟨h1, h2, h3, h4⟩ := S.own i o e
  obtain ⟨u, hu, r⟩ := h4.give h2
  refine ⟨upd F (oa i) u, ⟨S.g.give h2 h3 hu, by simp [S.len], fun j w h => ?_, fun j w h => ?_, fun j k w x p q z => ?_, S.fix⟩, Ex.new h2⟩
  · by_cases q : i = j
    · subst q
      rw [List.getElem?_set] at h
      split at h
      · split at h
        · cases h; exact ⟨_, h1, r⟩
        · cases h
      · rename_i z; exact absurd rfl z
    · rw [List.getElem?_set_ne q] at h
      obtain ⟨v, x, y⟩ := S.val j w h
      exact ⟨v, x, y.mono (Ex.new h2)⟩
  · by_cases q : i = j
    · subst q
      rw [List.getElem?_set] at h
      split at h
      · split at h <;> cases h
      · rename_i z; exact absurd rfl z
    · rw [List.getElem?_set_ne q] at h
      obtain ⟨x1, x2, x3, x4⟩ := S.own j w h
      refine ⟨x1, ?_, x3, x4.mono (Ex.new h2) fun _ y => y⟩
      rw [upd_ne fun z => q (S.dist j i w o h e z).symm]
      exact x2
  · have t : ∀ (j : Nat) (e : OB), (env.set i (.val o.d))[j]? = some (.own e) → env[j]? = some (.own e) := fun j e h => by
      by_cases q : i = j
      · subst q
        rw [List.getElem?_set] at h
        split at h
        · split at h <;> cases h
        · rename_i z; exact absurd rfl z
      · rw [List.getElem?_set_ne q] at h; exact h
    exact S.dist j k w x (t _ _ p) (t _ _ q) z
/-- less is known: every slot as it was, or not told -/
def Env.le : Env → Env → Prop
  | [], [] => True
  | a :: r, b :: s => (b = .any ∨ b = a) ∧ Env.le r s
  | _, _ => False
theorem Env.le.get : ∀ {env env' : Env} {i : Nat} {x : EV}, Env.le env env' → env'[i]? = some x → x = .any ∨ env[i]? = some x
  | [], [], _, _, _, h => by simp at h
  | _ :: _, _ :: _, 0, _, l, h => by
    simp at h; subst h
    rcases l.1 with q | q
    · exact .inl q
    · exact .inr (by rw [q]; rfl)
  | _ :: r, _ :: s, i + 1, _, l, h => by
    rcases Env.le.get (i := i) l.2 (by simpa using h) with q | q
    · exact .inl q
    · exact .inr (by simpa using q)
  | [], _ :: _, _, _, l, _ => l.elim
  | _ :: _, [], _, _, l, _ => l.elim
theorem Env.le.length : ∀ {env env' : Env}, Env.le env env' → env.length = env'.length
  | [], [], _ => rfl
  | _ :: _, _ :: _, l => by rw [List.length_cons, List.length_cons, Env.le.length l.2]
  | [], _ :: _, l => l.elim
  | _ :: _, [], l => l.elim
theorem Env.le.rfl : ∀ {env : Env}, Env.le env env
  | [] => trivial
  | _ :: _ => ⟨.inr (by rfl), Env.le.rfl⟩
theorem Sig.le (S : Sig K b F oa σ H env) (l : Env.le env env') : Sig K b F oa σ H env' where
  g := S.g
  len := by rw [S.len, l.length]
  val := fun i d e => by
    rcases l.get e with q | q
    · cases q
    · exact S.val i d q
  own := fun i o e => by
    rcases l.get e with q | q
    · cases q
    · exact S.own i o q
  dist := fun i j o u e f z => by
    rcases l.get e with q | q
    · cases q
    · rcases l.get f with p | p
      · cases p
      · exact S.dist i j o u q p z
  fix := S.fix
/-- a new one that no slot owns stands from now on -/
theorem Sig.stand {a : Addr} {u : HO} (S : Sig K b F oa σ H env) (n : F a = none) (n0 : b.H a = none) (ne : ∀ (j : Nat) (o : OB), env[j]? = some (.own o) → oa j ≠ a) (h : H a = some u) : Sig K b (upd F a u) oa σ H env where
  g := S.g.give n n0 h
  len := S.len
  val := fun i d e => by
    obtain ⟨v, h1, h2⟩ := S.val i d e
    exact ⟨v, h1, h2.mono (Ex.new n)⟩
  own := fun i o e => by
    obtain ⟨h1, h2, h3, h4⟩ := S.own i o e
    exact ⟨h1, by rw [upd_ne (ne i o e)]; exact h2, h3, h4.mono (Ex.new n) fun _ q => q⟩
  dist := S.dist
  fix := S.fix
end
end DL

namespace DL
open PySem L2

/-- what an expression gives: data that stands, or what a slot owns -/
inductive Res where
  | val (d : D) | slot (i : Nat)
def RR (K : PySem.W.Frag) (F : Hp) (oa : Nat → Addr) (v : V) : Res → Prop
  | .val d => Rep K F v d
  | .slot i => v = .ref (oa i)
/-- it reads as d -/
def Rd (env : Env) : Res → D → Prop
  | .val d, e => d = e
  | .slot i, e => ∃ o, env[i]? = some (.own o) ∧ o.d = e
section
variable {K : PySem.W.Frag} {b : Bs} {F F' H : Hp} {oa : Nat → Addr} {σ : L2.St} {env env' : Env} {v : V} {r : Res} {d : D} {l : List D}
theorem RR.mono (h : RR K F oa v r) (e : Ex F F') : RR K F' oa v r := by
  cases r with
  | val d => exact Rep.mono e h
  | slot i => exact h
theorem Rd.lst' (S : Sig K b F oa σ H env) (h : RR K F oa v r) (q : Rd env r (.lst l)) : ∃ a vs, v = .ref a ∧ H a = some (.lst vs) ∧ RepL K F vs l := by
  cases r with
  | val d =>
    cases (show d = .lst l from q)
    cases h with
    | lst x y => exact ⟨_, _, rfl, S.g.fh _ _ x, y⟩
  | slot i =>
    obtain ⟨o, e, z⟩ := q
    obtain ⟨_, _, _, x⟩ := S.own i o e
    cases o with
    | lst l' =>
      cases z
      obtain ⟨vs, x1, x2⟩ := x
      exact ⟨_, vs, h, x1, x2⟩
    | dic _ => cases z
    | dit _ => cases z
    | obj _ _ => cases z
theorem Rd.scr (S : Sig K b F oa σ H env) (h : RR K F oa v r) (q : Rd env r (.scr l)) : ∃ a vs, v = .ref a ∧ SqL K H a vs ∧ RepL K F vs l := by
  cases r with
  | val d =>
    cases (show d = .scr l from q)
    cases h with
    | scr x y => exact ⟨_, _, rfl, S.g.fh.l x, y⟩
  | slot i =>
    obtain ⟨o, e, z⟩ := q
    cases o <;> cases z
/-- a list to be read: one of the call's own, or the script -/
def RdL (env : Env) (r : Res) (k : List D) : Prop := Rd env r (.lst k) ∨ Rd env r (.scr k)
theorem RdL.g (S : Sig K b F oa σ H env) (h : RR K F oa v r) (q : RdL env r l) : ∃ a vs, v = .ref a ∧ SqL K H a vs ∧ RepL K F vs l := by
  rcases q with q | q
  · obtain ⟨a, vs, e, s, p⟩ := Rd.lst' S h q
    exact ⟨a, vs, e, .inl (.inl s), p⟩
  · exact Rd.scr S h q
theorem Rd.tup (S : Sig K b F oa σ H env) (h : RR K F oa v r) (q : Rd env r (.tup l)) : ∃ a vs, v = .ref a ∧ SqT K H a vs ∧ RepL K F vs l := by
  cases r with
  | val d =>
    cases (show d = .tup l from q)
    cases h with
    | tup x y => exact ⟨_, _, rfl, S.g.fh.t x, y⟩
  | slot i =>
    obtain ⟨o, e, z⟩ := q
    cases o <;> cases z
theorem Rd.flat (h : RR K F oa v r) (q : Rd env r d) (f : flat d = true) : Rep K F v d := by
  cases r with
  | val e => cases (show e = d from q); exact h
  | slot i =>
    obtain ⟨o, e, z⟩ := q
    cases o <;> (subst z; cases f)
/-- read as it stands in the whole heap -/
theorem Rd.rep (S : Sig K b F oa σ H env) (h : RR K F oa v r) (q : Rd env r d) : Rep K H v d := by
  cases r with
  | val e => cases (show e = d from q); exact Rep.mono S.g.fh h
  | slot i =>
    obtain ⟨o, e, z⟩ := q
    subst z
    cases (show v = .ref (oa i) from h)
    obtain ⟨_, _, _, x⟩ := S.own i o e
    cases o with
    | lst l' => obtain ⟨vs, x1, x2⟩ := x; exact .lst x1 (x2.mono S.g.fh)
    | dic l' => obtain ⟨ks, vs, ds, x1, x2, x3, x4⟩ := x; subst x4; exact .dic x1 x2 (x3.mono S.g.fh)
    | dit l' => obtain ⟨ks, vs, ds, x1, x2, x3, x4⟩ := x; subst x4; exact .dit x1 x2 (x3.mono S.g.fh)
    | obj C fs => obtain ⟨dx, ks, vs, ds, x1, x2, x3, x4⟩ := x; subst x4; exact .obj x1 x2 (x3.mono S.g.fh)
end

/-- what a step leaves: what stands stands; what no slot owns is as it was -/
structure Stp (oa : Nat → Addr) (env : Env) (F H : Hp) (env' : Env) (F' H' : Hp) : Prop where
  ff : Ex F F'
  kp : ∀ a u, H a = some u → (∀ (j : Nat) (o : OB), env[j]? = some (.own o) → oa j ≠ a) → H' a = some u
  gn : ∀ a, F' a ≠ none → F a ≠ none ∨ H a = none
  th : ∀ a, H a ≠ none → H' a ≠ none
  sub : ∀ (j : Nat) (o : OB), env'[j]? = some (.own o) → ∃ o', env[j]? = some (.own o')
section
variable {K : PySem.W.Frag} {b : Bs} {F F1 F2 H H1 H2 : Hp} {oa : Nat → Addr} {σ : L2.St} {env e1 e2 : Env} {p : Addr} {u : HO}
theorem Stp.refl : Stp oa env F H env F H := ⟨Ex.refl _, fun _ _ h _ => h, fun _ h => .inl h, fun _ h => h, fun j o h => ⟨o, h⟩⟩
theorem Stp.trans (x : Stp oa env F H e1 F1 H1) (y : Stp oa e1 F1 H1 e2 F2 H2) : Stp oa env F H e2 F2 H2 := ⟨x.ff.trans y.ff, fun a u h n => y.kp a u (x.kp a u h n) fun j o e => by
    obtain ⟨o', e'⟩ := x.sub j o e
    exact n j o' e', fun a h => by
    rcases y.gn a h with z | z
    · exact x.gn a z
    · refine .inr ?_
      cases w : H a with
      | none => rfl
      | some v => exact absurd z (x.th a (by rw [w]; simp)), fun a h => y.th a (x.th a h), fun j o e => by
    obtain ⟨o', e'⟩ := y.sub j o e
    exact x.sub j o' e'⟩
theorem Stp.new (n : H p = none) (nf : F p = none) : Stp oa env F H env (upd F p u) (upd H p u) := ⟨Ex.new nf, fun a v h _ => Ex.new n a v h, fun a h => by
    by_cases q : a = p
    · subst q; exact .inr n
    · rw [upd_ne q] at h; exact .inl h, fun a h z => h ((Ex.new n).back z), fun j o e => ⟨o, e⟩⟩
theorem Stp.newH (n : H p = none) : Stp oa env F H env F (upd H p u) := ⟨Ex.refl _, fun a v h _ => Ex.new n a v h, fun a h => .inl h, fun a h z => h ((Ex.new n).back z), fun j o e => ⟨o, e⟩⟩
theorem Stp.none (x : Stp oa env F H e1 F1 H1) (n : H1 p = none) : H p = none := by
  cases w : H p with
  | none => rfl
  | some v => exact absurd n (x.th p (by rw [w]; simp))
end

def Ev (K : PySem.W.Frag) (te : TE) (env : Env) (r : Res) (env' : Env) : Prop := ∀ (b : Bs) (F : Hp) (oa : Nat → Addr) (σ : L2.St) (H : Hp), Sig K b F oa σ H env → ∀ Q : VK,
  (∀ v F' H', Sig K b F' oa σ H' env' → Stp oa env F H env' F' H' → RR K F' oa v r → Q v H') → te σ H Q
/-- a new object that nobody has yet -/
def NewAt (K : PySem.W.Frag) (b : Bs) (F : Hp) (oa : Nat → Addr) (H : Hp) (env : Env) (a : Addr) (o : OB) : Prop :=
  F a = none ∧ b.H a = none ∧ (∀ (j : Nat) (u : OB), env[j]? = some (.own u) → oa j ≠ a) ∧ (∀ j, b.fx j ≠ some a) ∧ ORep K F H a o
def EvN (K : PySem.W.Frag) (te : TE) (env : Env) (o : OB) (env' : Env) : Prop := ∀ (b : Bs) (F : Hp) (oa : Nat → Addr) (σ : L2.St) (H : Hp), Sig K b F oa σ H env → ∀ Q : VK,
  (∀ a F' H', Sig K b F' oa σ H' env' → Stp oa env F H env' F' H' → H a = none → NewAt K b F' oa H' env' a o → Q (.ref a) H') → te σ H Q
def RRs (K : PySem.W.Frag) (F : Hp) (oa : Nat → Addr) : List V → List Res → Prop
  | [], [] => True
  | v :: vs, r :: rs => RR K F oa v r ∧ RRs K F oa vs rs
  | _, _ => False
theorem RRs.mono {K : PySem.W.Frag} {F F' : Hp} {oa : Nat → Addr} (e : Ex F F') : ∀ {vs : List V} {rs : List Res}, RRs K F oa vs rs → RRs K F' oa vs rs
  | [], [], _ => trivial
  | _ :: _, _ :: _, h => ⟨h.1.mono e, RRs.mono e h.2⟩
  | [], _ :: _, h => h.elim
  | _ :: _, [], h => h.elim
section
variable {K : PySem.W.Frag} {te ta tb tc : TE} {t u : TT} {env e1 e2 e3 : Env} {r r1 r2 : Res} {d : D} {o : OB} {i j : Nat} {n m : Int}
theorem Ev.give (h : EvN K te env o e1) : Ev K te env (.val o.d) e1 := fun b F oa σ H S Q k => h b F oa σ H S Q fun a F' H' S' e na ⟨n, n0, ne, _, x⟩ => by
  obtain ⟨u, hu, r⟩ := x.give n
  refine k _ _ _ (S'.stand n n0 ne hu) ⟨e.ff.trans (Ex.new n), e.kp, fun c h => ?_, e.th, e.sub⟩ r
  by_cases q : c = a
  · subst q; exact .inr na
  · rw [upd_ne q] at h; exact e.gn c h
end
end DL

namespace DL
open PySem L2

/-! ### operators by all that they serve -/
theorem OpR.or {X : Cx} {f : Value → Value → Sem Value} {r1 r2 : R2} (h1 : OpR X f r1) (h2 : OpR X f r2) : OpR X f (fun x y H Q => r1 x y H Q ∨ r2 x y H Q) := by
  intro pins s σ H x y v u Q I rx ry h
  rcases h with h | h
  · exact h1 pins s σ H x y v u Q I rx ry h
  · exact h2 pins s σ H x y v u Q I rx ry h
theorem CallR.or {X : Cx} {f : Value} {r1 r2 : List V → Hp → VK → Prop} (h1 : CallR X f r1) (h2 : CallR X f r2) : CallR X f (fun xs H Q => r1 xs H Q ∨ r2 xs H Q) := by
  intro pins s σ H xs us Q I r h
  rcases h with h | h
  · exact h1 pins s σ H xs us Q I r h
  · exact h2 pins s σ H xs us Q I r h
def rS : R2 := fun x y H Q => ∃ i j, x = .str i ∧ y = .str j ∧ i.length + j.length ≤ sizeLine ∧ Q (.str (i ++ j)) H
def rAddU (K : PySem.W.Frag) : R2 := fun x y H Q => rI0 (fun i j => .int (i + j)) x y H Q ∨ (rS x y H Q ∨ (rCatA K x y H Q ∨ rCat x y H Q))
theorem op_addU {X : Cx} {K : PySem.W.Frag} (e : X.K = K := by rfl) : OpR X (binaryOp .Add) (rAddU K) := by subst e; exact OpR.or op_add (OpR.or op_add_str (OpR.or op_catA op_cat))
def rSubU : R2 := rI0 fun i j => .int (i - j)
theorem op_subU {X : Cx} : OpR X (binaryOp .Sub) rSubU := op_sub
def rMulU : R2 := fun x y H Q => rI CMul (fun i j => .int (i * j)) x y H Q ∨ (rI CMulX (fun i j => .int (i * j)) x y H Q ∨ rRep x y H Q)
theorem op_mulU {X : Cx} : OpR X (binaryOp .Mult) rMulU := OpR.or op_mul (OpR.or op_mulX op_rep)
def rDivU : R2 := rI CDivW fun i j => .int (i / j)
theorem op_divU {X : Cx} : OpR X (binaryOp .FloorDiv) rDivU := op_fdivW
def rModU : R2 := rI (fun _ j => 0 < j) fun i j => .int (i % j)
theorem op_modU {X : Cx} : OpR X (binaryOp .Mod) rModU := op_mod
def rPowU : R2 := rI CPow fun i j => .int (i ^ j.toNat)
theorem op_powU {X : Cx} : OpR X (binaryOp .Pow) rPowU := op_pow
def rShlU : R2 := rI CShl fun i j => .int (i * 2 ^ j.toNat)
theorem op_shlU {X : Cx} : OpR X (binaryOp .LShift) rShlU := op_shlW
def rShrU : R2 := rI (fun _ j => 0 ≤ j) fun i j => .int (i / 2 ^ j.toNat)
theorem op_shrU {X : Cx} : OpR X (binaryOp .RShift) rShrU := op_shr
def rAndU : R2 := rI0 fun i j => .int (Builtin.bitAnd i j)
theorem op_andU {X : Cx} : OpR X (binaryOp .BitAnd) rAndU := op_and
def rOrU : R2 := rI0 fun i j => .int (Builtin.bitOr i j)
theorem op_orU {X : Cx} : OpR X (binaryOp .BitOr) rOrU := op_or
def rXorU : R2 := rI0 fun i j => .int (Builtin.bitXor i j)
theorem op_xorU {X : Cx} : OpR X (binaryOp .BitXor) rXorU := op_xor
def rLtU : R2 := rI0 fun i j => .bl (decide (i < j))
def rLeU : R2 := rI0 fun i j => .bl (decide (i ≤ j))
def rGtU : R2 := rI0 fun i j => .bl (decide (j < i))
def rGeU : R2 := rI0 fun i j => .bl (decide (j ≤ i))
theorem op_ltU {X : Cx} : OpR X (compareOp .Lt) rLtU := op_lt
theorem op_leU {X : Cx} : OpR X (compareOp .LtE) rLeU := op_le
theorem op_gtU {X : Cx} : OpR X (compareOp .Gt) rGtU := op_gt
theorem op_geU {X : Cx} : OpR X (compareOp .GtE) rGeU := op_ge
def rIsNn : R2 := fun x y H Q => y = .non ∧ Q (.bl (decide (x = .non))) H
def rNotNn : R2 := fun x y H Q => y = .non ∧ Q (.bl (!decide (x = .non))) H
def rIsU : R2 := fun x y H Q => rIsNn x y H Q ∨ rIsB x y H Q
def rNotU : R2 := fun x y H Q => rNotNn x y H Q ∨ rNotB x y H Q
theorem op_isU {X : Cx} : OpR X (compareOp .Is) rIsU := OpR.or op_isN op_isBl
theorem op_notU {X : Cx} : OpR X (compareOp .IsNot) rNotU := OpR.or op_notN op_notBl
def rLen1 (K : PySem.W.Frag) : List V → Hp → VK → Prop := fun xs H Q => ∃ x n, xs = [x] ∧ LenV K x H n ∧ Q (.int n) H
def rLen2 : List V → Hp → VK → Prop := fun xs H Q => ∃ a kvs, xs = [V.ref a] ∧ H a = some (.dK kvs) ∧ Q (.int kvs.length) H
def rLenU (K : PySem.W.Frag) : List V → Hp → VK → Prop := fun xs H Q => rLen1 K xs H Q ∨ rLen2 xs H Q
theorem call_lenU {X : Cx} {K : PySem.W.Frag} (e : X.K = K := by rfl) : CallR X (.builtin "len") (rLenU K) := by subst e; exact CallR.or call_len call_lenD
theorem call_allU {X : Cx} {K : PySem.W.Frag} (hc : X.calm = true) (e : X.K = K := by rfl) : CallR X (.builtin "all") (rAll K) := by subst e; exact cr_all hc
theorem call_sumU {X : Cx} {K : PySem.W.Frag} (hc : X.calm = true) (e : X.K = K := by rfl) : CallR X (.builtin "sum") (rSum K) := by subst e; exact cr_sum hc
theorem ix_U {X : Cx} {K : PySem.W.Frag} (e : X.K = K := by rfl) : IxR X (rIx K) := by subst e; exact ix_seq
def rAbs : List V → Hp → VK → Prop := fun xs H Q => ∃ i, xs = [.int i] ∧ Q (.int (if i < 0 then -i else i)) H
theorem call_absU {X : Cx} : CallR X (.builtin "abs") rAbs := call_abs
def rMax2 : List V → Hp → VK → Prop := fun xs H Q => ∃ i j, xs = [.int i, .int j] ∧ Q (.int (if j > i then j else i)) H
def rMin2 : List V → Hp → VK → Prop := fun xs H Q => ∃ i j, xs = [.int i, .int j] ∧ Q (.int (if j < i then j else i)) H
theorem call_max2U {X : Cx} (hc : X.calm = true) : CallR X (.builtin "max") rMax2 := call_max2 hc
theorem call_min2U {X : Cx} (hc : X.calm = true) : CallR X (.builtin "min") rMin2 := call_min2 hc
def rInt1 : List V → Hp → VK → Prop := fun xs H Q => (∃ i, xs = [.int i] ∧ Q (.int i) H) ∨ ∃ k, xs = [.bl k] ∧ Q (.int (if k then 1 else 0)) H
theorem call_intU {X : Cx} : CallR X (.type "int") rInt1 := call_int1
def rListOf (K : PySem.W.Frag) : List V → Hp → VK → Prop := fun xs H Q => ∃ p ys, xs = [.ref p] ∧ (SqL K H p ys ∨ SqT K H p ys) ∧ ∀ l, H l = none → Q (.ref l) (upd H l (.lst ys))
theorem call_listU {X : Cx} {K : PySem.W.Frag} (e : X.K = K := by rfl) : CallR X (.type "list") (rListOf K) := by subst e; exact call_list_of
def rTupleOf (K : PySem.W.Frag) : List V → Hp → VK → Prop := fun xs H Q => ∃ p ys, xs = [.ref p] ∧ ((SqL K H p ys ∧ ∀ l, H l = none → Q (.ref l) (upd H l (.tup ys))) ∨ (SqT K H p ys ∧ Q (.ref p) H))
theorem call_tupleU {X : Cx} {K : PySem.W.Frag} (e : X.K = K := by rfl) : CallR X (.type "tuple") (rTupleOf K) := by subst e; exact call_tuple_of
def rSlU (K : PySem.W.Frag) : V → Option Int → Option Int → Hp → VK → Prop := fun x lo hi H Q => rSlL K x lo hi H Q ∨ (rSlA K x lo hi H Q ∨ rSlS x lo hi H Q)
theorem SlR.or {X : Cx} {r1 r2 : V → Option Int → Option Int → Hp → VK → Prop} (h1 : SlR X r1) (h2 : SlR X r2) : SlR X (fun x l u H Q => r1 x l u H Q ∨ r2 x l u H Q) := by
  intro pins s σ H x v vl vu l u sl Q I rx hs pl pu h
  rcases h with h | h
  · exact h1 pins s σ H x v vl vu l u sl Q I rx hs pl pu h
  · exact h2 pins s σ H x v vl vu l u sl Q I rx hs pl pu h
theorem sl_U {X : Cx} {K : PySem.W.Frag} (e : X.K = K := by rfl) : SlR X (rSlU K) := by subst e; exact SlR.or sl_list (SlR.or sl_tupA sl_str)

/-! ### PyData of data -/
mutual
def py : D → Option PyData
  | .non => some .none
  | .bl b => some (.bool b)
  | .int i => some (.int i)
  | .str x => some (.str x)
  | .tup l => (pys l).map .tuple
  | .lst l => (pys l).map .list
  | .ty _ => none
  | .scr _ => none
  | .ref _ => none
  | .dic _ => none
  | .dit _ => none
  | .obj _ _ => none
  | .exc _ => none
def pys : List D → Option (List PyData)
  | [] => some []
  | d :: r => match py d, pys r with
    | some x, some y => some (x :: y)
    | _, _ => none
end
mutual
theorem Rep.dp {K : PySem.W.Frag} {H : Hp} : ∀ {v : V} {d : D} {p : PyData}, Rep K H v d → py d = some p → Dp K H v p
  | _, _, _, .non, e => by unfold py at e; cases e; exact .non
  | _, _, _, .bl b, e => by unfold py at e; cases e; exact .bl b
  | _, _, _, .int b, e => by unfold py at e; cases e; exact .int b
  | _, _, _, .str b, e => by unfold py at e; cases e; exact .str b
  | _, _, _, .tup (l := l) h r, e => by
    unfold py at e
    cases q : pys l with
    | none => rw [q] at e; cases e
    | some x => rw [q] at e; cases e; exact .tup h (RepL.dp r q)
  | _, _, _, .lst (l := l) h r, e => by
    unfold py at e
    cases q : pys l with
    | none => rw [q] at e; cases e
    | some x => rw [q] at e; cases e; exact .lst (.inl (.inl h)) (RepL.dp r q)
  | _, _, _, .ty _, e => by unfold py at e; cases e
  | _, _, _, .scr _ _, e => by unfold py at e; cases e
  | _, _, _, .ref _, e => by unfold py at e; cases e
  | _, _, _, .dic _ _ _, e => by unfold py at e; cases e
  | _, _, _, .dit _ _ _, e => by unfold py at e; cases e
  | _, _, _, .obj _ _ _, e => by unfold py at e; cases e
  | _, _, _, .exc _, e => by unfold py at e; cases e
theorem RepL.dp {K : PySem.W.Frag} {H : Hp} : ∀ {vs : List V} {ds : List D} {ps : List PyData}, RepL K H vs ds → pys ds = some ps → DpAll K H vs ps
  | _, _, _, .nil, e => by unfold pys at e; cases e; exact .nil
  | _, _, _, .cons (d := d) (ds := ds) h r, e => by
    unfold pys at e
    cases q1 : py d with
    | none => rw [q1] at e; cases e
    | some x =>
      cases q2 : pys ds with
      | none => rw [q1, q2] at e; cases e
      | some y => rw [q1, q2] at e; cases e; exact .cons (Rep.dp h q1) (RepL.dp r q2)
end
section
variable {K : PySem.W.Frag} {te ta tb tc : TE} {t u : TT} {env e1 e2 e3 : Env} {r r1 r2 : Res} {d d1 d2 : D} {o : OB} {i j : Int} {x y : Str} {c c1 c2 : Bool} {l m : List D}
/-! ### operators -/
def isNon : D → Bool
  | .non => true
  | _ => false
theorem rep_non {F : Hp} {v : V} (h : Rep K F v d) : decide (v = V.non) = isNon d := by
  cases h <;> first | rfl | simp [isNon]
/-! ### tests -/
/-! ### calls of built-ins -/
end
end DL

namespace DL
open PySem L2

section
variable {K : PySem.W.Frag} {te ta tb tc : TE} {t u : TT} {env e1 e2 e3 : Env} {r r1 r2 : Res} {d d1 d2 : D} {o : OB} {i j : Int} {x y : Str} {c c1 c2 : Bool} {l m : List D}
/-! ### isinstance -/
/-! ### subscripts -/
def cutD {α : Type} (xs : List α) (lo hi : Option Int) : List α := (xs.drop (HT.sIx xs.length 0 lo)).take (HT.sIx xs.length xs.length hi - HT.sIx xs.length 0 lo)
theorem cut_rep {F : Hp} {vs : List V} {lo hi : Option Int} (h : RepL K F vs l) : RepL K F (cutV vs lo hi) (cutD l lo hi) := by
  unfold cutV cutD
  rw [h.length]
  exact (h.drop _).take _
/-! ### displays, list(..), tuple(..), + -/
/-! ### what is walked -/
/-- both: for x in e, by what e is -/
def iSeqU (K : PySem.W.Frag) (te : TE) : TI := fun σ H R => iList K te σ H R ∨ (iTup K te σ H R ∨ iStr te σ H R)
theorem PI.or {X : Cx} {tg e : Expr} {w1 w2 : TI} (h1 : PI X tg e w1) (h2 : PI X tg e w2) : PI X tg e (fun σ H R => w1 σ H R ∨ w2 σ H R) := ⟨fun pins s σ H R I h => by
  rcases h with h | h
  · exact h1.run pins s σ H R I h
  · exact h2.run pins s σ H R I h⟩
theorem pi_seqU {X : Cx} {K : PySem.W.Frag} {tg e : Expr} {te : TE} (h : PE X e te) (q : X.K = K := by rfl) : PI X tg e (iSeqU K te) := by subst q; exact PI.or (pi_list h) (PI.or (pi_tup h) (pi_str h))
/-- the ints of a range -/
def rng (lo : Int) (n : Nat) : List D := (List.range n).map fun i => .int (lo + (i : Nat))
def rngC (lo c : Int) (n : Nat) : List D := (List.range n).map fun i => .int (lo + (i : Nat) * c)
theorem rng_get {lo : Int} {n i : Nat} {d : D} (h : (rng lo n)[i]? = some d) : d = .int (lo + (i : Nat)) ∧ i < n := by
  unfold rng at h
  rw [List.getElem?_map] at h
  by_cases q : i < n
  · rw [List.getElem?_range q] at h; cases h; exact ⟨rfl, q⟩
  · rw [List.getElem?_eq_none (by simpa using Nat.le_of_not_lt q)] at h; cases h
theorem rngC_get {lo c : Int} {n i : Nat} {d : D} (h : (rngC lo c n)[i]? = some d) : d = .int (lo + (i : Nat) * c) ∧ i < n := by
  unfold rngC at h
  rw [List.getElem?_map] at h
  by_cases q : i < n
  · rw [List.getElem?_range q] at h; cases h; exact ⟨rfl, q⟩
  · rw [List.getElem?_eq_none (by simpa using Nat.le_of_not_lt q)] at h; cases h
theorem rng_len {lo : Int} {n : Nat} : (rng lo n).length = n := by unfold rng; simp
theorem rngC_len {lo c : Int} {n : Nat} : (rngC lo c n).length = n := by unfold rngC; simp
end
end DL

namespace DL
open PySem L2

/-! ### targets -/
section
variable {K : PySem.W.Frag} {te ta tb tc : TE} {t u : TT} {env env' e1 e2 e3 : Env} {r r1 r2 : Res} {d d1 d2 : D} {o : OB} {i j : Nat} {c c1 c2 : Bool} {l m : List D} {g : TG}
/-! ### comprehensions -/
def wipeE (env : Env) : List Nat → Env
  | [] => env
  | v :: vs => (wipeE env vs).set v .any
theorem wipeE_len (env : Env) : ∀ vs : List Nat, (wipeE env vs).length = env.length
  | [] => rfl
  | v :: vs => by unfold wipeE; rw [List.length_set, wipeE_len env vs]
theorem wipeE_get {x : EV} : ∀ {vs : List Nat} {i : Nat}, (wipeE env vs)[i]? = some x → x = .any ∨ (i ∉ vs ∧ env[i]? = some x)
  | [], i, h => .inr ⟨by simp, h⟩
  | v :: vs, i, h => by
    unfold wipeE at h
    by_cases q : v = i
    · subst q
      rw [List.getElem?_set] at h
      split at h
      · split at h
        · cases h; exact .inl rfl
        · cases h
      · rename_i z; exact absurd rfl z
    · rw [List.getElem?_set_ne q] at h
      rcases wipeE_get h with z | ⟨z1, z2⟩
      · exact .inl z
      · exact .inr ⟨by simp only [List.mem_cons, not_or]; exact ⟨fun z => q z.symm, z1⟩, z2⟩
theorem wipe_out {σ : L2.St} : ∀ {vs : List Nat} {i : Nat}, i ∉ vs → (wipe σ vs)[i]? = σ[i]?
  | [], _, _ => rfl
  | v :: vs, i, h => by
    simp only [List.mem_cons, not_or] at h
    unfold wipe
    rw [List.getElem?_set_ne (Ne.symm h.1), wipe_out h.2]
theorem Sig.wiped {b : Bs} {F : Hp} {oa : Nat → Addr} {σ : L2.St} {H : Hp} (S : Sig K b F oa σ H env) (vs : List Nat) : Sig K b F oa (L2.wipe σ vs) H (wipeE env vs) where
  g := S.g
  len := by rw [wipe_length, wipeE_len, S.len]
  val := fun i d e => by
    rcases wipeE_get e with q | ⟨q, e⟩
    · cases q
    · rw [wipe_out q]; exact S.val i d e
  own := fun i o e => by
    rcases wipeE_get e with q | ⟨q, e⟩
    · cases q
    · rw [wipe_out q]; exact S.own i o e
  dist := fun i j o u e f z => by
    rcases wipeE_get e with q | ⟨_, e⟩
    · cases q
    · rcases wipeE_get f with q | ⟨_, f⟩
      · cases q
      · exact S.dist i j o u e f z
  fix := S.fix
/-- behind a turn: the slots vs as they were ahead, the others as they are -/
def back (vs : List Nat) : Nat → Env → Env → Env
  | n, a :: r, x :: s => (if vs.contains n then a else x) :: back vs (n + 1) r s
  | _, _, _ => []
theorem back_get {vs : List Nat} : ∀ {env e2 : Env} {n i : Nat}, env.length = e2.length → (back vs n env e2)[i]? = if vs.contains (n + i) then env[i]? else e2[i]?
  | [], [], _, i, _ => by unfold back; simp
  | [], _ :: _, _, _, h => by simp at h
  | _ :: _, [], _, _, h => by simp at h
  | a :: r, x :: s, n, 0, _ => by
    unfold back
    rw [Nat.add_zero]
    show some (if vs.contains n = true then a else x) = if vs.contains n = true then some a else some x
    split <;> rfl
  | a :: r, x :: s, n, i + 1, h => by
    unfold back
    rw [List.getElem?_cons_succ, back_get (by simpa using h), show n + 1 + i = n + (i + 1) by omega]
    rfl
def noOwn (vs : List Nat) (env : Env) : Prop := ∀ (i : Nat) (o : OB), i ∈ vs → env[i]? ≠ some (.own o)
/-- what a turn in the block leaves, told of the slots outside -/
theorem Stp.block {oa : Nat → Addr} {vs : List Nat} {F H F' H' : Hp} (x : Stp oa (wipeE env vs) F H e2 F' H') (n : noOwn vs env) (hl : env.length = e2.length) : Stp oa env F H (back vs 0 env e2) F' H' where
  ff := x.ff
  kp := fun a u h q => x.kp a u h fun j o e => by
    rcases wipeE_get e with z | ⟨_, z⟩
    · cases z
    · exact q j o z
  gn := x.gn
  th := x.th
  sub := fun j o e => by
    rw [back_get hl, Nat.zero_add] at e
    by_cases w : j ∈ vs
    · rw [if_pos (by simpa using w)] at e; exact absurd e (n j o w)
    · rw [if_neg (by simpa using w)] at e
      obtain ⟨o', e'⟩ := x.sub j o e
      rcases wipeE_get e' with z | ⟨_, z⟩
      · cases z
      · exact ⟨o', z⟩
end
end DL

namespace DL
open PySem L2

/-- what a def hands back -/
inductive Ret where
  | val (d : D) | new (o : OB) | exc (C : Addr)
def RetR (K : PySem.W.Frag) (b : Bs) (F : Hp) (H : Hp) (v : V) : Ret → Prop
  | .val d => Rep K F v d
  | .new o => ∃ a, v = .ref a ∧ F a = none ∧ b.H a = none ∧ (∀ j, b.fx j ≠ some a) ∧ ORep K F H a o
  | .exc _ => False
structure Sat (K : PySem.W.Frag) (b : Bs) (F : Hp) (W : WX) (D : Ends) (N B C : Env → Prop) (R : Ret → Env → Prop) : Prop where
  nx : ∀ env F' oa σ H, N env → Sig K b F' oa σ H env → Ex F F' → D.nx σ H
  bk : ∀ env F' oa σ H, B env → Sig K b F' oa σ H env → Ex F F' → D.bk σ H
  ct : ∀ env F' oa σ H, C env → Sig K b F' oa σ H env → Ex F F' → D.ct σ H
  rt : ∀ r env F' oa σ H v, R r env → Sig K b F' oa σ H env → Ex F F' → RetR K b F' H v r → D.rt v H
  xc : ∀ X env F' oa σ H, R (.exc X) env → Sig K b F' oa σ H env → Ex F F' → W (.ref X) none σ H
theorem Sat.mono {K : PySem.W.Frag} {b : Bs} {F F1 : Hp} {W : WX} {D : Ends} {N B C : Env → Prop} {R : Ret → Env → Prop} (s : Sat K b F W D N B C R) (e : Ex F F1) : Sat K b F1 W D N B C R :=
  ⟨fun env F' oa σ H h S x => s.nx env F' oa σ H h S (e.trans x), fun env F' oa σ H h S x => s.bk env F' oa σ H h S (e.trans x), fun env F' oa σ H h S x => s.ct env F' oa σ H h S (e.trans x), fun r env F' oa σ H v h S x q => s.rt r env F' oa σ H v h S (e.trans x) q, fun X env F' oa σ H h S x => s.xc X env F' oa σ H h S (e.trans x)⟩
/-- a statement: from env it goes on (N), breaks (B), continues (C), or hands back (R); pr: the slots whose objects were handed in to be changed -/
def Exec (K : PySem.W.Frag) (pr : List Nat) (W : WX) (t : TS) (env : Env) (N B C : Env → Prop) (R : Ret → Env → Prop) : Prop := ∀ (b : Bs) (F : Hp) (oa : Nat → Addr) (σ : L2.St) (H : Hp) (D : Ends),
  (∀ i, b.fx i ≠ none → i ∈ pr) → Sig K b F oa σ H env → Sat K b F W D N B C R → t D σ H

section
variable {K : PySem.W.Frag} {pr : List Nat} {W : WX} {te ta tb tc : TE} {t u : TT} {s s1 s2 : TS} {env env' e1 e2 e3 : Env} {r r1 r2 : Res} {d d1 d2 : D} {o : OB} {i j : Nat} {c c1 c2 : Bool} {l m : List D} {g : TG} {N N' B B' C C' : Env → Prop} {R R' : Ret → Env → Prop}
theorem x_mono (h : Exec K pr W s env N B C R) (hn : ∀ e, N e → N' e) (hb : ∀ e, B e → B' e) (hc : ∀ e, C e → C' e) (hr : ∀ r e, R r e → R' r e) : Exec K pr W s env N' B' C' R' := fun b F oa σ H D hp S st =>
  h b F oa σ H D hp S ⟨fun env F oa σ H h S => st.nx env F oa σ H (hn _ h) S, fun env F oa σ H h S => st.bk env F oa σ H (hb _ h) S, fun env F oa σ H h S => st.ct env F oa σ H (hc _ h) S, fun r env F oa σ H v h S x q => st.rt r env F oa σ H v (hr _ _ h) S x q, fun X env F oa σ H h S x => st.xc X env F oa σ H (hr _ _ h) S x⟩
end

/-! ### promises -/
/-- an argument: data, or an object handed in to be changed -/
inductive AV where
  | val (d : D) | own (o : OB)
structure ArgsR (K : PySem.W.Frag) (F H : Hp) (vs : List V) (as : List AV) : Prop where
  len : vs.length = as.length
  val : ∀ (i : Nat) (d : D), as[i]? = some (.val d) → ∃ v, vs[i]? = some v ∧ Rep K F v d
  own : ∀ (i : Nat) (o : OB), as[i]? = some (.own o) → ∃ a, vs[i]? = some (.ref a) ∧ F a = none ∧ ORep K F H a o
  dist : ∀ (i j : Nat) (o u : OB) (a : Addr), as[i]? = some (.own o) → as[j]? = some (.own u) → vs[i]? = some (.ref a) → vs[j]? = some (.ref a) → i = j
/-- an address of an object that was handed in to be changed -/
def ownA (vs : List V) (as : List AV) (a : Addr) : Prop := ∃ (i : Nat) (o : OB), as[i]? = some (.own o) ∧ vs[i]? = some (.ref a)
structure CallEnd (K : PySem.W.Frag) (F H F' H' : Hp) (vs : List V) (as as' : List AV) (v : V) (r : Ret) : Prop where
  ff : Ex F F'
  fh : Ex F' H'
  kp : ∀ a u, H a = some u → ¬ ownA vs as a → H' a = some u
  gn : ∀ a, F' a ≠ none → F a ≠ none ∨ H a = none
  th : ∀ a, H a ≠ none → H' a ≠ none
  own : ∀ (i : Nat) (o : OB), as[i]? = some (.own o) → ∃ o' a, as'[i]? = some (.own o') ∧ vs[i]? = some (.ref a) ∧ F' a = none ∧ ORep K F' H' a o'
  ret : match r with
    | .val d => Rep K F' v d
    | .new o => ∃ a, v = .ref a ∧ F' a = none ∧ H a = none ∧ ORep K F' H' a o
    | .exc _ => True
/-- what is wanted of what came -/
def outR (r : Ret) (E : XK) (Q : VK) (v : V) (H : Hp) : Prop := match r with
  | .exc C => E (.ref C) none H
  | _ => Q v H
/-- THE PROMISE: from arguments as it hands back r and leaves them as' -/
def SpG (K : PySem.W.Frag) (P : List AV → Ret → List AV → Prop) : Sp := fun vs H Q E => ∃ F as r as', Ex F H ∧ ArgsR K F H vs as ∧ P as r as' ∧ ∀ v F' H', CallEnd K F H F' H' vs as as' v r → outR r E Q v H'
def AV.ev : AV → EV
  | .val d => .val d
  | .own o => .own o
open Classical in
noncomputable def hideA (vs : List V) (as : List AV) (H : Hp) : Hp := fun a => if ownA vs as a then none else H a
theorem hideA_ex {vs : List V} {as : List AV} {H : Hp} : Ex (hideA vs as H) H := fun a o e => by
  unfold hideA at e
  split at e
  · cases e
  · exact e
/-- what was handed in is in its slots yet -/
def Held (as as' : List AV) (e : Env) : Prop := ∀ (i : Nat) (o : OB), as[i]? = some (AV.own o) → ∃ o', as'[i]? = some (AV.own o') ∧ e[i]? = some (EV.own o')
/-- a def's body keeps its promise -/
theorem run_SpG {K : PySem.W.Frag} {P : List AV → Ret → List AV → Prop} {Nm : List Str} {n : Nat} {t : TS} {vs : List V} {H : Hp} {Q : VK} {E : XK} (h : SpG K P vs H Q E) (hn : ∀ as r as', P as r as' → as.length = n ∧ n ≤ Nm.length)
    (body : ∀ as r as', P as r as' → ∃ pr : List Nat, (∀ (i : Nat) (o : OB), as[i]? = some (AV.own o) → i ∈ pr) ∧ Exec K pr (fun cls d _ H => E cls d H) t (as.map AV.ev ++ List.replicate (Nm.length - n) .any)
      (fun e => r = .val .non ∧ Held as as' e) (fun _ => False) (fun _ => False) (fun q e => q = r ∧ Held as as' e)) :
    t { nx := fun _ H' => Q .non H', rt := Q } (L2.start Nm vs) H := by
  obtain ⟨F, as, r, as', e, ar, p, k⟩ := h
  obtain ⟨hl, hnm⟩ := hn as r as' p
  obtain ⟨pr, hpr, hx⟩ := body as r as' p
  have lvs : vs.length = n := by rw [ar.len, hl]
  have stg : ∀ (i : Nat) (v : V), vs[i]? = some v → (L2.start Nm vs)[i]? = some (some v) := fun i v h => by
    unfold L2.start
    have hi : i < vs.length := (List.getElem?_eq_some_iff.mp h).1
    rw [List.getElem?_append_left (by simpa using hi), List.getElem?_map, h]; rfl
  have evg : ∀ (i : Nat) (x : EV), (as.map AV.ev ++ List.replicate (Nm.length - n) .any)[i]? = some x → x = .any ∨ ∃ a, as[i]? = some a ∧ x = a.ev := fun i x h => by
    by_cases hi : i < as.length
    · rw [List.getElem?_append_left (by simpa using hi), List.getElem?_map] at h
      cases z : as[i]? with
      | none => rw [z] at h; cases h
      | some a => rw [z] at h; cases h; exact .inr ⟨a, rfl, rfl⟩
    · rw [List.getElem?_append_right (by simpa using Nat.le_of_not_lt hi)] at h
      have := List.getElem?_eq_some_iff.mp h
      obtain ⟨h1, h2⟩ := this
      rw [List.getElem_replicate] at h2
      exact .inl h2.symm
  have evo : ∀ (i : Nat) (o : OB), (as.map AV.ev ++ List.replicate (Nm.length - n) .any)[i]? = some (.own o) → as[i]? = some (.own o) := fun i o h => by
    rcases evg i _ h with z | ⟨a, h1, h2⟩
    · cases z
    · cases a with
      | val d => cases h2
      | own u => cases h2; exact h1
  -- the addresses
  let oa : Nat → Addr := fun i => match vs[i]? with
    | some (.ref a) => a
    | _ => 0
  have oav : ∀ (i : Nat) (a : Addr), vs[i]? = some (.ref a) → oa i = a := fun i a h => by show (match vs[i]? with | some (.ref a) => a | _ => 0) = a; rw [h]
  let fx : Nat → Option Addr := fun i => match as[i]? with
    | some (.own _) => some (oa i)
    | _ => none
  have fxs : ∀ i a, fx i = some a → ∃ o, as[i]? = some (.own o) ∧ a = oa i := fun i a h => by
    have h' : (match as[i]? with | some (.own _) => some (oa i) | _ => none) = some a := h
    cases z : as[i]? with
    | none => rw [z] at h'; cases h'
    | some x =>
      rw [z] at h'
      cases x with
      | val d => cases h'
      | own o => cases h'; exact ⟨o, rfl, rfl⟩
  have hidN : ∀ (i : Nat) (o : OB) (a : Addr), as[i]? = some (.own o) → vs[i]? = some (.ref a) → hideA vs as H a = none := fun i o a h1 h2 => by
    unfold hideA
    rw [if_pos ⟨i, o, h1, h2⟩]
  have S : Sig K ⟨F, hideA vs as H, fx⟩ F oa (L2.start Nm vs) H (as.map AV.ev ++ List.replicate (Nm.length - n) .any) := by
    refine ⟨⟨Ex.refl _, hideA_ex, e, fun a h => .inl h⟩, ?_, fun i d h => ?_, fun i o h => ?_, fun i j o u h1 h2 q => ?_, fun i a h => ?_⟩
    · unfold L2.start; simp [lvs, hl]
    · rcases evg i _ h with z | ⟨a, h1, h2⟩
      · cases z
      · cases a with
        | own o => cases h2
        | val d' =>
          cases h2
          obtain ⟨v, q1, q2⟩ := ar.val i d h1
          exact ⟨v, stg i v q1, q2⟩
    · have h1 := evo i o h
      obtain ⟨a, q1, q2, q3⟩ := ar.own i o h1
      rw [oav i a q1]
      exact ⟨stg i _ q1, q2, hidN i o a h1 q1, q3⟩
    · have h1 := evo i o h1
      have h2 := evo j u h2
      obtain ⟨a, q1, _⟩ := ar.own i o h1
      obtain ⟨a', q1', _⟩ := ar.own j u h2
      rw [oav i a q1, oav j a' q1'] at q
      subst q
      exact ar.dist i j o u a h1 h2 q1 q1'
    · obtain ⟨o, h1, rfl⟩ := fxs i a h
      obtain ⟨a, q1, _, q3⟩ := ar.own i o h1
      obtain ⟨w, hw⟩ := q3.ho
      exact ⟨rfl, by rw [oav i a q1, hw]; simp⟩
  have fin : ∀ env F' oa' σ' H' v, Sig K ⟨F, hideA vs as H, fx⟩ F' oa' σ' H' env → Held as as' env → (RetR K ⟨F, hideA vs as H, fx⟩ F' H' v r ∨ ∃ C, r = .exc C) → outR r E Q v H' := fun env F' oa' σ' H' v S' ho hr => by
    have fxo : ∀ (i : Nat) (o : OB) (a : Addr), as[i]? = some (.own o) → vs[i]? = some (.ref a) → oa' i = a ∧ H' a ≠ none := fun i o a h1 h2 => by
      have q : fx i = some a := by
        show (match as[i]? with | some (.own _) => some (oa i) | _ => none) = some a
        rw [h1, oav i a h2]
      exact S'.fix i a q
    have hkp : ∀ a u, H a = some u → ¬ ownA vs as a → H' a = some u := fun a u h n => S'.g.gh a u (by
      show hideA vs as H a = some u
      unfold hideA
      rw [if_neg n]; exact h)
    refine k v F' H' ⟨S'.g.gf, S'.g.fh, hkp, fun a h => ?_, fun a h => ?_, fun i o h => ?_, ?_⟩
    · rcases S'.g.gn a h with q | q
      · exact .inl q
      · by_cases z : ownA vs as a
        · obtain ⟨i, o, h1, h2⟩ := z
          obtain ⟨o', h3, h4⟩ := ho i o h1
          obtain ⟨_, x2, _⟩ := S'.own i o' h4
          rw [(fxo i o a h1 h2).1] at x2
          exact absurd x2 h
        · refine .inr ?_
          have q' : hideA vs as H a = none := q
          unfold hideA at q'
          rw [if_neg z] at q'
          exact q'
    · by_cases z : ownA vs as a
      · obtain ⟨i, o, h1, h2⟩ := z
        exact (fxo i o a h1 h2).2
      · cases w : H a with
        | none => exact absurd w h
        | some u => rw [hkp a u w z]; simp
    · obtain ⟨o', h3, h4⟩ := ho i o h
      obtain ⟨a, q1, _⟩ := ar.own i o h
      obtain ⟨_, x2, _, x4⟩ := S'.own i o' h4
      rw [(fxo i o a h q1).1] at x2 x4
      exact ⟨o', a, h3, q1, x2, x4⟩
    · cases r with
      | exc C => trivial
      | val d =>
        rcases hr with hr | ⟨_, hr⟩
        · exact hr
        · cases hr
      | new o =>
        rcases hr with hr | ⟨_, hr⟩
        rotate_left
        · cases hr
        obtain ⟨a, rfl, h1, h2, h3, h4⟩ := hr
        refine ⟨a, rfl, h1, ?_, h4⟩
        have h2' : hideA vs as H a = none := h2
        unfold hideA at h2'
        split at h2'
        · rename_i z
          obtain ⟨i, o', h5, h6⟩ := z
          refine absurd ?_ (h3 i)
          show (match as[i]? with | some (.own _) => some (oa i) | _ => none) = some a
          rw [h5, oav i a h6]
        · exact h2'
  refine hx ⟨F, hideA vs as H, fx⟩ F oa (L2.start Nm vs) H _ (fun i h => ?_) S ⟨fun env F' oa σ H h S x => ?_, fun _ _ _ _ _ h => h.elim, fun _ _ _ _ _ h => h.elim, fun q env F' oa σ H v h S x hr => ?_, fun X env F' oa σ H h S x => ?_⟩
  · cases z : fx i with
    | none => exact absurd z h
    | some a =>
      obtain ⟨o, h1, _⟩ := fxs i a z
      exact hpr i o h1
  · obtain ⟨h1, h2⟩ := h
    subst h1
    exact fin env F' oa σ H .non S h2 (.inl .non)
  · obtain ⟨h1, h2⟩ := h
    subst h1
    have := fin env F' oa σ H v S h2 (.inl hr)
    cases q with
    | exc C => exact hr.elim
    | val d => exact this
    | new o => exact this
  · obtain ⟨h1, h2⟩ := h
    subst h1
    exact fin env F' oa σ H .non S h2 (.inr ⟨_, rfl⟩)
/-- raise C('..') -/
def tRaise (W : WX) (C : Addr) : TS := fun _ σ H => W (.ref C) none σ H
section
variable {K : PySem.W.Frag} {pr : List Nat} {W : WX} {env e1 : Env} {N B C : Env → Prop} {R : Ret → Env → Prop} {X : Addr}
end
end DL

namespace DL
open PySem L2

/-! ### calls -/
section
variable {K : PySem.W.Frag} {env e1 : Env} {P : List AV → Ret → List AV → Prop} {rs : List Res} {as as' : List AV} {d : D} {o : OB} {ta : TA} {E : XK}
def slots : List Res → List Nat
  | [] => []
  | .val _ :: r => slots r
  | .slot i :: r => i :: slots r
/-! ### expressions that raise -/
variable {W : WX} {X : Addr} {te tb tl : TE} {t u : TT} {rr : R2} {e2 : Env} {r : Res} {cc : Bool} {pr : List Nat} {N B C : Env → Prop} {R : Ret → Env → Prop} {g : TG}
end
end DL

/-! ### an exception that is caught, and kept by a name behind its clause -/
namespace L2
open PySem PySem.Spec PyProof.Rows DL
section
variable {X : Cx} {pins : List (Addr × Obj)} {σ : L2.St} {H : Hp} {s : Shared}
/-- what 'except x as n: m = n' wishes: slot j is m's, i is n's -/
def wKeep (K : PySem.W.Frag) (c : Value) (i j : Nat) (D : Ends) : WX := fun cls d σ H =>
  ∃ C, cls = .ref C ∧ d = none ∧ PySem.W.exmOne K cls c = some true ∧ ∀ a, H a = none → D.nx (((σ.set i (some (.ref a))).set j (some (.ref a))).set i none) (upd H a (ExK C a))
end
section
variable {X : Cx} {x n : Str} {c : Value} {i j : Nat} {body suite : List Stmt} {b₀ : Stmt} {np pos pos' : Pos} {tb : WX → TS}
end
end L2

namespace DL
open PySem L2
section
variable {K : PySem.W.Frag} {b : Bs} {F H : Hp} {oa : Nat → Addr} {σ : L2.St} {env : Env} {i j : Nat}
theorem Sig.unset (S : Sig K b F oa σ H env) : Sig K b F oa (σ.set i none) H (env.set i .any) where
  g := S.g
  len := by simp [S.len]
  val := fun n d e => by
    by_cases q : i = n
    · subst q
      rw [List.getElem?_set] at e
      split at e
      · split at e <;> cases e
      · rename_i z; exact absurd rfl z
    · rw [List.getElem?_set_ne q] at e
      rw [List.getElem?_set_ne q]
      exact S.val n d e
  own := fun n d e => by
    by_cases q : i = n
    · subst q
      rw [List.getElem?_set] at e
      split at e
      · split at e <;> cases e
      · rename_i z; exact absurd rfl z
    · rw [List.getElem?_set_ne q] at e
      rw [List.getElem?_set_ne q]
      exact S.own n d e
  dist := fun n m o u e f z => by
    have t : ∀ (n : Nat) (o : OB), (env.set i .any)[n]? = some (EV.own o) → env[n]? = some (EV.own o) := fun n o e => by
      by_cases q : i = n
      · subst q
        rw [List.getElem?_set] at e
        split at e
        · split at e <;> cases e
        · rename_i z; exact absurd rfl z
      · rw [List.getElem?_set_ne q] at e; exact e
    exact S.dist n m o u (t _ _ e) (t _ _ f) z
  fix := S.fix
end
/-- try: body / except c as n: m = n -/
def tTry (K : PySem.W.Frag) (c : Value) (i j : Nat) (tb : WX → TS) : TS := fun D σ H => tb (wKeep K c i j D) D σ H
section
variable {K : PySem.W.Frag} {pr : List Nat} {W : WX} {env : Env} {i j : Nat} {N B C : Env → Prop} {R : Ret → Env → Prop} {c : Value} {tb : WX → TS}
/-- what is caught goes on with slot j holding it -/
def caught (K : PySem.W.Frag) (c : Value) (i j : Nat) (N : Env → Prop) (R : Ret → Env → Prop) : Ret → Env → Prop := fun q e => match q with
  | .exc X => PySem.W.exmOne K (.ref X) c = some true ∧ N (((e.set i (.val (.exc X))).set j (.val (.exc X))).set i .any)
  | q => R q e
end

/-! ### isinstance, of exceptions too -/
def rIsX (K : PySem.W.Frag) : List V → Hp → VK → Prop := fun xs H Q => ∃ (a C : Addr) (c : V) (u : Value) (b : Bool), xs = [.ref a, c] ∧ H a = some (ExK C a) ∧ ExcC K C ∧ ClsV c u ∧ PySem.W.kitOne K (.ref C) u = some b ∧ Q (.bl b) H
def rIsXT (K : PySem.W.Frag) : List V → Hp → VK → Prop := fun xs H Q => ∃ (a C tp : Addr) (cs : List V) (us : List Value) (b : Bool), xs = [.ref a, .ref tp] ∧ H a = some (ExK C a) ∧ ExcC K C ∧ H tp = some (.tup cs) ∧ Paired ClsV cs us ∧ PySem.W.kitAny K (.ref C) us = some b ∧ Q (.bl b) H
theorem exk_at {X : Cx} {pins : List (Addr × Obj)} {σ : L2.St} {H : Hp} {s : Shared} {a C : Addr} (I : Inv X pins σ H s) (h : H a = some (ExK C a)) : ∃ oe, PySem.W.InstAt s.heap a oe C none := by
  obtain ⟨⟨oe, vs, h1, h2, h3⟩, _⟩ := (show ObjOk X.prog X.w H s.heap a (ExK C a) from I.hok a _ h)
  obtain ⟨oc, od, dt, sl⟩ := oe
  obtain ⟨z1, z2⟩ := h2
  dsimp only at z1 z2 h3
  subst z1 z2 h3
  exact ⟨_, h1, rfl, rfl, trivial⟩
section
variable {X : Cx}
theorem call_isX : CallR X (.builtin "isinstance") (rIsX X.K) := by
  intro pins s σ H xs us Q I r h
  obtain ⟨a, C, c, u, b, rfl, ha, x, k, e, q⟩ := h
  obtain ⟨u1, u2, rfl, r1, r2⟩ := vals2 r
  have e2 := k.eq r2
  subst e2
  cases (show u1 = Value.ref a from r1)
  obtain ⟨oe, J⟩ := exk_at I ha
  exact PySem.W.kia_one (PySem.W.handS_kitx_exc x.hg x.hk x.hs x.hd x.ha x.hn x.ht x.hm) I.kIn J e (fun z => nomatch z) fun tk => ⟨.bl b, H, I.tok tk, rfl, q⟩
theorem call_isXT : CallR X (.builtin "isinstance") (rIsXT X.K) := by
  intro pins s σ H xs us Q I r h
  obtain ⟨a, C, tp, cs, ws, b, rfl, ha, x, hT, k, e, q⟩ := h
  obtain ⟨u1, u2, rfl, r1, r2⟩ := vals2 r
  cases (show u1 = Value.ref a from r1)
  cases (show u2 = Value.ref tp from r2)
  obtain ⟨oe, J⟩ := exk_at I ha
  obtain ⟨_, its, rv, o, h1, h2, n, h3⟩ := (show ObjOk X.prog X.w H s.heap tp (.tup cs) from I.hok tp _ hT)
  have e3 := ClsV.all k rv
  subst e3
  obtain ⟨oc, od, dt, sl⟩ := o
  dsimp only at h2 h3
  subst h2 h3
  exact PySem.W.kia_tup (PySem.W.handS_kitx_exc x.hg x.hk x.hs x.hd x.ha x.hn x.ht x.hm) I.kIn J h1 e (fun z => nomatch z) fun tk => ⟨.bl b, H, I.tok tk, rfl, q⟩
end
def rIsiU (K : PySem.W.Frag) : List V → Hp → VK → Prop := fun xs H Q => rIsi K xs H Q ∨ (rIsiT K xs H Q ∨ (rIsX K xs H Q ∨ rIsXT K xs H Q))
theorem call_isiA {X : Cx} {K : PySem.W.Frag} (e : X.K = K := by rfl) : CallR X (.builtin "isinstance") (rIsiU K) := by subst e; exact CallR.or call_isi (CallR.or call_isiT (CallR.or call_isX call_isXT))
/-- raise C('..') -/
theorem ps_raiseC {X : Cx} {W : WX} {C : Addr} {e : Expr} {pos : Pos} (hc : X.calm = true) (tk : Takes X W) (he : PMk X e (fun _ H Q => Q (.ref C) none H)) : PS X (.Raise (some e) none pos) (tRaise W C) := ps_raise hc tk he
end DL

namespace DL
open PySem L2

/-! ### operators and built-ins by what their operands came to -/
section
variable {K : PySem.W.Frag} {te ta tb tc : TE} {t u : TT} {env e e1 e2 e3 : Env} {r r1 r2 r3 : Res} {d d1 d2 : D} {o : OB} {i j k' : Int} {x y : Str} {c c1 c2 : Bool} {l m : List D} {rr : R2}
end

/-! ### defs -/
/-- a def that may be called by its name -/
structure Df (P : Program) (w : World) (K : PySem.W.Frag) (mg : Str → Option Value) (base : Heap) (k : Nat) (x : Str) (sp : Sp) : Prop where
  ex : ∃ (f : Addr) (fd : FuncData) (ps : List Str), FnOk P w K mg base CX0 k f fd ps sp ∧ mg x = some (.ref f) ∧ PySem.W.keepIn K (.ref f) = true ∧ Binds K fd ps []
section
variable {X : Cx} {k j : Nat} {x : Str} {sp : Sp} {p pos : Pos} {e : Expr} {es : List Expr} {t : TA}
end
/-- .. that may raise -/
structure Dx (P : Program) (w : World) (K : PySem.W.Frag) (mg : Str → Option Value) (base : Heap) (k : Nat) (x : Str) (sp : Sp) : Prop where
  ex : ∃ (f : Addr) (fd : FuncData) (ps : List Str), FnOk P w K mg base (L2.CX P w) k f fd ps sp ∧ mg x = some (.ref f) ∧ PySem.W.keepIn K (.ref f) = true ∧ Binds K fd ps []
section
variable {X : Cx} {W : WX} {k j : Nat} {x : Str} {sp : Sp} {p pos : Pos} {e : Expr} {es : List Expr} {t : TA}
theorem pe_dx (c : Dx X.prog X.w X.K X.mg X.base k x sp) (tk : Takes X W) (hr : Room j X.A) (hk : k ≤ j) (hg : Gl X x) (ha : PA X (e :: es) t)
    (hdb : (x == ("__debug__" : Str)) = false := by decide) (he : starEach (e :: es) X.env = (false, eval e X.env) :: starEach es X.env := by rfl) (hpl : (backTo pos (starEach es X.env)).any (·.1) = false := by rfl) :
    PE X (.Call (.Name x p) (e :: es) [] pos) (tCallS sp (WE W) t) := by
  obtain ⟨f, fd, ps, F, hm, kp, b⟩ := c.ex
  exact pe_callS F (hr.mono hk) hg hm kp b (fun σ => passAt tk σ) ha hdb he hpl
/-- .. and does not, where it is called -/
theorem pe_dx0 (c : Dx X.prog X.w X.K X.mg X.base k x sp) (hr : Room j X.A) (hk : k ≤ j) (hg : Gl X x) (ha : PA X (e :: es) t)
    (hdb : (x == ("__debug__" : Str)) = false := by decide) (he : starEach (e :: es) X.env = (false, eval e X.env) :: starEach es X.env := by rfl) (hpl : (backTo pos (starEach es X.env)).any (·.1) = false := by rfl) :
    PE X (.Call (.Name x p) (e :: es) [] pos) (tCall sp [] E0 t) := by
  obtain ⟨f, fd, ps, F, hm, kp, b⟩ := c.ex
  exact pe_call F (hr.mono hk) hg hm kp b .nil passL ha hdb he hpl
end
theorem vals_noOwn {ds : List D} {i : Nat} {o : OB} : (ds.map AV.val)[i]? ≠ some (AV.own o) := by
  rw [List.getElem?_map]
  cases ds[i]? <;> simp
section
variable {K : PySem.W.Frag} {env e1 : Env} {f : List D → D → Prop} {g : List D → OB → Prop} {rs : List Res} {ds : List D} {d : D} {o : OB} {ta : TA} {E : XK}
end
section
variable {K : PySem.W.Frag} {env e1 : Env} {f : List D → Ret → Prop} {rs : List Res} {ds : List D} {d : D} {o : OB} {ta : TA} {W : WX} {C : Addr} {E : XK}
end
section
variable {P : Program} {w : World} {K : PySem.W.Frag} {mg : Str → Option Value} {base : Heap} {x qn : Str} {st : Stmt} {fa : Addr} {fd : FuncData} {N ps : List Str} {k : Nat}
theorem spG_len {Pr : List AV → Ret → List AV → Prop} {n : Nat} (hn : ∀ as r as', Pr as r as' → as.length = n) {vs : List V} {H : Hp} {Q : VK} {E : XK} (h : SpG K Pr vs H Q E) : vs.length = n := by
  obtain ⟨F, as, r, as', _, ar, p, _⟩ := h
  rw [ar.len, hn as r as' p]
theorem Fn.ofG {Pr : List AV → Ret → List AV → Prop} (F : Fun K x qn st fa fd) (S : FnScope N ps (defScope st)) (hn : ∀ as r as', Pr as r as' → as.length = ps.length)
    (body : ∀ (cdv : Value) (A : Around) (outer : List PySem.Env) (s : Shared) (H : Hp) (E : XK), Room k (A.deeper (PyProof.Rows.envOfC qn (defScope st) s.heap.objs.size fa cdv)) →
      ∃ t, PSs (cxOf CX0 P w K mg base N qn (defScope st) fa cdv A outer s H E).nox (defBody st) t ∧ ∀ as r as', Pr as r as' → ∃ pr : List Nat, (∀ (i : Nat) (o : OB), as[i]? = some (AV.own o) → i ∈ pr) ∧ Exec K pr (fun cls d _ H => E cls d H) t (as.map AV.ev ++ List.replicate (N.length - ps.length) .any)
      (fun e => r = .val .non ∧ Held as as' e) (fun _ => False) (fun _ => False) (fun q e => q = r ∧ Held as as' e)) : FnOk P w K mg base CX0 (k + 1) fa fd ps (SpG K Pr) :=
  F.ok S (fun vs H Q E h => spG_len hn h) (fun cdv A outer s H vs Q E hr h => by
    obtain ⟨t, h1, h2⟩ := body cdv A outer s H E hr
    have hpl : ps.length ≤ N.length := by have := congrArg List.length S.pre; rw [List.length_take] at this; omega
    exact ⟨t, h1, run_SpG h (fun as r as' p => ⟨hn as r as' p, hpl⟩) h2⟩)
theorem Dx.of {sp : Sp} (h : FnOk P w K mg base (L2.CX P w) k fa fd ps sp) (F : Fun K x qn st fa fd) (hm : mg x = some (.ref fa)) (b : Binds K fd ps []) : Dx P w K mg base k x sp := ⟨fa, fd, ps, h, hm, F.kp, b⟩
theorem Df.of {sp : Sp} (h : FnOk P w K mg base CX0 k fa fd ps sp) (F : Fun K x qn st fa fd) (hm : mg x = some (.ref fa)) (b : Binds K fd ps []) : Df P w K mg base k x sp := ⟨fa, fd, ps, h, hm, F.kp, b⟩
end
end DL

namespace DL
open PySem L2
/-! ### == of data, by a plain function -/
mutual
def pl : Nat → D → Bool
  | _, .non => true
  | _, .bl _ => true
  | _, .int _ => true
  | _, .str x => PyData.canLay0 (.str x)
  | n + 1, .tup l => plL n l
  | n + 1, .lst l => plL n l
  | _, _ => false
def plL : Nat → List D → Bool
  | _, [] => true
  | n, d :: r => pl n d && plL n r
end
/-- x == y of data -/
def eqB (d e : D) : Bool := match py d, py e with
  | some p, some q => PyData.eqv p q
  | _, _ => false
/-! ### items -/
/-! ### comprehensions over one name, the slots left as they are -/
section
variable {K : PySem.W.Frag} {te : TE} {t : TT} {env e1 : Env} {wi : TI} {j : Nat}
end
/-! ### isinstance of data -/
end DL

namespace DL
open PySem L2
section
variable {K : PySem.W.Frag} {pr : List Nat} {W : WX} {s : TS} {env e1 : Env} {i j : Nat} {N B C : Env → Prop} {R : Ret → Env → Prop} {wi : TI} {ds : List D}
theorem small_of {n : Int} (c : Int) (h0 : 0 ≤ n) (h1 : n ≤ 70) (hc : c = 1 ∨ c = 2 ∨ c = 3 ∨ c = 8) : Builtin.Range.small 0 n c = true := by
  have k1 : ∀ m : Nat, m < 71 → Builtin.Range.small 0 (m : Int) 1 = true := by decide
  have k2 : ∀ m : Nat, m < 71 → Builtin.Range.small 0 (m : Int) 2 = true := by decide
  have k3 : ∀ m : Nat, m < 71 → Builtin.Range.small 0 (m : Int) 3 = true := by decide
  have k8 : ∀ m : Nat, m < 71 → Builtin.Range.small 0 (m : Int) 8 = true := by decide
  have e : n = ((n.toNat : Nat) : Int) := by omega
  rw [e]
  rcases hc with h | h | h | h <;> subst h
  · exact k1 _ (by omega)
  · exact k2 _ (by omega)
  · exact k3 _ (by omega)
  · exact k8 _ (by omega)
theorem rg_of {n c : Int} (h : Builtin.Range.small 0 n c = true) (hc : 0 < c ∧ c < 1000) : RgC 0 n c (if 0 < n then (n - 1) / c + 1 else 0).toNat := by
  refine ⟨by omega, by omega, h, ?_⟩
  unfold Builtin.Range.rangeSize
  rw [if_pos (show c > 0 from hc.1)]
  by_cases q : 0 < n
  · rw [if_pos q, if_pos q]
    have : 0 ≤ (n - 1) / c := Int.ediv_nonneg (by omega) (by omega)
    rw [show n - 0 - 1 = n - 1 by omega]
    omega
  · rw [if_neg q, if_neg q]; rfl
/-- range(0, n, 3) for n to 70 -/
theorem rg3 {n : Int} (h0 : 0 ≤ n) (h1 : n ≤ 70) : RgC 0 n 3 (if 0 < n then (n - 1) / 3 + 1 else 0).toNat := rg_of (small_of 3 h0 h1 (by omega)) (by omega)
theorem log2_lt {n : Int} {k : Nat} (h0 : 0 < n) (h : n < 2 ^ k) (hk : k < 9000) : 0 < n ∧ n.natAbs.log2 < 9000 := by
  refine ⟨h0, ?_⟩
  have e : ((2 ^ k : Nat) : Int) = 2 ^ k := by simp
  have a : n.natAbs < 2 ^ k := by omega
  have := (Nat.log2_lt (n := n.natAbs) (k := k) (by omega)).mpr a
  omega
end
end DL

/-! ### methods of data by what their operands came to -/
namespace L2
open PySem PySem.Spec PyProof.Rows
end L2
namespace DL
open PySem L2
section
variable {K : PySem.W.Frag} {te tb : TE} {ta : TA} {env e e1 e2 : Env} {r r' : Res} {rs : List Res} {d : D} {l : List D} {i j : Nat} {n : Int} {x y : Str}
end
end DL

namespace DL
open PySem L2
/-! ### more statements and operators -/
def ipAddU : TIp := fun x y H Q => ipI (fun i j => i + j) x y H Q ∨ rExt2 x y H Q
theorem ip_addU {X : Cx} : PIp X .Add ipAddU := fun pins s σ H x y v u Q I rx ry h => by
  rcases h with h | h
  · exact ip_add pins s σ H x y v u Q I rx ry h
  · exact iop_ext pins s σ H x y v u Q I rx ry h
section
variable {K : PySem.W.Frag} {pr : List Nat} {W : WX} {te ta tb : TE} {env e1 e2 e : Env} {r r1 r2 : Res} {i j : Nat} {l m : List D} {N B C : Env → Prop} {R : Ret → Env → Prop} {n k : Int} {d d1 d2 : D} {c : Bool}
end
end DL
namespace DL
open PySem L2
end DL

/-! ### a tuple times any small number -/
namespace L2
open PySem PySem.Spec PyProof.Rows
theorem mulT_same (l : Addr) (items : Array Value) (n : Nat) (dd : Option Addr) (sl : Array (Option Value)) (x : Int) (u : Tok) (c0 : (decide (x < -(2 ^ 63)) || decide (x ≥ 2 ^ 63)) = false) (c1 : (items.isEmpty || x == 1) = true) :
    Meets (Builtin.«tuple.__mul__» ⟨[.ref l, .int x u], []⟩) (fun _ R s => s.heap.get? l = some { cls := .type "tuple", dict := dd, data := .seq items n, slots := sl } ∧ R (.ok (.ret (.ref l))) s) := .of_wp fun prog w A R s h => by
  obtain ⟨hp, g, d, tk, os⟩ := s
  obtain ⟨hl, h⟩ := h
  have g1 := AutoSeq1.idx_int
  wp_walk using wpAny_loadPart' hl
  repeat (first
    | (refine wpAny_ite_false (decide_eq_false (by rw [c0]; decide)) ?_; wp_walk using wpAny_loadPart' hl)
    | (refine wpAny_ite_true (decide_eq_true c1) ?_; wp_walk using wpAny_loadPart' hl))
  exact ⟨_, rfl, h⟩
theorem mulT_none (l : Addr) (items : Array Value) (n : Nat) (dd : Option Addr) (sl : Array (Option Value)) (x : Int) (u : Tok) (c0 : (decide (x < -(2 ^ 63)) || decide (x ≥ 2 ^ 63)) = false) (c1 : (items.isEmpty || x == 1) = false) (c2 : (decide (x ≤ 0) || items.isEmpty) = true) :
    Meets (Builtin.«tuple.__mul__» ⟨[.ref l, .int x u], []⟩) (fun _ R s => s.heap.get? l = some { cls := .type "tuple", dict := dd, data := .seq items n, slots := sl } ∧
      R (.ok (.ret (.ref s.heap.objs.size))) { s with heap := s.heap.push { cls := .type "tuple", data := .seq #[] }, toks := s.toks }) := .of_wp fun prog w A R s h => by
  obtain ⟨hp, g, d, tk, os⟩ := s
  obtain ⟨hl, h⟩ := h
  have g1 := AutoSeq1.idx_int
  wp_walk using wpAny_loadPart' hl
  repeat (first
    | (refine wpAny_ite_false (decide_eq_false (by rw [c0]; decide)) ?_; wp_walk using wpAny_loadPart' hl)
    | (refine wpAny_ite_false (decide_eq_false (by rw [c1]; decide)) ?_; wp_walk using wpAny_loadPart' hl)
    | (refine wpAny_ite_true (decide_eq_true c2) ?_; wp_walk using wpAny_loadPart' hl))
  exact ⟨_, rfl, h⟩
/-- a tuple times k, a new one: up to 4000000 items -/
theorem rep_new {X : Cx} {pins : List (Addr × Obj)} {s : Shared} {σ : L2.St} {H : Hp} {l : Addr} {k : Int} {t : Tok} {xs : List V} {Q : VK} (I : Inv X pins σ H s) (hT : SqT X.K H l xs) (hne : xs ≠ []) (h1 : 2 ≤ k) (h2 : k ≤ 4000) (hz : xs.length ≤ 1000)
    (q : ∀ p, H p = none → Q (.ref p) (upd H p (.tup (List.replicate k.toNat xs).flatten))) : wpAny (model X.prog X.w) X.A (binaryOp .Mult (.ref l) (.int k t)) (EP X pins σ Q) X.xe s := by
  obtain ⟨its, r, ⟨⟨_, dd, _, sl⟩, ho, rfl, n, rfl⟩, hs⟩ := I.tuple hT
  have le : its.length = xs.length := r.length.symm
  have size : its.toArray.size = xs.length := le
  have full : its.toArray.isEmpty = false := by
    cases its with
    | nil => exact absurd (List.eq_nil_of_length_eq_zero le.symm) hne
    | cons _ _ => rfl
  have most : k.toNat * xs.length ≤ 4000 * 1000 := Nat.mul_le_mul (by omega) hz
  have mosti : ((its.toArray.size : Nat) : Int) * k ≤ 4000000 := by
    have e : ((its.toArray.size : Nat) : Int) * k = ((k.toNat * xs.length : Nat) : Int) := by
      rw [size, Int.natCast_mul, Int.toNat_of_nonneg (by omega), Int.mul_comm]
    rw [e]; omega
  have c0 : (decide (k < -(2 ^ 63)) || decide (k ≥ 2 ^ 63)) = false := by simp; omega
  have c1 : (its.toArray.isEmpty || k == 1) = false := by rw [full]; simp; omega
  have c2 : (decide (k ≤ 0) || its.toArray.isEmpty) = false := by rw [full]; simp; omega
  have c4 : Builtin.Tuple.tupleTooMany (((its.toArray.size : Nat) : Int) * k) = false := by
    unfold Builtin.Tuple.tupleTooMany
    rw [sizeLine_eq]
    exact decide_eq_false (by omega)
  have fit : ∀ {α : Type} (ys : List α), ys.length = xs.length → (List.replicate k.toNat ys).flatten.length ≤ sizeLine := fun ys e => by
    rw [PyProof.Rows.lm_len_rep_flat, e, sizeLine_eq]; omega
  have mul := tuple_mulW l its.toArray n dd sl k t c0 c1 c2 (by omega) c4 (by rw [size_rep, List.size_toArray]; exact fit its le)
  rw [size_rep] at mul
  refine wpAny_binaryOp_repeat_ref (T := "tuple") (U := "int") (by decide) ⟨_, ho, rfl⟩ (fun s' => typeIs_int s' k t) noFill_tuple_mul F.fills_int_mul F.slot_int_rmul repeat_tuple F.slot_int_index.lookup
    (call_meets F.slot_int_rmul (typeIs_int s k t) F.entry_int_rmul (F.args_int_rmul_2 _ _) (int_rmul_tuple k t l its.toArray n dd sl)
      ⟨ho, rfl, ⟨_, ho, rfl⟩, call_meets F.slot_tuple_mul ⟨_, ho, rfl⟩ F.entry_tuple_mul (F.args_tuple_mul_2 _ _) mul ⟨ho, ?_⟩⟩)
  exact ⟨.ref s.heap.objs.size, _, I.laid (t' := s.toks) (o := .tup (List.replicate k.toNat xs).flatten) (fun b ob q => Heap.get?_push_of_some _ q) (Nat.le_refl _) ⟨fit xs rfl, _, r.rep k.toNat, IsTup.new _ _⟩, rfl, q _ (I.hok.fresh (Nat.le_refl _))⟩
/-- a tuple times any k to 100000: itself, or a new one -/
def rMulT (K : PySem.W.Frag) : R2 := fun x y H Q => ∃ l k xs, x = .ref l ∧ y = .int k ∧ SqT K H l xs ∧ k ≤ 4000 ∧ -1000 ≤ k ∧ xs.length ≤ 1000 ∧ (xs = [] → Q (.ref l) H) ∧ (k = 1 → Q (.ref l) H) ∧ (xs ≠ [] → k ≠ 1 → ∀ p, H p = none → Q (.ref p) (upd H p (.tup (List.replicate k.toNat xs).flatten)))
theorem op_mulT {X : Cx} : OpR X (binaryOp .Mult) (rMulT X.K) := by
  intro pins s σ H x y v u Q I rx ry h
  obtain ⟨l, k, xs, rfl, rfl, hT, h2, h1, hz, q0, q1, q2⟩ := h
  by_cases big : xs ≠ [] ∧ 2 ≤ k
  · cases rx
    obtain ⟨t, rfl⟩ := ry
    exact rep_new I hT big.1 big.2 h2 hz (q2 big.1 (by omega))
  · cases rx
    obtain ⟨t, rfl⟩ := ry
    obtain ⟨its, r, ⟨⟨cls, dd, data, sl⟩, ho, hc, n, hd⟩, hs⟩ := I.tuple hT
    simp only at hc hd
    subst hc hd
    have hle : its.length = xs.length := r.length.symm
    have c0 : (decide (k < -(2 ^ 63)) || decide (k ≥ 2 ^ 63)) = false := by
      rw [decide_eq_false (by omega), decide_eq_false (by omega)]; rfl
    by_cases one : xs = [] ∨ k = 1
    · have c1 : (its.toArray.isEmpty || k == 1) = true := by
        rcases one with e | e
        · have : its = [] := List.eq_nil_of_length_eq_zero (by rw [hle, e]; rfl)
          rw [this]; rfl
        · rw [e]; simp
      refine wpAny_binaryOp_repeat_ref (T := "tuple") (U := "int") (by decide) ⟨_, ho, rfl⟩ (fun s' => typeIs_int s' k t) noFill_tuple_mul F.fills_int_mul F.slot_int_rmul repeat_tuple F.slot_int_index.lookup
        (call_meets F.slot_int_rmul (typeIs_int s k t) F.entry_int_rmul (F.args_int_rmul_2 _ _) (int_rmul_tuple k t l its.toArray n dd sl)
          ⟨ho, rfl, ⟨_, ho, rfl⟩, call_meets F.slot_tuple_mul ⟨_, ho, rfl⟩ F.entry_tuple_mul (F.args_tuple_mul_2 _ _) (mulT_same l its.toArray n dd sl k t c0 c1) ⟨ho, ?_⟩⟩)
      refine ⟨.ref l, H, I, rfl, ?_⟩
      rcases one with e | e
      · exact q0 e
      · exact q1 e
    · have n1 : xs ≠ [] := fun e => one (.inl e)
      have n2 : k ≠ 1 := fun e => one (.inr e)
      have k0 : k ≤ 0 := by
        by_cases z : 2 ≤ k
        · exact absurd ⟨n1, z⟩ big
        · omega
      have hi : its.toArray.isEmpty = false := by
        cases its with
        | nil => exact absurd (List.eq_nil_of_length_eq_zero hle.symm) n1
        | cons a b => rfl
      have c1 : (its.toArray.isEmpty || k == 1) = false := by
        rw [hi, Bool.false_or]
        exact beq_eq_false_iff_ne.mpr n2
      have c2 : (decide (k ≤ 0) || its.toArray.isEmpty) = true := by rw [decide_eq_true k0]; rfl
      have e0 : k.toNat = 0 := by omega
      have q := q2 n1 n2
      rw [e0] at q
      refine wpAny_binaryOp_repeat_ref (T := "tuple") (U := "int") (by decide) ⟨_, ho, rfl⟩ (fun s' => typeIs_int s' k t) noFill_tuple_mul F.fills_int_mul F.slot_int_rmul repeat_tuple F.slot_int_index.lookup
        (call_meets F.slot_int_rmul (typeIs_int s k t) F.entry_int_rmul (F.args_int_rmul_2 _ _) (int_rmul_tuple k t l its.toArray n dd sl)
          ⟨ho, rfl, ⟨_, ho, rfl⟩, call_meets F.slot_tuple_mul ⟨_, ho, rfl⟩ F.entry_tuple_mul (F.args_tuple_mul_2 _ _) (mulT_none l its.toArray n dd sl k t c0 c1 c2) ⟨ho, ?_⟩⟩)
      refine ⟨.ref s.heap.objs.size, _, I.laid (t' := s.toks) (o := .tup []) (fun b ob q => Heap.get?_push_of_some _ q) (Nat.le_refl _) ?_, rfl, q _ (I.hok.fresh (Nat.le_refl _))⟩
      exact ⟨by decide, [], .nil, IsTup.new _ _⟩
end L2
namespace DL
open PySem L2
def rMulA (K : PySem.W.Frag) : R2 := fun x y H Q => rMulU x y H Q ∨ rMulT K x y H Q
theorem op_mulA {X : Cx} {K : PySem.W.Frag} (e : X.K = K := by rfl) : OpR X (binaryOp .Mult) (rMulA K) := by subst e; exact OpR.or op_mulU op_mulT
section
variable {K : PySem.W.Frag} {te ta tb : TE} {env e e1 e2 : Env} {r r1 r2 r' : Res} {i j : Int} {d d1 d2 : D} {l m : List D} {o o' : OB} {n : Nat}
/-- enumerate(xs) -/
def enumD (l : List D) : List D := (List.range l.length).map fun i => .tup [.int (i : Nat), l.getD i .non]
theorem enumD_len : (enumD l).length = l.length := by simp [enumD]
theorem enumD_get {i : Nat} (h : (enumD l)[i]? = some d) : ∃ x, l[i]? = some x ∧ d = .tup [.int (i : Nat), x] := by
  unfold enumD at h
  rw [List.getElem?_map] at h
  obtain ⟨k, hk, rfl⟩ := Option.map_eq_some_iff.mp h
  obtain ⟨h1, h2⟩ := List.getElem?_eq_some_iff.mp hk
  rw [List.length_range] at h1
  rw [List.getElem_range] at h2
  subst h2
  exact ⟨l[i], by simp [h1], by rw [List.getD_eq_getElem?_getD, List.getElem?_eq_getElem h1]; rfl⟩
def zipD (l m : List D) : List D := (l.zip m).map fun p => .tup [p.1, p.2]
end
/-! ### defs whose first argument is an object that they change -/
def PO (f : OB → List D → Ret → OB → Prop) : List AV → Ret → List AV → Prop := fun as r as' => ∃ o ds o', as = .own o :: ds.map AV.val ∧ as' = .own o' :: ds.map AV.val ∧ f o ds r o'
section
variable {K : PySem.W.Frag} {ta : TA} {env e1 : Env} {rs : List Res} {ds : List D} {d : D} {o o' ob : OB} {i : Nat} {f : OB → List D → Ret → OB → Prop} {E : XK}
end
section
variable {P : Program} {w : World} {K : PySem.W.Frag} {mg : Str → Option Value} {base : Heap} {x qn : Str} {st : Stmt} {fa : Addr} {fd : FuncData} {N ps : List Str} {k : Nat}
theorem Fn.ofO {f : OB → List D → Ret → OB → Prop} (F : Fun K x qn st fa fd) (S : FnScope N ps (defScope st)) (hn : ∀ o ds r o', f o ds r o' → ds.length + 1 = ps.length)
    (body : ∀ (cdv : Value) (A : Around) (outer : List PySem.Env) (s : Shared) (H : Hp) (E : XK), Room k (A.deeper (PyProof.Rows.envOfC qn (defScope st) s.heap.objs.size fa cdv)) →
      ∃ t, PSs (cxOf CX0 P w K mg base N qn (defScope st) fa cdv A outer s H E).nox (defBody st) t ∧ ∀ o ds r o', f o ds r o' → Exec K [0] (fun cls d _ H => E cls d H) t (EV.own o :: ds.map EV.val ++ List.replicate (N.length - ps.length) .any)
      (fun e => r = .val .non ∧ e[0]? = some (.own o')) (fun _ => False) (fun _ => False) (fun q e => q = r ∧ e[0]? = some (.own o'))) : FnOk P w K mg base CX0 (k + 1) fa fd ps (SpG K (PO f)) :=
  Fn.ofG F S (fun as r as' ⟨o, ds, o', h1, _, h4⟩ => by rw [h1, List.length_cons, List.length_map]; exact hn o ds r o' h4) fun cdv A outer s H E hr => by
    obtain ⟨t, h1, h2⟩ := body cdv A outer s H E hr
    refine ⟨t, h1, fun as r as' ⟨o, ds, o', e1, e2, hf⟩ => ⟨[0], fun i ob h => ?_, ?_⟩⟩
    · subst e1
      cases i with
      | zero => exact List.mem_cons_self
      | succ i => rw [List.getElem?_cons_succ] at h; exact absurd h vals_noOwn
    subst e1 e2
    have held : ∀ e : Env, e[0]? = some (.own o') → Held (.own o :: ds.map AV.val) (.own o' :: ds.map AV.val) e := fun e he i ob h => by
      cases i with
      | zero => exact ⟨o', rfl, he⟩
      | succ i => rw [List.getElem?_cons_succ] at h; exact absurd h vals_noOwn
    have em : (AV.own o :: ds.map AV.val).map AV.ev = EV.own o :: ds.map EV.val := by rw [List.map_cons, List.map_map]; rfl
    rw [em]
    exact x_mono (h2 o ds r o' hf) (fun e h => ⟨h.1, held e h.2⟩) (fun _ h => h) (fun _ h => h) fun q e h => ⟨h.1, held e h.2⟩
end
end DL

namespace DL
open PySem L2
/-! ### a comprehension whose part changes the object in the first slot -/
section
variable {K : PySem.W.Frag} {te : TE} {wi : TI} {env R : Env} {k : Nat} {ds : List D}
end
end DL

/-! ### xs.insert, a list times n, isinstance of several classes -/
namespace L2
open PySem
def rIns : V → List V → Hp → VK → Prop := fun x vs H Q => ∃ (l : Addr) (xs : List V) (i : Int) (y : V), x = .ref l ∧ vs = [.int i, y] ∧ H l = some (.lst xs) ∧ xs.length < sizeLine ∧ 0 ≤ i ∧ i < 2 ^ 63 ∧
    Q .non (upd H l (.lst (xs.take i.toNat ++ [y] ++ xs.drop i.toNat)))
theorem mt_ins {X : Cx} : MtR X "list.insert" rIns := mt_insert
end L2
namespace DL
open PySem L2
section
variable {K : PySem.W.Frag} {pr : List Nat} {W : WX} {te ta tb : TE} {ts : TA} {env e1 e2 e : Env} {r : Res} {i : Nat} {l m : List D} {N B C : Env → Prop} {R : Ret → Env → Prop} {n j : Int} {d : D} {c : Bool}
end
end DL
namespace DL
open PySem L2
theorem ixN_nat {n i : Nat} (h : i < n) : ixN n (i : Int) = some i := by
  unfold ixN
  rw [if_pos (by omega), if_pos (by omega)]; rfl
end DL
namespace DL
open PySem L2
end DL

/-! ### len(set(xs)), xs.pop(i), xs.remove(x), xs[::-1], objects lent to a call -/
namespace L2
open PySem PySem.Spec PyProof.Rows
/-- how many unlike ones -/
def unlike (ns : List Int) : Nat := (PyProof.Rows.firstMet (fun i => ns.getD i 0) ns.length).length
end L2
namespace DL
open PySem L2
section
variable {K : PySem.W.Frag} {pr : List Nat} {W : WX} {te ta tb : TE} {ts : TA} {env e1 e2 e : Env} {r : Res} {i : Nat} {l m : List D} {N B C : Env → Prop} {R : Ret → Env → Prop} {n j : Int} {d : D} {c : Bool} {ns : List Int} {o : OB} {ds : List D} {rs : List Res}
theorem RepL.eraseIdx {F : Hp} : ∀ {vs : List V} {ds : List D} (n : Nat), RepL K F vs ds → RepL K F (vs.eraseIdx n) (ds.eraseIdx n)
  | _, _, _, .nil => .nil
  | _, _, 0, .cons _ r => r
  | _, _, n + 1, .cons q r => .cons q (RepL.eraseIdx n r)
/-- what each argument reads -/
inductive Rds (env : Env) : List Res → List D → Prop
  | nil : Rds env [] []
  | cons {r : Res} {d : D} {rs : List Res} {ds : List D} : Rd env r d → Rds env rs ds → Rds env (r :: rs) (d :: ds)
theorem Rds.rep {b : Bs} {F : Hp} {oa : Nat → Addr} {σ : L2.St} {H : Hp} (S : Sig K b F oa σ H env) : ∀ {vs : List V} {rs : List Res} {ds : List D}, RRs K F oa vs rs → Rds env rs ds → vs.length = ds.length ∧ ∀ (i : Nat) (d : D), ds[i]? = some d → ∃ v, vs[i]? = some v ∧ Rep K H v d
  | [], _, _, h, .nil => ⟨rfl, fun i d hi => by simp at hi⟩
  | _ :: _, _, _, h, .nil => h.elim
  | [], _, _, h, .cons _ _ => h.elim
  | v :: vs, _, _, h, .cons q t => by
    obtain ⟨h1, h2⟩ := Rds.rep S h.2 t
    refine ⟨by rw [List.length_cons, List.length_cons, h1], fun i d hi => ?_⟩
    cases i with
    | zero => simp at hi; subst hi; exact ⟨v, rfl, q.rep S h.1⟩
    | succ i => simp at hi; exact h2 i d hi
end
end DL

/-! ### xs[k] += n; in, of data of any depth; more that raises -/
namespace L2
open PySem PySem.Spec PyProof.Rows
end L2
namespace DL
open PySem L2
section
variable {X : Cx} {k j : Nat} {x : Str} {sp : Sp} {p pos : Pos}
end
theorem room65 {k : Nat} {A : Around} (r : Room k A) : A.units + 65 < cLine := by have := r.un; omega
def inB (d : D) (l : List D) : Bool := l.any fun z => eqB z d
section
variable {K : PySem.W.Frag} {pr : List Nat} {W : WX} {te ta tb to : TE} {ts : TA} {env e1 e2 e : Env} {r r1 r2 : Res} {i : Nat} {l m : List D} {N B C : Env → Prop} {R : Ret → Env → Prop} {n j k0 : Int} {d : D} {c : Bool} {X : Addr} {t u : TT}
/-! raising in parts -/
end
end DL

/-! ### instances of own classes: made, read, written -/
namespace DL
open PySem L2
section
variable {K : PySem.W.Frag} {F : Hp}
end
section
variable {K : PySem.W.Frag} {pr : List Nat} {W : WX} {te ta tv : TE} {ts : TA} {env e1 e2 e : Env} {r : Res} {rs : List Res} {i : Nat} {N B C : Env → Prop} {R : Ret → Env → Prop} {d : D} {ds : List D} {Cc : Addr} {fs : List (Str × D)} {f : Str} {o : OB}
end
/-- a class whose instances are made by a call of its name -/
structure Mf (P : Program) (w : World) (K : PySem.W.Frag) (mg : Str → Option Value) (base : Heap) (k : Nat) (x : Str) (C : Addr) (sp : Sp) : Prop where
  ex : ∃ (f : Addr) (fd : FuncData) (ps : List Str), Mk K C f ∧ FnOk P w K mg base CX0 k f fd ps sp ∧ mg x = some (.ref C) ∧ Binds K fd ps []
section
variable {X : Cx} {k j : Nat} {x : Str} {C : Addr} {sp : Sp} {p pos : Pos} {e : Expr} {es : List Expr} {t : TA}
end
theorem Mf.of {P : Program} {w : World} {K : PySem.W.Frag} {mg : Str → Option Value} {base : Heap} {k : Nat} {x : Str} {C fa : Addr} {fd : FuncData} {ps : List Str} {sp : Sp} (M : Mk K C fa) (h : FnOk P w K mg base CX0 k fa fd ps sp) (hm : mg x = some (.ref C)) (b : Binds K fd ps []) : Mf P w K mg base k x C sp := ⟨fa, fd, ps, M, h, hm, b⟩
end DL
namespace DL
open PySem L2
/-! ### try: .. except C: .. -/
def tTryO (K : PySem.W.Frag) (c : Value) (ts : TS) (tb : WX → TS) : TS := fun D σ H => tb (wOnly K c (fun _ _ _ => ts) (fun _ _ _ _ => False) D) D σ H
section
variable {K : PySem.W.Frag} {pr : List Nat} {W : WX} {env : Env} {N B C M : Env → Prop} {R : Ret → Env → Prop} {c : Value} {tb : WX → TS} {ts : TS}
end
end DL
namespace L2
open PySem PySem.Spec PyProof.Rows
theorem noI_tuple_add : typeLookup (.type "tuple") (dunderI "add") = pure none := by rw [typeLookup_type, builtinLookup_eq_fast]; kernel_rfl
section
variable {prog : Program} {w : World} {A : Around} {E : Value → Shared → Prop} {s : Shared}
theorem icat_tup {t b : Addr} {vs ws : List Value} {Q : Value → Shared → Prop} (ht : IsTup s.heap t vs.toArray) (hb : IsTup s.heap b ws.toArray) (hv : vs ≠ [])
    (h1 : ws = [] → Q (.ref t) s) (h2 : ws ≠ [] → Q (.ref s.heap.objs.size) { s with heap := s.heap.push { cls := .type "tuple", data := .seq (vs ++ ws).toArray } })
    (hsz : vs.length + ws.length ≤ sizeLine) : wpAny (model prog w) A (inplaceOp .Add (.ref t) (.ref b)) Q E s := by
  obtain ⟨⟨cls, dd, data, sl⟩, ho, hc, n, hd⟩ := id ht
  obtain ⟨⟨cls2, dd2, data2, sl2⟩, ho2, hc2, n2, hd2⟩ := id hb
  simp only at hc hd hc2 hd2
  subst hc hd hc2 hd2
  have e : vs.toArray ++ ws.toArray = (vs ++ ws).toArray := by simp
  by_cases hw : ws = []
  · exact wpAny_inplaceOp_concat ⟨_, ho, rfl⟩ ⟨_, ho2, rfl⟩ noI_tuple_add noFill_tuple_add seq_tuple_add (call_meets PySem.F.slot_tuple_add ⟨_, ho, rfl⟩ PySem.F.entry_tuple_add (PySem.F.args_tuple_add_2 _ _)
      (tuple_addW1 t b vs.toArray ws.toArray n n2 dd dd2 sl sl2 (by simpa using hv) (by simp [hw])) ⟨ho, ho2, h1 hw⟩)
  · refine wpAny_inplaceOp_concat ⟨_, ho, rfl⟩ ⟨_, ho2, rfl⟩ noI_tuple_add noFill_tuple_add seq_tuple_add (call_meets PySem.F.slot_tuple_add ⟨_, ho, rfl⟩ PySem.F.entry_tuple_add (PySem.F.args_tuple_add_2 _ _)
      (tuple_addW2 t b vs.toArray ws.toArray n n2 dd dd2 sl sl2 (by simpa using hv) (by simpa using hw) (by rw [List.size_toArray, List.size_toArray]; exact hsz)) ⟨ho, ho2, ?_⟩)
    rw [e]
    exact h2 hw
end
theorem iop_catT {X : Cx} : OpR X (inplaceOp .Add) (rCatT X.K) := by
  intro pins s σ H x y v u Q I rx ry h
  obtain ⟨a, b, xs, ys, rfl, rfl, ha, hb, hx, hz, q1, q2⟩ := h
  cases rx
  cases ry
  obtain ⟨its, r1, p1, _⟩ := I.tuple ha
  obtain ⟨its2, r2, p2, _⟩ := I.tuple hb
  refine icat_tup p1 p2 (fun z => hx (r1.nil_iff.mp z)) (fun z => ⟨.ref a, H, I, rfl, q1 (r2.nil_iff.mp z)⟩) (fun z => ?_) (by rw [← r1.length, ← r2.length]; exact hz)
  refine ⟨.ref s.heap.objs.size, _, I.laid (t' := s.toks) (o := .tup (xs ++ ys)) (fun b ob q => Heap.get?_push_of_some _ q) (Nat.le_refl _) ?_, rfl, q2 (fun w => z (r2.nil_iff.mpr w)) _ (I.hok.fresh (Nat.le_refl _))⟩
  exact ⟨by rw [List.length_append]; exact hz, _, r1.append r2, IsTup.new _ _⟩
end L2
namespace DL
open PySem L2
def ipAddT (K : PySem.W.Frag) : TIp := fun x y H Q => ipAddU x y H Q ∨ rCatT K x y H Q
theorem ip_addT {X : Cx} {K : PySem.W.Frag} (e : X.K = K := by rfl) : PIp X .Add (ipAddT K) := by
  subst e
  intro pins s σ H x y v u Q I rx ry h
  rcases h with h | h
  · exact ip_addU pins s σ H x y v u Q I rx ry h
  · exact iop_catT pins s σ H x y v u Q I rx ry h
section
variable {K : PySem.W.Frag} {pr : List Nat} {W : WX} {te : TE} {env e1 : Env} {i : Nat} {l m : List D} {N B C : Env → Prop} {R : Ret → Env → Prop}
end
end DL

/-! ### repr of tuples, where nothing is under way: in the law's own def, called from the top -/
namespace L2
open PySem PySem.Spec PyProof.Rows
/-- what a def promises where it is called from the top -/
structure RunC (P : Program) (w : World) (K : PySem.W.Frag) (mg : Str → Option Value) (base : Heap) (CX : CXT) (f : Addr) (fd : FuncData) (ps : List Str) (sp : Sp) : Prop where
  run : ∀ (outer : List Env) (s : Shared) (H : Hp) (args : Args) (us : List Value) (vs : List V) (Q : VK) (E : XK), Env0 P w K mg base callerA outer s H → BindsTo s fd args (ps.zip us) → Vals vs us → sp vs H Q E →
    codeAny (model P w) callerA (.call (.ref f) args) (CR CX outer P w H s Q E) s
theorem RunC.imp {P : Program} {w : World} {K : PySem.W.Frag} {mg : Str → Option Value} {base : Heap} {CX : CXT} {f : Addr} {fd : FuncData} {ps : List Str} {sp sp' : Sp} (R : RunC P w K mg base CX f fd ps sp) (h : ∀ vs H Q E, sp' vs H Q E → sp vs H Q E) : RunC P w K mg base CX f fd ps sp' :=
  ⟨fun outer s H args us vs Q E e b r q => R.run outer s H args us vs Q E e b r (h _ _ _ _ q)⟩
end L2

namespace DL
open PySem L2
/-! ### what repr shows of data -/
section
variable {K : PySem.W.Frag} {e : Env} {r : Res} {l : List D}
end
section
variable {P : Program} {w : World} {K : PySem.W.Frag} {mg : Str → Option Value} {base : Heap} {x qn : Str} {st : Stmt} {fa : Addr} {fd : FuncData} {N ps : List Str} {k : Nat}
end
end DL

/-! ### methods of own classes that only read; isinstance of an instance -/
namespace DL
open PySem L2
/-- a method -/
structure Mt (P : Program) (w : World) (K : PySem.W.Frag) (mg : Str → Option Value) (base : Heap) (k : Nat) (C : Addr) (m : Str) (sp : Sp) : Prop where
  ex : ∃ (f : Addr) (fd : FuncData) (ps : List Str), Meth K C m f ∧ FnOk P w K mg base CX0 k f fd ps sp ∧ Binds K fd ps []
theorem Mt.of {P : Program} {w : World} {K : PySem.W.Frag} {mg : Str → Option Value} {base : Heap} {k : Nat} {m : Str} {C fa : Addr} {fd : FuncData} {ps : List Str} {sp : Sp} (M : Meth K C m fa) (h : FnOk P w K mg base CX0 k fa fd ps sp) (b : Binds K fd ps []) : Mt P w K mg base k C m sp := ⟨fa, fd, ps, M, h, b⟩
section
variable {X : Cx} {k j : Nat} {m : Str} {C : Addr} {sp : Sp} {apos pos : Pos} {o e : Expr} {es : List Expr} {t : TA} {ta : TE}
end
theorem look_none : ∀ {ks : List Str} {vs : List V} {ds : List D} {f : Str}, ks.length = ds.length → vs.length = ds.length → (ks.zip ds).lookup f = none → (ks.zip vs).lookup f = none
  | [], _, _, _, _, _, _ => rfl
  | k :: ks, [], _, _, _, _, _ => rfl
  | k :: ks, v :: vs, [], f, h, _, _ => by simp at h
  | k :: ks, v :: vs, d :: ds, f, h, h2, l => by
    rw [List.zip_cons_cons, List.lookup_cons] at l ⊢
    cases q : (f == k) with
    | true => rw [q] at l; cases l
    | false =>
      rw [q] at l
      exact look_none (by simpa using h) (by simpa using h2) l
section
variable {K : PySem.W.Frag} {env e e1 e2 : Env} {f : List D → D → Prop} {rs : List Res} {ds : List D} {d : D} {ta : TE} {ts : TA} {E : XK} {Cc : Addr} {m : Str} {fs : List (Str × D)}
/-- what isinstance asks of an own class -/
structure InC (K : PySem.W.Frag) (C : Addr) : Prop where
  cl : Cls K C
  ha : PySem.W.findIn K (.ref C) "__class__" = some (some (.builtin "object.__class__"))
  hn : PySem.W.specialIn K (.builtin "object.__class__") "__get__" = some (some (.builtin "getset_descriptor.__get__"))
  ht : PySem.W.takesIn K (.builtin "object.__class__") = some true
  hm : PySem.W.mroIn K C (.type "object") = some true
end
end DL
/-! ### repr of tuples, ints and texts, at the top -/
namespace DL
open PySem L2
section
variable {K : PySem.W.Frag} {e : Env} {r : Res} {l : List D} {i : Int} {x : Str}
end
end DL

/-! ### instances made by an __init__ that may raise -/
namespace L2
open PySem PySem.Spec PyProof.Rows
section
variable {X : Cx} {CX : CXT} {k : Nat} {f C : Addr} {fd : FuncData} {ps : List Str} {sp : Sp} {E : St → XK} {x : Str} {p pos : Pos} {e : Expr} {es : List Expr} {t : TA}
theorem run_makeS {pins : List (Addr × Obj)} {σ : St} {H : Hp} {s : Shared} {Q : VK} {us : List Value} {vs : List V} (M : Mk X.K C f) (F : FnOk X.prog X.w X.K X.mg X.base CX k f fd ps sp) (hr : Room (k + 1) X.A) (hb : Binds X.K fd ps [])
    (hx : PassesAt CX X σ (E σ)) (I : Inv X pins σ H s) (r : Vals vs us)
    (h : ∀ x dx, H x = none → H dx = none → dx ≠ x → sp (.ref x :: vs) (upd (upd H dx (.own x)) x (.ins C dx [])) (fun v H2 => v = .non ∧ Q (.ref x) H2) (E σ)) :
    wpAny (model X.prog X.w) X.A (call (.ref C) us) (EP X pins σ Q) X.xe s := by
  have hq := h (s.heap.objs.size + 1) s.heap.objs.size (I.hok.fresh (Nat.le_succ _)) (I.hok.fresh (Nat.le_refl _)) (Nat.ne_of_lt (Nat.lt_succ_self _))
  have I2 := Inv.made (C := C) I
  have r2 : Vals (V.ref (s.heap.objs.size + 1) :: vs) (Value.ref (s.heap.objs.size + 1) :: us) := .cons rfl r
  have hl : (Value.ref (s.heap.objs.size + 1) :: us).length = ps.length := by
    have e := r2.length
    rw [F.len _ _ _ _ hq] at e
    exact e.symm
  have b := hb _ (Value.ref (s.heap.objs.size + 1) :: us) I2.kIn (by rw [List.append_nil]; exact hl)
  rw [List.append_nil] at b
  refine wpAny_call (make_map (f := f) I.kIn M.makes M.init (beq_iff_eq.mp M.fn) (codeAny_mono (F.run _ X.stack _ _ ⟨Value.ref (s.heap.objs.size + 1) :: us, []⟩ (Value.ref (s.heap.objs.size + 1) :: us) _ _ (E σ) (hr.make C us [])
    (I2.env0.make C us []) b r2 hq) fun r s' hq' => ?_))
  cases r with
  | error e => exact hx pins _ _ e s' I2 hq'
  | ok fl =>
    cases fl with
    | ret u =>
      obtain ⟨v, H', I3, rv, ev, q3⟩ := I2.after hq'
      subst ev
      exact ⟨rv, ⟨V.ref (s.heap.objs.size + 1), H', I3, rfl, q3⟩⟩
    | next => exact False.elim hq'
    | brk => exact False.elim hq'
    | cont => exact False.elim hq'
def tMakeS (C : Addr) (sp : Sp) (E : St → XK) (t : TA) : TE := fun σ H Q => t σ H fun vs H1 => ∀ x dx, H1 x = none → H1 dx = none → dx ≠ x →
  sp (.ref x :: vs) (upd (upd H1 dx (.own x)) x (.ins C dx [])) (fun v H2 => v = .non ∧ Q (.ref x) H2) (E σ)
theorem pe_makeS (M : Mk X.K C f) (F : FnOk X.prog X.w X.K X.mg X.base CX k f fd ps sp) (hr : Room (k + 1) X.A) (hg : Gl X x) (hm : X.mg x = some (.ref C)) (hb : Binds X.K fd ps []) (hx : ∀ σ, PassesAt CX X σ (E σ))
    (ha : PA X (e :: es) t) (hdb : (x == ("__debug__" : Str)) = false := by decide) (he : starEach (e :: es) X.env = (false, eval e X.env) :: starEach es X.env := by rfl) (hpl : (backTo pos (starEach es X.env)).any (·.1) = false := by rfl) :
    PE X (.Call (.Name x p) (e :: es) [] pos) (tMakeS C sp E t) := by
  refine ⟨fun pins s σ H Q I h => ?_⟩
  refine wpAny_Call_Name_kw (ld_glob I hg hm ?_ hdb)
  refine PySem.W.callWith_K (h₀ := X.base) I.ok.mod.kin M.kp (thn (ha.run pos pins s σ H _ I h) fun us s1 ⟨vs, H1, I1, r, q⟩ => ⟨I1.kIn, ?_⟩) he hpl
  exact run_makeS M F hr hb (hx σ) I1 r q
end
end L2
namespace DL
open PySem L2
structure Mx (P : Program) (w : World) (K : PySem.W.Frag) (mg : Str → Option Value) (base : Heap) (k : Nat) (x : Str) (C : Addr) (sp : Sp) : Prop where
  ex : ∃ (f : Addr) (fd : FuncData) (ps : List Str), Mk K C f ∧ FnOk P w K mg base (L2.CX P w) k f fd ps sp ∧ mg x = some (.ref C) ∧ Binds K fd ps []
theorem Mx.of {P : Program} {w : World} {K : PySem.W.Frag} {mg : Str → Option Value} {base : Heap} {k : Nat} {x : Str} {C fa : Addr} {fd : FuncData} {ps : List Str} {sp : Sp} (M : Mk K C fa) (h : FnOk P w K mg base (L2.CX P w) k fa fd ps sp) (hm : mg x = some (.ref C)) (b : Binds K fd ps []) : Mx P w K mg base k x C sp := ⟨fa, fd, ps, M, h, hm, b⟩
section
variable {X : Cx} {W : WX} {k j : Nat} {x : Str} {C : Addr} {sp : Sp} {p pos : Pos} {e : Expr} {es : List Expr} {t : TA}
theorem pe_mx (c : Mx X.prog X.w X.K X.mg X.base k x C sp) (tk : Takes X W) (hr : Room j X.A) (hk : k + 1 ≤ j) (hg : Gl X x) (ha : PA X (e :: es) t)
    (hdb : (x == ("__debug__" : Str)) = false := by decide) (he : starEach (e :: es) X.env = (false, eval e X.env) :: starEach es X.env := by rfl) (hpl : (backTo pos (starEach es X.env)).any (·.1) = false := by rfl) :
    PE X (.Call (.Name x p) (e :: es) [] pos) (tMakeS C sp (WE W) t) := by
  obtain ⟨f, fd, ps, M, F, hm, b⟩ := c.ex
  exact pe_makeS M F (hr.mono hk) hg hm b (fun σ => passAt tk σ) ha hdb he hpl
/-- .. and does not raise, where it is made -/
theorem pe_mx0 (c : Mx X.prog X.w X.K X.mg X.base k x C sp) (hr : Room j X.A) (hk : k + 1 ≤ j) (hg : Gl X x) (ha : PA X (e :: es) t)
    (hdb : (x == ("__debug__" : Str)) = false := by decide) (he : starEach (e :: es) X.env = (false, eval e X.env) :: starEach es X.env := by rfl) (hpl : (backTo pos (starEach es X.env)).any (·.1) = false := by rfl) :
    PE X (.Call (.Name x p) (e :: es) [] pos) (tMake C sp [] E0 t) := by
  obtain ⟨f, fd, ps, M, F, hm, b⟩ := c.ex
  exact pe_make M F (hr.mono hk) hg hm b .nil passL ha hdb he hpl
end
section
variable {K : PySem.W.Frag} {pr : List Nat} {W : WX} {ts : TA} {env e1 : Env} {rs : List Res} {ds : List D} {Cc Ce : Addr} {fs : List (Str × D)} {b : Bs} {F1 H1 : Hp} {oa : Nat → Addr} {σ : L2.St} {vs : List V} {x dx : Addr}
end
section
variable {P : Program} {w : World} {K : PySem.W.Frag} {mg : Str → Option Value} {base : Heap} {x qn : Str} {st : Stmt} {fa : Addr} {fd : FuncData} {N ps : List Str} {k : Nat}
end
end DL

namespace DL
open PySem L2
/-! ### rows of bits, in plain Lean -/
def gathA (a : Int) (l : List Int) : Int := l.foldl (fun n b => 2 * n + b) a
def gath (l : List Int) : Int := gathA 0 l
def Bits (l : List Int) : Prop := ∀ b, b ∈ l → b = 0 ∨ b = 1
theorem Bits.nil : Bits [] := fun _ h => by cases h
theorem Bits.append {l m : List Int} (h1 : Bits l) (h2 : Bits m) : Bits (l ++ m) := fun b h => by
  rcases List.mem_append.mp h with q | q
  · exact h1 b q
  · exact h2 b q
/-! bytes in bits -/
def Bytes (l : List Int) : Prop := ∀ b, b ∈ l → 0 ≤ b ∧ b ≤ 255
def val (l : List Int) : Int := l.foldl (fun n b => n * 256 + b) 0
end DL
namespace DL
open PySem L2
theorem sIx_some {n d : Nat} {v : Int} (h : 0 ≤ v) : HT.sIx n d (some v) = min v.toNat n := by
  show (if v < 0 then (v + (n : Int)).toNat else min v.toNat n) = _
  rw [if_neg (by omega)]
end DL

/-! ### texts: one sign in a text, join, index; a written dict; reversed(range(n)) -/
namespace DL
open PySem L2
def rSign (neg : Bool) : R2 := fun x y H Q => ∃ (c : Nat) (z : Str), x = .str ⟨#[c]⟩ ∧ y = .str z ∧ Q (.bl (if neg then !decide (c ∈ z.cps.toList) else decide (c ∈ z.cps.toList))) H
def rJoin (K : PySem.W.Frag) : V → List V → Hp → VK → Prop := fun x xs H Q => ∃ a p, ∃ ys : List Str, x = .str a ∧ xs = [.ref p] ∧ (SqL K H p (ys.map V.str) ∨ SqT K H p (ys.map V.str)) ∧
    (ys.map (·.length)).sum + ys.length * a.length ≤ 16777216 ∧ Q (.str (Txt.join a ys)) H
def rIdxS : V → List V → Hp → VK → Prop := fun x xs H Q => ∃ (a b : Str) (k : Nat), x = .str a ∧ xs = [.str b] ∧ Txt.index0 a b = some k ∧ Q (.int (k : Nat)) H
section
variable {X : Cx} {o e : Expr} {to te : TE} {apos pos : Pos}
end
section
variable {K : PySem.W.Frag} {e env e1 e2 : Env} {to te : TE} {r : Res} {a b z : Str} {ys : List Str} {k : Nat} {c : Nat} {neg : Bool} {da : Addr} {w : World} {d : D} {n : Int}
end
end DL

/-! ## plain functions for the defs (no program in sight) -/
namespace SM
open PySem L2

/-- data; an object that may change is told by its place in a plain heap -/
inductive D where
  | non | bl (b : Bool) | int (i : Int) | str (x : Str) | ty (n : String)
  | tup (l : List D) | wt (l : List D) | scr (l : List D) | ref (i : Nat) | nm (x : String) | exc (C : String)
instance : Inhabited D := ⟨.non⟩
inductive O where
  | lst (l : List D)
  /-- t: its keys are tuples; lk: a loop walks it -/
  | dic (t lk : Bool) (kvs : List (D × D))
  | obj (C : String) (fs : List (String × D))
abbrev Hs := List O
abbrev Sl := List (Option D)
inductive RE (α : Type) where
  | ok (a : α) (A : Hs) | exc (C : String) (A : Hs) | stuck
def RE.bind {α β : Type} (r : RE α) (f : α → Hs → RE β) : RE β := match r with
  | .ok a A => f a A
  | .exc C A => .exc C A
  | .stuck => .stuck
/-- an exception has no road from here -/
def RE.noX {α : Type} : RE α → RE α
  | .ok a A => .ok a A
  | _ => .stuck
abbrev E := Sl → Hs → RE D
abbrev Tt := Sl → Hs → RE Bool
abbrev As := Sl → Hs → RE (List D)
abbrev Fn := List D → Hs → RE D
inductive RS where
  | nx (σ : Sl) (A : Hs) | bk (σ : Sl) (A : Hs) | ct (σ : Sl) (A : Hs) | rt (d : D) (A : Hs) | exc (C : String) (σ : Sl) (A : Hs) | stuck
abbrev S := Sl → Hs → RS
/-- a new object -/
def alloc (A : Hs) (o : O) : RE D := .ok (.ref A.length) (A ++ [o])

def eVar (i : Nat) : E := fun env A => match env[i]? with
  | some (some d) => .ok d A
  | _ => .stuck
def eC (d : D) : E := fun _ A => .ok d A
def eOp (o : D → D → Hs → RE D) (a b : E) : E := fun env A => (a env A).bind fun x A1 => (b env A1).bind fun y A2 => o x y A2
def eUn (o : D → Hs → RE D) (a : E) : E := fun env A => (a env A).bind fun x A1 => o x A1
def aNil : As := fun _ A => .ok [] A
def aCons (a : E) (as : As) : As := fun env A => (a env A).bind fun x A1 => (as env A1).bind fun xs A2 => .ok (x :: xs) A2
def eCB (f : List D → Hs → RE D) (as : As) : E := fun env A => (as env A).bind fun ds A1 => f ds A1
/-- a call where nothing that is raised has a road -/
def eCall0 (f : Fn) (as : As) : E := fun env A => (as env A).bind fun ds A1 => (f ds A1).noX
def eCall (f : Fn) (as : As) : E := fun env A => (as env A).bind fun ds A1 => f ds A1
def make (C : String) (f : Fn) (ds : List D) (A1 : Hs) : RE D := match f (.ref A1.length :: ds) (A1 ++ [.obj C []]) with
    | .ok .non A2 => .ok (.ref A1.length) A2
    | .exc X A2 => .exc X A2
    | _ => .stuck
def eMake0 (C : String) (f : Fn) (as : As) : E := fun env A => (as env A).bind fun ds A1 => (make C f ds A1).noX
def eMake (C : String) (f : Fn) (as : As) : E := fun env A => (as env A).bind fun ds A1 => make C f ds A1
/-- the class of an object, its fields -/
def objAt (A : Hs) : D → Option (String × List (String × D))
  | .ref i => match A[i]? with
    | some (.obj C fs) => some (C, fs)
    | _ => none
  | _ => none
/-- what holds of all -/
def AllC (P : String → Prop) : List String → Prop
  | [] => True
  | c :: r => P c ∧ AllC P r
theorem AllC.of {P : String → Prop} {c : String} : ∀ {l : List String}, AllC P l → c ∈ l → P c
  | _ :: r, h, q => by
    rcases List.mem_cons.mp q with z | z
    · rw [z]; exact h.1
    · exact AllC.of h.2 z
def methOf (m : String) (tbl : List (String × Fn)) (A : Hs) (x : D) : Option Fn := match objAt A x with
  | some (C, fs) => if (fs.lookup m).isSome then none else tbl.lookup C
  | none => none
def eMeth (m : String) (tbl : List (String × Fn)) (o : E) (as : As) : E := fun env A => (o env A).bind fun x A1 => match methOf m tbl A1 x with
  | some f => (as env A1).bind fun ds A2 => f (x :: ds) A2
  | none => .stuck
def eMeth0 (m : String) (tbl : List (String × Fn)) (o : E) (as : As) : E := fun env A => (o env A).bind fun x A1 => match methOf m tbl A1 x with
  | some f => (as env A1).bind fun ds A2 => (f (x :: ds) A2).noX
  | none => .stuck
/-- o.f, o of one of the classes cs -/
def getFld (cs : List String) (f : String) (A : Hs) (x : D) : Option D := match objAt A x with
  | some (C, fs) => if C ∈ cs then fs.lookup f else none
  | none => none
def eFld (cs : List String) (f : String) (o : E) : E := fun env A => (o env A).bind fun x A1 => match getFld cs f A1 x with
  | some d => .ok d A1
  | none => .stuck
def eAnd (a b : E) : E := fun env A => (a env A).bind fun x A1 => match x with
  | .bl true => b env A1
  | .bl false => .ok (.bl false) A1
  | _ => .stuck
def eOr (a b : E) : E := fun env A => (a env A).bind fun x A1 => match x with
  | .bl false => b env A1
  | .bl true => .ok (.bl true) A1
  | _ => .stuck
def eNot (a : E) : E := fun env A => (a env A).bind fun x A1 => match x with
  | .bl c => .ok (.bl (!c)) A1
  | _ => .stuck
/-- a < b < c -/
def eCh (o o' : D → D → Hs → RE D) (a b c : E) : E := fun env A => (a env A).bind fun x A1 => (b env A1).bind fun y A2 => (o x y A2).bind fun z A3 => match z with
  | .bl false => .ok (.bl false) A3
  | .bl true => (c env A3).bind fun w A4 => o' y w A4
  | _ => .stuck
def tOf (a : E) : Tt := fun env A => (a env A).bind fun x A1 => match x with
  | .bl c => .ok c A1
  | _ => .stuck
def tAn (a b : Tt) : Tt := fun env A => (a env A).bind fun c A1 => if c = true then b env A1 else .ok false A1
def tOo (a b : Tt) : Tt := fun env A => (a env A).bind fun c A1 => if c = true then .ok true A1 else b env A1
def tNo (a : Tt) : Tt := fun env A => (a env A).bind fun c A1 => .ok (!c) A1
def tYe : Tt := fun _ A => .ok true A
def eIf (t : Tt) (a b : E) : E := fun env A => (t env A).bind fun c A1 => if c = true then a env A1 else b env A1
def eTup (as : As) : E := fun env A => (as env A).bind fun ds A1 => if ds.length ≤ sizeLine then .ok (.tup ds) A1 else .stuck
def eLst (as : As) : E := fun env A => (as env A).bind fun ds A1 => if ds.length ≤ sizeLine then alloc A1 (.lst ds) else .stuck
def eDNew (t : Bool) : E := fun _ A => alloc A (.dic t false [])
def oNo : Sl → Hs → RE (Option Int) := fun _ A => .ok none A
def oSo (a : E) : Sl → Hs → RE (Option Int) := fun env A => (a env A).bind fun x A1 => match x with
  | .int i => .ok (some i) A1
  | _ => .stuck
def eSl (o : D → Option Int → Option Int → Hs → RE D) (a : E) (l h : Sl → Hs → RE (Option Int)) : E := fun env A => (a env A).bind fun x A1 => (l env A1).bind fun lo A2 => (h env A2).bind fun hi A3 => o x lo hi A3

/-! ### statements -/
def sSeq (a b : S) : S := fun env A => match a env A with
  | .nx env' A' => b env' A'
  | r => r
def sNx : S := fun env A => .nx env A
def sBk : S := fun env A => .bk env A
def sCt : S := fun env A => .ct env A
def ofE (env : Sl) (r : RE D) (k : D → Hs → RS) : RS := match r with
  | .ok d A => k d A
  | .exc C A => .exc C env A
  | .stuck => .stuck
def ofT (env : Sl) (r : RE Bool) (k : Bool → Hs → RS) : RS := match r with
  | .ok d A => k d A
  | .exc C A => .exc C env A
  | .stuck => .stuck
def sDrop (a : E) : S := fun env A => ofE env (a env A) fun _ A1 => .nx env A1
def sRet (a : E) : S := fun env A => ofE env (a env A) fun d A1 => .rt d A1
def sRetN : S := fun _ A => .rt .non A
def sIf (t : Tt) (a b : S) : S := fun env A => ofT env (t env A) fun c A1 => if c = true then a env A1 else b env A1
/-- targets -/
abbrev G := D → Sl → Hs → Option Sl
def gN (i : Nat) : G := fun d env _ => some (env.set i (some d))
def gAll : List G → List D → Sl → Hs → Option Sl
  | [], [], env, _ => some env
  | g :: gs, d :: ds, env, A => match g d env A with
    | some env' => gAll gs ds env' A
    | none => none
  | _, _, _, _ => none
def gT (gs : List G) : G := fun d env A => match d with
  | .tup ds => gAll gs ds env A
  | _ => none
def sAsg (a : E) (g : G) : S := fun env A => ofE env (a env A) fun d A1 => match g d env A1 with
  | some env' => .nx env' A1
  | none => .stuck
def sSet (i : Nat) (a : E) : S := fun env A => ofE env (a env A) fun d A1 => .nx (env.set i (some d)) A1
/-- a, b = x, y -/
def sPar (i j : Nat) (as : As) : S := fun env A => match as env A with
  | .ok [x, y] A1 => .nx ((env.set i (some x)).set j (some y)) A1
  | .exc C A1 => .exc C env A1
  | _ => .stuck
def sAug (i : Nat) (o : D → D → Hs → RE D) (a : E) : S := fun env A => match env[i]? with
  | some (some x) => ofE env (a env A) fun y A1 => ofE env (o x y A1) fun z A2 => .nx (env.set i (some z)) A2
  | _ => .stuck
def putF (f : String) (d : D) : List (String × D) → List (String × D)
  | [] => [(f, d)]
  | (g, e) :: r => if g = f then (g, d) :: r else (g, e) :: putF f d r
def setFld (cs : List String) (A : Hs) (x : D) (f : String) (d : D) : Option Hs := match x with
  | .ref i => match A[i]? with
    | some (.obj C fs) => if C ∈ cs ∧ fs.length < 999 then some (A.set i (.obj C (putF f d fs))) else none
    | _ => none
  | _ => none
/-- o.f = e -/
def sFl (cs : List String) (f : String) (o a : E) : S := fun env A => ofE env (a env A) fun d A1 => ofE env (o env A1) fun x A2 => match setFld cs A2 x f d with
  | some A3 => .nx env A3
  | none => .stuck
/-- o.f op= e -/
def sFlAug (cs : List String) (f : String) (op : D → D → Hs → RE D) (o a : E) : S := fun env A => ofE env (o env A) fun x A1 => match getFld cs f A1 x with
  | some v => ofE env (a env A1) fun y A2 => ofE env (op v y A2) fun z A3 => match setFld cs A3 x f z with
    | some A4 => .nx env A4
    | none => .stuck
  | none => .stuck
/-- what is walked: the items; what must stand for the walk to go on -/
structure Wk where
  ds : List D
  gd : Hs → Prop
open Classical in
noncomputable def forL (g : G) (b : S) (gd : Hs → Prop) : List D → S
  | [], env, A => if gd A then .nx env A else .stuck
  | d :: ds, env, A => if gd A then match g d env A with
    | some env1 => match b env1 A with
      | .nx env2 A2 => forL g b gd ds env2 A2
      | .ct env2 A2 => forL g b gd ds env2 A2
      | .bk env2 A2 => .nx env2 A2
      | r => r
    | none => .stuck
    else .stuck
noncomputable def sFor (w : Sl → Hs → RE Wk) (g : G) (b : S) : S := fun env A => match w env A with
  | .ok k A1 => forL g b k.gd k.ds env A1
  | .exc C A1 => .exc C env A1
  | .stuck => .stuck
/-- some turns of a while -/
def whN (t : Tt) (b : S) : Nat → S
  | 0, _, _ => .stuck
  | n + 1, env, A => ofT env (t env A) fun c A1 => if c = true then match b env A1 with
      | .nx env2 A2 => whN t b n env2 A2
      | .ct env2 A2 => whN t b n env2 A2
      | .bk env2 A2 => .nx env2 A2
      | r => r
    else .nx env A1
open Classical in
noncomputable def sWh (t : Tt) (b : S) : S := fun env A => if h : ∃ n, whN t b n env A ≠ .stuck then whN t b h.choose env A else .stuck
/-- the slots of a block's own names, not known -/
def wipeS (env : Sl) : List Nat → Sl
  | [] => env
  | v :: vs => (wipeS env vs).set v none
open Classical in
noncomputable def lcL (g : G) (t : Tt) (a : E) (gd : Hs → Prop) (env : Sl) : List D → List D → Hs → RE (List D)
  | [], acc, A => if gd A then .ok acc A else .stuck
  | d :: ds, acc, A => if gd A then match g d env A with
    | some env1 => match t env1 A with
      | .ok true A1 => match a env1 A1 with
        | .ok x A2 => if acc.length < sizeLine then lcL g t a gd env ds (acc ++ [x]) A2 else .stuck
        | _ => .stuck
      | .ok false A1 => lcL g t a gd env ds acc A1
      | _ => .stuck
    | none => .stuck
    else .stuck
/-- a list comprehension; vs: the block's own slots -/
noncomputable def eLc (w : Sl → Hs → RE Wk) (g : G) (t : Tt) (a : E) (vs : List Nat) : E := fun env A => (w env A).bind fun k A1 => match lcL g t a k.gd (wipeS env vs) k.ds [] A1 with
  | .ok l A2 => alloc A2 (.lst l)
  | _ => .stuck
/-- a def by its body: n parameters, m names -/
def mkFn (n m : Nat) (b : S) : Fn := fun ds A => if ds.length = n then match b (ds.map some ++ List.replicate (m - n) none) A with
    | .nx _ A' => .ok .non A'
    | .rt d A' => .ok d A'
    | .exc C _ A' => .exc C A'
    | _ => .stuck
  else .stuck
/-- raise C('..') -/
def sRaise (C : String) : S := fun env A => .exc C env A
/-- try: b / except (catches) as i: slot j = it -/
def sTryK (catches : List String) (i j : Nat) (b : S) : S := fun env A => match b env A with
  | .exc C env1 A1 => if C ∈ catches then .nx (((env1.set i (some (.exc C))).set j (some (.exc C))).set i none) A1 else .stuck
  | r => r
/-- try: b / except (catches): s -/
def sTryO (catches : List String) (b s : S) : S := fun env A => match b env A with
  | .exc C env1 A1 => if C ∈ catches then s env1 A1 else .stuck
  | r => r

theorem whN_mono {t : Tt} {b : S} : ∀ {n : Nat} {env : Sl} {A : Hs}, whN t b n env A ≠ .stuck → whN t b (n + 1) env A = whN t b n env A := by
  intro n
  induction n with
  | zero => intro env A h; exact absurd rfl h
  | succ n ih =>
    intro env A h
    unfold whN at h ⊢
    cases ht : t env A with
    | stuck => rw [ht] at h; rfl
    | exc C A1 => rfl
    | ok c A1 =>
      rw [ht] at h
      cases c with
      | false => rfl
      | true =>
        simp only [ofT, if_true] at h ⊢
        cases hb : b env A1 with
        | nx e2 A2 => rw [hb] at h; exact ih h
        | ct e2 A2 => rw [hb] at h; exact ih h
        | bk _ _ => rfl
        | rt _ _ => rfl
        | exc _ _ _ => rfl
        | stuck => rfl
theorem whN_le {t : Tt} {b : S} {env : Sl} {A : Hs} {n k : Nat} (h : whN t b n env A ≠ .stuck) : whN t b (n + k) env A = whN t b n env A := by
  induction k with
  | zero => rfl
  | succ k ih => rw [← ih, ← Nat.add_assoc]; exact whN_mono (by rw [ih]; exact h)
theorem sWh_eq {t : Tt} {b : S} {env : Sl} {A : Hs} {n : Nat} (h : whN t b n env A ≠ .stuck) : sWh t b env A = whN t b n env A := by
  have hx : ∃ n, whN t b n env A ≠ .stuck := ⟨n, h⟩
  unfold sWh
  rw [dif_pos hx]
  have h2 := hx.choose_spec
  rcases Nat.le_total hx.choose n with q | q
  · have := whN_le (k := n - hx.choose) h2
    rw [show hx.choose + (n - hx.choose) = n by omega] at this
    exact this.symm
  · have := whN_le (k := hx.choose - n) h
    rw [show n + (hx.choose - n) = hx.choose by omega] at this
    exact this
/-- one turn -/
theorem sWh_turn {t : Tt} {b : S} {env : Sl} {A : Hs} : sWh t b env A = ofT env (t env A) fun c A1 => if c = true then match b env A1 with
      | .nx env2 A2 => sWh t b env2 A2
      | .ct env2 A2 => sWh t b env2 A2
      | .bk env2 A2 => .nx env2 A2
      | r => r
    else .nx env A1 := by
  have back : ∀ {env : Sl} {A : Hs}, sWh t b env A ≠ .stuck → ∃ n, whN t b n env A ≠ .stuck := fun {env A} h => by
    unfold sWh at h
    split at h
    · assumption
    · exact absurd rfl h
  have stk : ∀ {env : Sl} {A : Hs}, (∀ n, whN t b n env A = .stuck) → sWh t b env A = .stuck := fun {env A} h => by
    unfold sWh
    rw [dif_neg]
    rintro ⟨n, hn⟩
    exact hn (h n)
  cases ht : t env A with
  | stuck =>
    rw [stk fun n => by cases n with
      | zero => rfl
      | succ n => unfold whN; rw [ht]; rfl]
    rfl
  | exc C A1 =>
    have e : whN t b 1 env A = .exc C env A1 := by unfold whN; rw [ht]; rfl
    rw [sWh_eq (n := 1) (by rw [e]; simp), e]
    rfl
  | ok c A1 =>
    cases c with
    | false =>
      have e : whN t b 1 env A = .nx env A1 := by unfold whN; rw [ht]; rfl
      rw [sWh_eq (n := 1) (by rw [e]; simp), e]
      rfl
    | true =>
      simp only [ofT, if_true]
      have e : ∀ n, whN t b (n + 1) env A = match b env A1 with
        | .nx env2 A2 => whN t b n env2 A2
        | .ct env2 A2 => whN t b n env2 A2
        | .bk env2 A2 => .nx env2 A2
        | r => r := fun n => by
        conv => lhs; unfold whN
        rw [ht]; rfl
      have fin : ∀ r, r ≠ .stuck → (∀ n, whN t b (n + 1) env A = r) → sWh t b env A = r := fun r hr h => by rw [sWh_eq (n := 1) (by rw [h 0]; exact hr), h 0]
      have again : ∀ e2 A2, (∀ n, whN t b (n + 1) env A = whN t b n e2 A2) → sWh t b env A = sWh t b e2 A2 := fun e2 A2 h => by
        by_cases q : ∃ n, whN t b n e2 A2 ≠ .stuck
        · obtain ⟨n, hn⟩ := q
          rw [sWh_eq hn, sWh_eq (n := n + 1) (by rw [h n]; exact hn), h n]
        · have q' : ∀ n, whN t b n e2 A2 = .stuck := fun n => Classical.byContradiction fun z => q ⟨n, z⟩
          rw [stk q', stk fun n => by cases n with
            | zero => rfl
            | succ n => rw [h n, q' n]]
      cases hb : b env A1 with
      | nx e2 A2 => exact again e2 A2 fun n => by rw [e, hb]
      | ct e2 A2 => exact again e2 A2 fun n => by rw [e, hb]
      | bk e2 A2 => exact fin _ (by simp) fun n => by rw [e, hb]
      | rt d A2 => exact fin _ (by simp) fun n => by rw [e, hb]
      | exc C e2 A2 => exact fin _ (by simp) fun n => by rw [e, hb]
      | stuck => exact stk fun n => by cases n with
          | zero => rfl
          | succ n => rw [e, hb]
end SM

/-! ## how the plain functions stand to the program: the relation of the heaps -/
namespace SM
open PySem L2
open DL (Ex ExK)

/-- where the names' things stand; T: the tables of code objects, the names in them -/
structure CaT where
  fn : String → Addr
  T : List (Addr × Str)
instance : CoeFun CaT (fun _ => String → Addr) := ⟨CaT.fn⟩
/-- free, or a table of code objects -/
def Fr1 (H : Hp) (a : Addr) : Prop := ∀ u, H a = some u → ∃ ps, u = .tbl ps
theorem Fr1.none {H : Hp} {a : Addr} (h : H a = none) : Fr1 H a := fun u e => by rw [h] at e; cases e
theorem Fr1.back {H H' : Hp} {a : Addr} (h : Fr1 H' a) (k : ∀ u, H a = some u → H' a = some u) : Fr1 H a := fun u e => h u (k u e)
/-- no table, no code object -/
def Ordy : HO → Prop
  | .lst _ => True
  | .dK _ => True
  | .dT _ => True
  | .ins _ _ _ => True
  | .frz _ _ => True
  | .tup _ => True
  | _ => False
theorem Ordy.tbl {u : HO} (o : Ordy u) (ps : Array Value) : u ≠ .tbl ps := fun z => by rw [z] at o; exact o
theorem Ordy.code {u : HO} (o : Ordy u) (c : Addr) (q : Str) : u ≠ LamX.CodeO c q := fun z => by
  rw [z] at o
  unfold LamX.CodeO at o
  exact o
theorem Fr1.no {H : Hp} {a : Addr} {u : HO} (h : Fr1 H a) (e : H a = some u) (o : Ordy u) : False := by
  obtain ⟨ps, z⟩ := h u e
  exact o.tbl ps z
theorem tabs_upd {T : List (Addr × Str)} {H : Hp} {a : Addr} {u w : HO} (h : LamX.Tabs T H) (e : H a = some w) (o : Ordy w) : LamX.Tabs T (upd H a u) := fun p hp => by
  obtain ⟨ps, h1, h2, h3⟩ := h p hp
  refine ⟨ps, ?_, h2, fun pos cv hc => ?_⟩
  · rw [upd_ne fun z => by rw [z, e] at h1; exact o.tbl ps (Option.some.inj h1)]; exact h1
  · obtain ⟨c, e1, e2⟩ := h3 pos cv hc
    exact ⟨c, e1, by rw [upd_ne fun z => by rw [z, e] at e2; exact o.code _ _ (Option.some.inj e2)]; exact e2⟩
/-- m begins m' -/
abbrev Pre (m m' : List Addr) : Prop := ∃ r, m' = m ++ r
theorem Pre.refl (m : List Addr) : Pre m m := ⟨[], by simp⟩
theorem Pre.trans {a b c : List Addr} (x : Pre a b) (y : Pre b c) : Pre a c := by
  obtain ⟨r, rfl⟩ := x; obtain ⟨s, rfl⟩ := y; exact ⟨r ++ s, by simp⟩
theorem Pre.get {m m' : List Addr} {i : Nat} {a : Addr} (x : Pre m m') (h : m[i]? = some a) : m'[i]? = some a := by
  obtain ⟨r, rfl⟩ := x
  rw [List.getElem?_append_left (List.getElem?_eq_some_iff.mp h).1]; exact h
theorem Pre.mem {m m' : List Addr} {a : Addr} (x : Pre m m') (h : a ∈ m) : a ∈ m' := by
  obtain ⟨r, rfl⟩ := x; exact List.mem_append_left _ h

mutual
inductive Rep (K : PySem.W.Frag) (ca : CaT) (F : Hp) (m : List Addr) : V → D → Prop
  | non : Rep K ca F m .non .non
  | bl (b : Bool) : Rep K ca F m (.bl b) (.bl b)
  | int (i : Int) : Rep K ca F m (.int i) (.int i)
  | str (x : Str) : Rep K ca F m (.str x) (.str x)
  | ty (n : String) : Rep K ca F m (.ty n) (.ty n)
  | tup {a : Addr} {vs : List V} {l : List D} : F a = some (.tup vs) → RepL K ca F m vs l → Rep K ca F m (.ref a) (.tup l)
  | wt {a : Addr} {vs : List V} {l : List D} : SqT K F a vs → RepL K ca F m vs l → Rep K ca F m (.ref a) (.wt l)
  | scr {a : Addr} {vs : List V} {l : List D} : SqL K F a vs → RepL K ca F m vs l → Rep K ca F m (.ref a) (.scr l)
  | ref {a : Addr} {i : Nat} : m[i]? = some a → Rep K ca F m (.ref a) (.ref i)
  | nm (x : String) : Rep K ca F m (.ref (ca x)) (.nm x)
  | exc {a : Addr} {C : String} : F a = some (ExK (ca C) a) → Rep K ca F m (.ref a) (.exc C)
inductive RepL (K : PySem.W.Frag) (ca : CaT) (F : Hp) (m : List Addr) : List V → List D → Prop
  | nil : RepL K ca F m [] []
  | cons {v : V} {vs : List V} {d : D} {ds : List D} : Rep K ca F m v d → RepL K ca F m vs ds → RepL K ca F m (v :: vs) (d :: ds)
end
section
variable {K : PySem.W.Frag} {ca : CaT} {F F' : Hp} {m m' : List Addr}
mutual
theorem Rep.mono (e : Ex F F') (p : Pre m m') : ∀ {v : V} {d : D}, Rep K ca F m v d → Rep K ca F' m' v d
  | _, _, .non => .non
  | _, _, .bl b => .bl b
  | _, _, .int i => .int i
  | _, _, .str x => .str x
  | _, _, .ty n => .ty n
  | _, _, .tup h r => .tup (e _ _ h) (RepL.mono e p r)
  | _, _, .wt h r => .wt (e.t h) (RepL.mono e p r)
  | _, _, .scr h r => .scr (e.l h) (RepL.mono e p r)
  | _, _, .ref h => .ref (p.get h)
  | _, _, .nm x => .nm x
  | _, _, .exc h => .exc (e _ _ h)
theorem RepL.mono (e : Ex F F') (p : Pre m m') : ∀ {vs : List V} {ds : List D}, RepL K ca F m vs ds → RepL K ca F' m' vs ds
  | _, _, .nil => .nil
  | _, _, .cons h r => .cons (Rep.mono e p h) (RepL.mono e p r)
end
theorem RepL.length : ∀ {vs : List V} {ds : List D}, RepL K ca F m vs ds → vs.length = ds.length
  | _, _, .nil => rfl
  | _, _, .cons _ r => by rw [List.length_cons, List.length_cons, r.length]
theorem RepL.get : ∀ {vs : List V} {ds : List D} {i : Nat} {d : D}, RepL K ca F m vs ds → ds[i]? = some d → ∃ v, vs[i]? = some v ∧ Rep K ca F m v d
  | _, _, _, _, .nil, h => by simp at h
  | _, _, 0, _, .cons h _, e => by simp at e; subst e; exact ⟨_, rfl, h⟩
  | _, _, i + 1, _, .cons _ r, e => by
    obtain ⟨v, h1, h2⟩ := RepL.get (i := i) r (by simpa using e)
    exact ⟨v, by simpa using h1, h2⟩
theorem RepL.append : ∀ {vs ws : List V} {ds es : List D}, RepL K ca F m vs ds → RepL K ca F m ws es → RepL K ca F m (vs ++ ws) (ds ++ es)
  | _, _, _, _, .nil, s => s
  | _, _, _, _, .cons h r, s => .cons h (RepL.append r s)
theorem RepL.take : ∀ {vs : List V} {ds : List D} (n : Nat), RepL K ca F m vs ds → RepL K ca F m (vs.take n) (ds.take n)
  | _, _, 0, _ => .nil
  | _, _, _ + 1, .nil => .nil
  | _, _, n + 1, .cons h r => .cons h (RepL.take n r)
theorem RepL.drop : ∀ {vs : List V} {ds : List D} (n : Nat), RepL K ca F m vs ds → RepL K ca F m (vs.drop n) (ds.drop n)
  | _, _, 0, r => r
  | _, _, _ + 1, .nil => .nil
  | _, _, n + 1, .cons _ r => RepL.drop n r
theorem RepL.set {v : V} {d : D} (h : Rep K ca F m v d) : ∀ {vs : List V} {ds : List D} (n : Nat), RepL K ca F m vs ds → RepL K ca F m (vs.set n v) (ds.set n d)
  | _, _, _, .nil => .nil
  | _, _, 0, .cons _ r => .cons h r
  | _, _, n + 1, .cons q r => .cons q (RepL.set h n r)
theorem RepL.reverse : ∀ {vs : List V} {ds : List D}, RepL K ca F m vs ds → RepL K ca F m vs.reverse ds.reverse
  | _, _, .nil => .nil
  | _, _, .cons h r => by
    rw [List.reverse_cons, List.reverse_cons]
    exact (RepL.reverse r).append (.cons h .nil)
theorem RepL.eraseIdx : ∀ {vs : List V} {ds : List D} (n : Nat), RepL K ca F m vs ds → RepL K ca F m (vs.eraseIdx n) (ds.eraseIdx n)
  | _, _, _, .nil => .nil
  | _, _, 0, .cons _ r => r
  | _, _, n + 1, .cons q r => .cons q (RepL.eraseIdx n r)
theorem RepL.flatRep {vs : List V} {ds : List D} (h : RepL K ca F m vs ds) : ∀ n : Nat, RepL K ca F m (List.replicate n vs).flatten (List.replicate n ds).flatten
  | 0 => .nil
  | n + 1 => by
    rw [List.replicate_succ, List.replicate_succ, List.flatten_cons, List.flatten_cons]
    exact h.append (RepL.flatRep h n)
/-- ints, truths, texts: the values are those of the data -/
theorem RepL.ints : ∀ {vs : List V} {ns : List Int}, RepL K ca F m vs (ns.map D.int) → vs = ns.map V.int
  | _, [], h => by cases h; rfl
  | _, n :: r, h => by
    cases h with
    | cons q t => cases q; rw [RepL.ints t]; rfl
theorem RepL.bools : ∀ {vs : List V} {ns : List Bool}, RepL K ca F m vs (ns.map D.bl) → vs = ns.map V.bl
  | _, [], h => by cases h; rfl
  | _, n :: r, h => by
    cases h with
    | cons q t => cases q; rw [RepL.bools t]; rfl
theorem RepL.of_ints : ∀ {ns : List Int}, RepL K ca F m (ns.map V.int) (ns.map D.int)
  | [] => .nil
  | n :: _ => .cons (.int n) RepL.of_ints
end
/-- keys -/
def kD : Key → D
  | .inl i => .int i
  | .inr x => .str x
def kT (l : List Key) : D := .tup (l.map kD)
inductive KvR (K : PySem.W.Frag) (ca : CaT) (F : Hp) (m : List Addr) {κ δ : Type} (kd : κ → δ) : List (κ × V) → List (δ × D) → Prop
  | nil : KvR K ca F m kd [] []
  | cons {k : κ} {v : V} {d : D} {r : List (κ × V)} {s : List (δ × D)} : Rep K ca F m v d → KvR K ca F m kd r s → KvR K ca F m kd ((k, v) :: r) ((kd k, d) :: s)
theorem KvR.mono {K : PySem.W.Frag} {ca : CaT} {F F' : Hp} {m m' : List Addr} {κ δ : Type} {kd : κ → δ} (e : Ex F F') (p : Pre m m') : ∀ {l : List (κ × V)} {s : List (δ × D)}, KvR K ca F m kd l s → KvR K ca F' m' kd l s
  | _, _, .nil => .nil
  | _, _, .cons h r => .cons (h.mono e p) (KvR.mono e p r)
theorem KvR.length {K : PySem.W.Frag} {ca : CaT} {F : Hp} {m : List Addr} {κ δ : Type} {kd : κ → δ} : ∀ {l : List (κ × V)} {s : List (δ × D)}, KvR K ca F m kd l s → l.length = s.length
  | _, _, .nil => rfl
  | _, _, .cons _ r => by rw [List.length_cons, List.length_cons, KvR.length r]
/-- the object u stands at a, locked or not -/
def At (H : Hp) (a : Addr) : Bool → HO → Prop
  | false, u => H a = some u
  | true, u => ∃ od, H a = some (.frz od u)
def fS (f : String) : Str := ⟨(f.toList.map Char.toNat).toArray⟩
theorem fS_inj {f g : String} : fS f = fS g ↔ f = g := by
  refine ⟨fun h => ?_, fun h => by rw [h]⟩
  unfold fS at h
  injection h with h
  have h2 : f.toList.map Char.toNat = g.toList.map Char.toNat := by
    have := congrArg Array.toList h
    simpa using this
  have inj : ∀ a b : Char, a.toNat = b.toNat → a = b := fun a b e => Char.ext (UInt32.toNat_inj.mp e)
  have h3 : ∀ (l m : List Char), l.map Char.toNat = m.map Char.toNat → l = m := by
    intro l
    induction l with
    | nil => intro m h; cases m with
      | nil => rfl
      | cons _ _ => simp at h
    | cons a l ih =>
      intro m h
      cases m with
      | nil => simp at h
      | cons b m =>
        rw [List.map_cons, List.map_cons] at h
        injection h with h1 h2
        rw [inj a b h1, ih m h2]
  exact String.toList_inj.mp (h3 _ _ h2)
/-- fields by their names -/
inductive FdR (K : PySem.W.Frag) (ca : CaT) (F : Hp) (m : List Addr) : List (Str × V) → List (String × D) → Prop
  | nil : FdR K ca F m [] []
  | cons {f : String} {v : V} {d : D} {r : List (Str × V)} {s : List (String × D)} : Rep K ca F m v d → FdR K ca F m r s → FdR K ca F m ((fS f, v) :: r) ((f, d) :: s)
theorem FdR.mono {K : PySem.W.Frag} {ca : CaT} {F F' : Hp} {m m' : List Addr} (e : Ex F F') (p : Pre m m') : ∀ {l : List (Str × V)} {s : List (String × D)}, FdR K ca F m l s → FdR K ca F' m' l s
  | _, _, .nil => .nil
  | _, _, .cons h r => .cons (h.mono e p) (FdR.mono e p r)
theorem FdR.length {K : PySem.W.Frag} {ca : CaT} {F : Hp} {m : List Addr} : ∀ {l : List (Str × V)} {s : List (String × D)}, FdR K ca F m l s → l.length = s.length
  | _, _, .nil => rfl
  | _, _, .cons _ r => by rw [List.length_cons, List.length_cons, FdR.length r]
def ORep (K : PySem.W.Frag) (ca : CaT) (F : Hp) (m : List Addr) (H : Hp) (a : Addr) : O → Prop
  | .lst l => ∃ vs, H a = some (.lst vs) ∧ RepL K ca F m vs l
  | .dic false lk l => ∃ kvs, At H a lk (.dK kvs) ∧ KvR K ca F m kD kvs l
  | .dic true lk l => ∃ kvs, At H a lk (.dT kvs) ∧ KvR K ca F m kT kvs l
  | .obj C fs => ∃ dx kvs, H a = some (.ins (ca C) dx kvs) ∧ FdR K ca F m kvs fs
theorem At.mono {H H' : Hp} {a : Addr} {lk : Bool} {u : HO} (h : At H a lk u) (k : ∀ w, H a = some w → H' a = some w) : At H' a lk u := by
  cases lk with
  | false => exact k _ h
  | true => obtain ⟨od, h⟩ := h; exact ⟨od, k _ h⟩
section
variable {K : PySem.W.Frag} {ca : CaT} {F F' H H' : Hp} {m m' : List Addr} {a : Addr} {o : O}
theorem ORep.mono (h : ORep K ca F m H a o) (e : Ex F F') (p : Pre m m') (k : ∀ u, H a = some u → H' a = some u) : ORep K ca F' m' H' a o := by
  cases o with
  | lst l => obtain ⟨vs, x, r⟩ := h; exact ⟨vs, k _ x, r.mono e p⟩
  | dic t lk l =>
    cases t with
    | false => obtain ⟨kvs, x, r⟩ := h; exact ⟨kvs, x.mono k, r.mono e p⟩
    | true => obtain ⟨kvs, x, r⟩ := h; exact ⟨kvs, x.mono k, r.mono e p⟩
  | obj C fs => obtain ⟨dx, kvs, x, r⟩ := h; exact ⟨dx, kvs, k _ x, r.mono e p⟩
theorem ORep.ordy (h : ORep K ca F m H a o) : ∃ u, H a = some u ∧ Ordy u := by
  cases o with
  | lst l => obtain ⟨vs, x, r⟩ := h; exact ⟨_, x, trivial⟩
  | dic t lk l =>
    cases t with
    | false =>
      obtain ⟨kvs, x, r⟩ := h
      cases lk with
      | false => exact ⟨_, x, trivial⟩
      | true => obtain ⟨od, x⟩ := x; exact ⟨_, x, trivial⟩
    | true =>
      obtain ⟨kvs, x, r⟩ := h
      cases lk with
      | false => exact ⟨_, x, trivial⟩
      | true => obtain ⟨od, x⟩ := x; exact ⟨_, x, trivial⟩
  | obj C fs => obtain ⟨dx, kvs, x, _⟩ := h; exact ⟨_, x, trivial⟩
theorem ORep.ho (h : ORep K ca F m H a o) : ∃ u, H a = some u := by
  cases o with
  | lst l => obtain ⟨vs, x, r⟩ := h; exact ⟨_, x⟩
  | dic t lk l =>
    cases t with
    | false =>
      obtain ⟨kvs, x, r⟩ := h
      cases lk with
      | false => exact ⟨_, x⟩
      | true => obtain ⟨od, x⟩ := x; exact ⟨_, x⟩
    | true =>
      obtain ⟨kvs, x, r⟩ := h
      cases lk with
      | false => exact ⟨_, x⟩
      | true => obtain ⟨od, x⟩ := x; exact ⟨_, x⟩
  | obj C fs => obtain ⟨dx, kvs, x, _⟩ := h; exact ⟨_, x⟩
end
/-- the plain heap A is the heap H: m tells where its objects stand, F what never changes -/
structure Rl (K : PySem.W.Frag) (ca : CaT) (F : Hp) (m : List Addr) (A : Hs) (H : Hp) : Prop where
  fh : Ex F H
  len : m.length = A.length
  nd : m.Nodup
  fr : ∀ a ∈ m, F a = none
  ob : ∀ (i : Nat) (o : O) (a : Addr), A[i]? = some o → m[i]? = some a → ORep K ca F m H a o
  tb : LamX.Tabs ca.T H
  ft : ∀ a ps, F a ≠ some (.tbl ps)
/-- what a step leaves -/
structure Stp (F : Hp) (m : List Addr) (H F' : Hp) (m' : List Addr) (H' : Hp) : Prop where
  ff : Ex F F'
  mm : Pre m m'
  kp : ∀ a u, H a = some u → a ∉ m → (∀ ps, u ≠ .tbl ps) → H' a = some u
  gn : ∀ a, F' a ≠ none → F a ≠ none ∨ Fr1 H a ∨ ∃ xs, F' a = some (.tup xs)
  gm : ∀ a, a ∈ m' → a ∈ m ∨ Fr1 H a
  th : ∀ a, Fr1 H' a → Fr1 H a
  fz : ∀ a o u, H a = some (.frz o u) → H' a = some (.frz o u)
structure Slt (K : PySem.W.Frag) (ca : CaT) (F : Hp) (m : List Addr) (σ : L2.St) (env : Sl) : Prop where
  len : σ.length = env.length
  val : ∀ (i : Nat) (d : D), env[i]? = some (some d) → ∃ v : V, σ[i]? = some (some v) ∧ Rep K ca F m v d
section
variable {K : PySem.W.Frag} {ca : CaT} {F F1 F2 H H1 H2 : Hp} {m m1 m2 : List Addr} {A : Hs} {σ : L2.St} {env : Sl} {p : Addr} {u : HO} {o : O} {d : D} {v : V} {i : Nat}
theorem Stp.refl : Stp F m H F m H := ⟨Ex.refl _, Pre.refl _, fun _ _ h _ _ => h, fun a h => .inl h, fun a h => .inl h, fun _ h => h, fun _ _ _ h => h⟩
theorem Stp.trans (x : Stp F m H F1 m1 H1) (y : Stp F1 m1 H1 F2 m2 H2) : Stp F m H F2 m2 H2 := by
  refine ⟨x.ff.trans y.ff, x.mm.trans y.mm, fun a u h n nt => ?_, fun a h => ?_, fun a h => ?_, fun a h => x.th a (y.th a h), fun a o u h => y.fz a o u (x.fz a o u h)⟩
  · refine y.kp a u (x.kp a u h n nt) (fun hm => ?_) nt
    rcases x.gm a hm with q | q
    · exact n q
    · obtain ⟨ps, z⟩ := q u h
      exact nt ps z
  · rcases y.gn a h with q | q | q
    · rcases x.gn a q with z | z | ⟨xs, z⟩
      · exact .inl z
      · exact .inr (.inl z)
      · exact .inr (.inr ⟨xs, y.ff a _ z⟩)
    · exact .inr (.inl (x.th a q))
    · exact .inr (.inr q)
  · rcases y.gm a h with q | q
    · exact x.gm a q
    · exact .inr (x.th a q)
theorem Slt.mono (S : Slt K ca F m σ env) (e : Ex F F1) (p : Pre m m1) : Slt K ca F1 m1 σ env := ⟨S.len, fun i d h => by
  obtain ⟨v, h1, h2⟩ := S.val i d h
  exact ⟨v, h1, h2.mono e p⟩⟩
theorem Slt.stp (S : Slt K ca F m σ env) (x : Stp F m H F1 m1 H1) : Slt K ca F1 m1 σ env := S.mono x.ff x.mm
theorem Slt.set (S : Slt K ca F m σ env) (r : Rep K ca F m v d) : Slt K ca F m (σ.set i (some v)) (env.set i (some d)) := ⟨by simp [S.len], fun j e h => by
  by_cases q : i = j
  · subst q
    rw [List.getElem?_set] at h ⊢
    have l := S.len
    split at h
    · split at h
      · cases h
        refine ⟨v, ?_, r⟩
        simp_all
      · cases h
    · rename_i z; exact absurd rfl z
  · rw [List.getElem?_set_ne q] at h ⊢
    exact S.val j e h⟩
theorem Slt.unset (S : Slt K ca F m σ env) : Slt K ca F m (σ.set i none) (env.set i none) := ⟨by simp [S.len], fun j e h => by
  by_cases q : i = j
  · subst q
    rw [List.getElem?_set] at h
    split at h
    · split at h <;> cases h
    · rename_i z; exact absurd rfl z
  · rw [List.getElem?_set_ne q] at h ⊢
    exact S.val j e h⟩
theorem Rl.ordy (R : Rl K ca F m A H) {a : Addr} (ha : m[i]? = some a) : ∃ u, H a = some u ∧ Ordy u := by
  have il : i < A.length := by rw [← R.len]; exact (List.getElem?_eq_some_iff.mp ha).1
  exact (R.ob i A[i] a (List.getElem?_eq_getElem il) ha).ordy
theorem Rl.ne (R : Rl K ca F m A H) {a : Addr} (h : a ∈ m) : H a ≠ none := by
  obtain ⟨i, hi⟩ := List.getElem?_of_mem h
  have l : i < A.length := by rw [← R.len]; exact (List.getElem?_eq_some_iff.mp hi).1
  obtain ⟨u, hu⟩ := (R.ob i A[i] a (by simp [l]) hi).ho
  rw [hu]; simp
theorem Rl.out (R : Rl K ca F m A H) {a : Addr} (h : H a = none) : a ∉ m := fun q => R.ne q h
/-- a new thing that stands -/
theorem Rl.new (R : Rl K ca F m A H) (n : H p = none) (hu : ∀ ps, u ≠ HO.tbl ps := by intro _ h; cases h) : Rl K ca (upd F p u) m A (upd H p u) ∧ Stp F m H (upd F p u) m (upd H p u) := by
  have nf := R.fh.back n
  refine ⟨⟨R.fh.both, R.len, R.nd, fun a h => ?_, fun i o a h1 h2 => (R.ob i o a h1 h2).mono (Ex.new nf) (Pre.refl _) fun w hw => Ex.new n a w hw, R.tb.ext fun b o h => Ex.new n b o h, fun a ps => ?_⟩, Ex.new nf, Pre.refl _, fun a w h _ _ => Ex.new n a w h, fun a h => ?_, fun a h => .inl h, fun a h => h.back fun u hu => Ex.new n a u hu, fun a o w h => Ex.new n a _ h⟩
  · rw [upd_ne (fun z => R.out n (by rw [← z]; exact h))]; exact R.fr a h
  · by_cases q : a = p
    · subst q; rw [upd_same]; exact fun z => hu ps (Option.some.inj z)
    · rw [upd_ne q]; exact R.ft a ps
  · by_cases q : a = p
    · subst q; exact .inr (.inl (.none n))
    · rw [upd_ne q] at h; exact .inl h
/-- a tuple that stands is known from now on -/
theorem Rl.catch {vs : List V} (R : Rl K ca F m A H) (h : H p = some (.tup vs)) : ∃ F1, Rl K ca F1 m A H ∧ Stp F m H F1 m H ∧ F1 p = some (.tup vs) := by
  have nm : p ∉ m := fun hm => by
    obtain ⟨i, hi⟩ := List.getElem?_of_mem hm
    have l : i < A.length := by rw [← R.len]; exact (List.getElem?_eq_some_iff.mp hi).1
    have r := R.ob i A[i] p (by simp [l]) hi
    cases q : A[i] with
    | lst l => rw [q] at r; obtain ⟨vs, x, _⟩ := r; rw [h] at x; cases x
    | obj C fs => rw [q] at r; obtain ⟨dx, kvs, x, _⟩ := r; rw [h] at x; cases x
    | dic t lk l =>
      rw [q] at r
      cases t with
      | false =>
        obtain ⟨kvs, x, _⟩ := r
        cases lk with
        | false => have x : H p = some (.dK kvs) := x; rw [h] at x; cases x
        | true => obtain ⟨od, x⟩ := x; rw [h] at x; cases x
      | true =>
        obtain ⟨kvs, x, _⟩ := r
        cases lk with
        | false => have x : H p = some (.dT kvs) := x; rw [h] at x; cases x
        | true => obtain ⟨od, x⟩ := x; rw [h] at x; cases x
  have e : Ex F (upd F p (.tup vs)) := fun a o ha => by
    by_cases q : a = p
    · subst q
      have := R.fh a o ha
      rw [h] at this
      cases this
      exact upd_same
    · rw [upd_ne q]; exact ha
  refine ⟨upd F p (.tup vs), ⟨fun a o ha => ?_, R.len, R.nd, fun a ha => ?_, fun i o a h1 h2 => (R.ob i o a h1 h2).mono e (Pre.refl _) fun w hw => hw, R.tb, fun a ps => ?_⟩, ⟨e, Pre.refl _, fun a w h _ _ => h, fun a ha => ?_, fun a h => .inl h, fun a h => h, fun a o w h => h⟩, upd_same⟩
  · by_cases q : a = p
    · subst q; rw [upd_same] at ha; cases ha; exact h
    · rw [upd_ne q] at ha; exact R.fh a o ha
  · rw [upd_ne (fun z => nm (by rw [← z]; exact ha))]; exact R.fr a ha
  · by_cases q : a = p
    · subst q; rw [upd_same]; intro z; cases z
    · rw [upd_ne q]; exact R.ft a ps
  · by_cases q : a = p
    · subst q; exact .inr (.inr ⟨vs, upd_same⟩)
    · rw [upd_ne q] at ha; exact .inl ha
/-- a new thing that nobody tracks -/
theorem Rl.newH (R : Rl K ca F m A H) (n : H p = none) : Rl K ca F m A (upd H p u) ∧ Stp F m H F m (upd H p u) := by
  refine ⟨⟨R.fh.trans (Ex.new n), R.len, R.nd, R.fr, fun i o a h1 h2 => (R.ob i o a h1 h2).mono (Ex.refl _) (Pre.refl _) fun w hw => Ex.new n a w hw, R.tb.ext fun b o h => Ex.new n b o h, R.ft⟩, Ex.refl _, Pre.refl _, fun a w h _ _ => Ex.new n a w h, fun a h => .inl h, fun a h => .inl h, fun a h => h.back fun u hu => Ex.new n a u hu, fun a o w h => Ex.new n a _ h⟩
/-- what is there is taken into the plain heap -/
theorem Rl.take (R : Rl K ca F m A H) (n : p ∉ m) (nf : F p = none) (r : ORep K ca F (m ++ [p]) H p o) : Rl K ca F (m ++ [p]) (A ++ [o]) H := by
  refine ⟨R.fh, by simp [R.len], ?_, fun a h => ?_, fun i o' a h1 h2 => ?_, R.tb, R.ft⟩
  · rw [List.nodup_append]
    refine ⟨R.nd, by simp, fun a h b hb e => ?_⟩
    rw [List.mem_singleton] at hb
    exact n (by rw [← hb, ← e]; exact h)
  · rcases List.mem_append.mp h with q | q
    · exact R.fr a q
    · rw [List.mem_singleton] at q; rw [q]; exact nf
  · by_cases q : i < A.length
    · rw [List.getElem?_append_left q] at h1
      rw [List.getElem?_append_left (by rw [R.len]; exact q)] at h2
      exact (R.ob i o' a h1 h2).mono (Ex.refl _) ⟨[p], rfl⟩ fun _ h => h
    · rw [List.getElem?_append_right (Nat.le_of_not_lt q)] at h1
      rw [List.getElem?_append_right (by rw [R.len]; exact Nat.le_of_not_lt q)] at h2
      rw [R.len] at h2
      have e : i - A.length = 0 := by
        have := (List.getElem?_eq_some_iff.mp h1).1
        simp at this; omega
      rw [e] at h1 h2
      cases h1; cases h2; exact r
/-- a new object of the plain heap -/
theorem Rl.alloc (R : Rl K ca F m A H) (n : H p = none) (r : ORep K ca F (m ++ [p]) (upd H p u) p o) : Rl K ca F (m ++ [p]) (A ++ [o]) (upd H p u) ∧ Stp F m H F (m ++ [p]) (upd H p u) ∧ Rep K ca F (m ++ [p]) (.ref p) (.ref A.length) := by
  obtain ⟨R1, g1⟩ := R.newH (u := u) n
  refine ⟨R1.take (R.out n) (R.fh.back n) r, ⟨Ex.refl _, ⟨[p], rfl⟩, g1.kp, g1.gn, fun a h => ?_, g1.th, g1.fz⟩, .ref (by rw [List.getElem?_append_right (by rw [R.len]; exact Nat.le_refl _), R.len]; simp)⟩
  rcases List.mem_append.mp h with q | q
  · exact .inl q
  · rw [List.mem_singleton] at q; exact .inr (by rw [q]; exact .none n)
/-- an object of the plain heap is another one now -/
theorem Rl.put {a : Addr} {o' : O} (R : Rl K ca F m A H) (ha : m[i]? = some a) (nz : ∀ od w, H a ≠ some (.frz od w)) (r : ORep K ca F m (upd H a u) a o') : Rl K ca F m (A.set i o') (upd H a u) ∧ Stp F m H F m (upd H a u) := by
  have hm : a ∈ m := List.mem_of_getElem? ha
  have fa := R.fr a hm
  obtain ⟨w0, e0, o0⟩ := R.ordy ha
  refine ⟨⟨R.fh.right fa, by simp [R.len], R.nd, R.fr, fun j o b h1 h2 => ?_, tabs_upd R.tb e0 o0, R.ft⟩, Ex.refl _, Pre.refl _, fun b w h n _ => ?_, fun a h => .inl h, fun a h => .inl h, fun b h => ?_, fun b od w h => ?_⟩
  · by_cases q : i = j
    · subst q
      rw [ha] at h2; cases h2
      rw [List.getElem?_set] at h1
      split at h1
      · split at h1
        · cases h1; exact r
        · cases h1
      · rename_i z; exact absurd rfl z
    · rw [List.getElem?_set_ne q] at h1
      have nb : b ≠ a := fun z => q (by
        subst z
        exact (List.getElem?_inj (List.getElem?_eq_some_iff.mp ha).1 R.nd).mp (ha.trans h2.symm))
      exact (R.ob j o b h1 h2).mono (Ex.refl _) (Pre.refl _) fun w hw => by rw [upd_ne nb]; exact hw
  · rw [upd_ne fun z => n (by rw [z]; exact hm)]; exact h
  · by_cases q : b = a
    · subst q
      obtain ⟨w1, e1, o1⟩ := r.ordy
      exact (h.no e1 o1).elim
    · exact h.back fun u hu => by rw [upd_ne q]; exact hu
  · rw [upd_ne fun z => nz od w (by rw [← z]; exact h)]; exact h
theorem Rl.at (R : Rl K ca F m A H) (hA : A[i]? = some o) (r : Rep K ca F m v (.ref i)) : ∃ a, v = .ref a ∧ m[i]? = some a ∧ ORep K ca F m H a o := by
  cases r with
  | ref h => exact ⟨_, rfl, h, R.ob i o _ hA h⟩

/-! ### simulations -/
/-- what is wanted behind it, told of the plain end -/
def Po {α β : Type} (K : PySem.W.Frag) (ca : CaT) (Rr : Hp → List Addr → β → α → Prop) (F : Hp) (m : List Addr) (H : Hp) (W : WX) (σ : L2.St) (Q : β → Hp → Prop) : RE α → Prop
  | .ok a A' => ∀ v F' m' H', Rl K ca F' m' A' H' → Stp F m H F' m' H' → Rr F' m' v a → Q v H'
  | .exc C A' => ∀ F' m' H', Rl K ca F' m' A' H' → Stp F m H F' m' H' → W (.ref (ca C)) none σ H'
  | .stuck => False
def Sim {α β : Type} (K : PySem.W.Frag) (ca : CaT) (Rr : Hp → List Addr → β → α → Prop) (W : WX) (te : L2.St → Hp → (β → Hp → Prop) → Prop) (f : Sl → Hs → RE α) : Prop :=
  ∀ F m A σ H env Q, Rl K ca F m A H → Slt K ca F m σ env → Po K ca Rr F m H W σ Q (f env A) → te σ H Q
def ReqI {α : Type} : Hp → List Addr → α → α → Prop := fun _ _ b c => b = c
abbrev SimE (K : PySem.W.Frag) (ca : CaT) (W : WX) (te : TE) (f : E) : Prop := Sim K ca (Rep K ca) W te f
abbrev SimT (K : PySem.W.Frag) (ca : CaT) (W : WX) (te : TT) (f : Tt) : Prop := Sim K ca ReqI W te f
abbrev SimA (K : PySem.W.Frag) (ca : CaT) (W : WX) (te : TA) (f : As) : Prop := Sim K ca (RepL K ca) W te f
abbrev SimO (K : PySem.W.Frag) (ca : CaT) (W : WX) (te : TO) (f : Sl → Hs → RE (Option Int)) : Prop := Sim K ca ReqI W te f
end
section
variable {K : PySem.W.Frag} {ca : CaT} {F F1 F2 H H1 H2 : Hp} {m m1 m2 : List Addr} {A : Hs} {σ : L2.St} {env : Sl} {W : WX}
theorem Po.stp {α β : Type} {Rr : Hp → List Addr → β → α → Prop} {Q : β → Hp → Prop} {r : RE α} (h : Po K ca Rr F m H W σ Q r) (g : Stp F m H F1 m1 H1) : Po K ca Rr F1 m1 H1 W σ Q r := by
  cases r with
  | ok a A' => exact fun v F' m' H' R g' q => h v F' m' H' R (g.trans g') q
  | exc C A' => exact fun F' m' H' R g' => h F' m' H' R (g.trans g')
  | stuck => exact h
theorem Po.imp {α β : Type} {Rr : Hp → List Addr → β → α → Prop} {Q Q' : β → Hp → Prop} {r : RE α} (h : Po K ca Rr F m H W σ Q r) (k : ∀ v H, Q v H → Q' v H) : Po K ca Rr F m H W σ Q' r := by
  cases r with
  | ok a A' => exact fun v F' m' H' R g' q => k _ _ (h v F' m' H' R g' q)
  | exc C A' => exact h
  | stuck => exact h
/-- first f, then g -/
theorem Sim.bind {α β γ δ : Type} {Rr : Hp → List Addr → β → α → Prop} {Rs : Hp → List Addr → δ → γ → Prop} {te : L2.St → Hp → (β → Hp → Prop) → Prop} {f : Sl → Hs → RE α} (h : Sim K ca Rr W te f) (R : Rl K ca F m A H) (S : Slt K ca F m σ env) {g : α → Hs → RE γ}
    {Q : δ → Hp → Prop} {T : β → Hp → Prop} (p : Po K ca Rs F m H W σ Q ((f env A).bind g))
    (k : ∀ F1 m1 A1 H1 x a, Rl K ca F1 m1 A1 H1 → Stp F m H F1 m1 H1 → Slt K ca F1 m1 σ env → Rr F1 m1 x a → Po K ca Rs F1 m1 H1 W σ Q (g a A1) → T x H1) : te σ H T := by
  refine h F m A σ H env T R S ?_
  cases q : f env A with
  | ok a A1 =>
    rw [q] at p
    exact fun v F1 m1 H1 R1 g1 r => k F1 m1 A1 H1 v a R1 g1 (S.stp g1) r (Po.stp p g1)
  | exc C A1 => rw [q] at p; exact p
  | stuck => rw [q] at p; exact p
/-! ### expressions -/
variable {ta tb tc te : TE} {a b c : E} {i : Nat} {d : D} {t u : TT} {ft fu : Tt} {ts : TA} {as : As}
theorem se_var : SimE K ca W (tVar i) (eVar i) := fun F m A σ H env Q R S p => by
  unfold eVar at p
  cases q : env[i]? with
  | none => rw [q] at p; exact p.elim
  | some z =>
    cases z with
    | none => rw [q] at p; exact p.elim
    | some d =>
      rw [q] at p
      obtain ⟨v, h1, h2⟩ := S.val i d q
      exact ⟨v, h1, p v F m H R Stp.refl h2⟩
theorem se_c {v : V} (h : ∀ F m, Rep K ca F m v d) : SimE K ca W (tC v) (eC d) := fun F m A σ H env Q R S p => p v F m H R Stp.refl (h F m)
theorem se_int {n : Int} : SimE K ca W (tC (.int n)) (eC (.int n)) := se_c fun _ _ => .int n
theorem se_bl {c : Bool} : SimE K ca W (tC (.bl c)) (eC (.bl c)) := se_c fun _ _ => .bl c
theorem se_non : SimE K ca W (tC .non) (eC .non) := se_c fun _ _ => .non
theorem se_ty {x : String} : SimE K ca W (tC (.ty x)) (eC (.ty x)) := se_c fun _ _ => .ty x
theorem se_nm {x : String} {a : Addr} (h : ca x = a) : SimE K ca W (tC (.ref a)) (eC (.nm x)) := se_c fun _ _ => h ▸ .nm x
/-- an operator: two operands' values, their data -/
def OpS (K : PySem.W.Frag) (ca : CaT) (r : R2) (o : D → D → Hs → RE D) : Prop := ∀ F m A H x y dx dy W σ Q, Rl K ca F m A H → Rep K ca F m x dx → Rep K ca F m y dy → Po K ca (Rep K ca) F m H W σ Q (o dx dy A) → r x y H Q
theorem se_op {r : R2} {o : D → D → Hs → RE D} (h : OpS K ca r o) (ha : SimE K ca W ta a) (hb : SimE K ca W tb b) : SimE K ca W (tOp r ta tb) (eOp o a b) := fun F m A σ H env Q R S p =>
  ha.bind R S p fun F1 m1 A1 H1 x dx R1 g1 S1 rx p1 => hb.bind R1 S1 p1 fun F2 m2 A2 H2 y dy R2 g2 S2 ry p2 => h F2 m2 A2 H2 x y dx dy W σ Q R2 (rx.mono g2.ff g2.mm) ry p2
def UnS (K : PySem.W.Frag) (ca : CaT) (r : V → Hp → VK → Prop) (o : D → Hs → RE D) : Prop := ∀ F m A H x dx W σ Q, Rl K ca F m A H → Rep K ca F m x dx → Po K ca (Rep K ca) F m H W σ Q (o dx A) → r x H Q
theorem se_un {r : V → Hp → VK → Prop} {o : D → Hs → RE D} (h : UnS K ca r o) (ha : SimE K ca W ta a) : SimE K ca W (tUn r ta) (eUn o a) := fun F m A σ H env Q R S p =>
  ha.bind R S p fun F1 m1 A1 H1 x dx R1 g1 S1 rx p1 => h F1 m1 A1 H1 x dx W σ Q R1 rx p1
theorem sa_nil : SimA K ca W tNil aNil := fun F m A σ H env Q R S p => p [] F m H R Stp.refl .nil
theorem sa_cons (ha : SimE K ca W ta a) (hs : SimA K ca W ts as) : SimA K ca W (tCons ta ts) (aCons a as) := fun F m A σ H env Q R S p =>
  ha.bind R S p fun F1 m1 A1 H1 x dx R1 g1 S1 rx p1 => hs.bind R1 S1 p1 fun F2 m2 A2 H2 xs ds R2 g2 S2 rs p2 => p2 (x :: xs) F2 m2 H2 R2 Stp.refl (.cons (rx.mono g2.ff g2.mm) rs)
def CbS (K : PySem.W.Frag) (ca : CaT) (r : List V → Hp → VK → Prop) (o : List D → Hs → RE D) : Prop := ∀ F m A H xs ds W σ Q, Rl K ca F m A H → RepL K ca F m xs ds → Po K ca (Rep K ca) F m H W σ Q (o ds A) → r xs H Q
theorem se_cb {r : List V → Hp → VK → Prop} {o : List D → Hs → RE D} (h : CbS K ca r o) (hs : SimA K ca W ts as) : SimE K ca W (tCB r ts) (eCB o as) := fun F m A σ H env Q R S p =>
  hs.bind R S p fun F1 m1 A1 H1 xs ds R1 g1 S1 rx p1 => h F1 m1 A1 H1 xs ds W σ Q R1 rx p1
theorem se_and (ha : SimE K ca W ta a) (hb : SimE K ca W tb b) : SimE K ca W (tAndV ta tb) (eAnd a b) := fun F m A σ H env Q R S p =>
  ha.bind R S p fun F1 m1 A1 H1 x dx R1 g1 S1 rx p1 => by
    cases rx with
    | bl c =>
      refine ⟨c, rfl, ?_⟩
      cases c with
      | true => exact hb F1 m1 A1 σ H1 env Q R1 S1 p1
      | false => exact p1 _ F1 m1 H1 R1 Stp.refl (.bl false)
    | _ => exact p1.elim
theorem se_or (ha : SimE K ca W ta a) (hb : SimE K ca W tb b) : SimE K ca W (tOrV ta tb) (eOr a b) := fun F m A σ H env Q R S p =>
  ha.bind R S p fun F1 m1 A1 H1 x dx R1 g1 S1 rx p1 => by
    cases rx with
    | bl c =>
      refine ⟨c, rfl, ?_⟩
      cases c with
      | false => exact hb F1 m1 A1 σ H1 env Q R1 S1 p1
      | true => exact p1 _ F1 m1 H1 R1 Stp.refl (.bl true)
    | _ => exact p1.elim
theorem se_not (ha : SimE K ca W ta a) : SimE K ca W (tNotV ta) (eNot a) := fun F m A σ H env Q R S p =>
  ha.bind R S p fun F1 m1 A1 H1 x dx R1 g1 S1 rx p1 => by
    cases rx with
    | bl c => exact ⟨c, rfl, p1 _ F1 m1 H1 R1 Stp.refl (.bl _)⟩
    | _ => exact p1.elim
theorem se_ch {q q' : R2} {o o' : D → D → Hs → RE D} (h : OpS K ca q o) (h' : OpS K ca q' o') (ha : SimE K ca W ta a) (hb : SimE K ca W tb b) (hc : SimE K ca W tc c) : SimE K ca W (tChain q q' ta tb tc) (eCh o o' a b c) := fun F m A σ H env Q R S p =>
  ha.bind R S p fun F1 m1 A1 H1 x dx R1 g1 S1 rx p1 => hb.bind R1 S1 p1 fun F2 m2 A2 H2 y dy R2 g2 S2 ry p2 => by
    refine h F2 m2 A2 H2 x y dx dy W σ _ R2 (rx.mono g2.ff g2.mm) ry ?_
    cases w : o dx dy A2 with
    | stuck => rw [w] at p2; exact p2
    | exc C A3 => rw [w] at p2; exact p2
    | ok z A3 =>
      rw [w] at p2
      intro v F3 m3 H3 R3 g3 rz
      have p3 := Po.stp p2 g3
      cases rz with
      | bl k =>
        refine ⟨k, rfl, ?_⟩
        cases k with
        | false => exact p3 _ F3 m3 H3 R3 Stp.refl (.bl false)
        | true => exact hc.bind R3 (S2.stp g3) p3 fun F4 m4 A4 H4 w dw R4 g4 S4 rw' p4 => h' F4 m4 A4 H4 y w dy dw W σ Q R4 (ry.mono (g3.ff.trans g4.ff) (g3.mm.trans g4.mm)) rw' p4
      | _ => exact p3.elim
theorem st_test (ha : SimE K ca W ta a) : SimT K ca W (tTest ta) (tOf a) := fun F m A σ H env Q R S p =>
  ha.bind R S p fun F1 m1 A1 H1 x dx R1 g1 S1 rx p1 => by
    cases rx with
    | bl c => exact ⟨c, rfl, p1 _ F1 m1 H1 R1 Stp.refl rfl⟩
    | _ => exact p1.elim
theorem st_b (ha : SimE K ca W ta a) : SimT K ca W (tB ta) (tOf a) := fun F m A σ H env Q R S p =>
  ha.bind R S p fun F1 m1 A1 H1 x dx R1 g1 S1 rx p1 => by
    cases rx with
    | bl c => exact ⟨c, rfl, p1 _ F1 m1 H1 R1 Stp.refl rfl⟩
    | _ => exact p1.elim
theorem st_not (ht : SimT K ca W t ft) : SimT K ca W (tNot t) (tNo ft) := fun F m A σ H env Q R S p =>
  ht.bind R S p fun F1 m1 A1 H1 x dx R1 g1 S1 rx p1 => by
    cases (show x = dx from rx)
    exact p1 _ F1 m1 H1 R1 Stp.refl rfl
theorem st_and (ht : SimT K ca W t ft) (hu : SimT K ca W u fu) : SimT K ca W (tAnd t u) (tAn ft fu) := fun F m A σ H env Q R S p =>
  ht.bind R S p fun F1 m1 A1 H1 x dx R1 g1 S1 rx p1 => by
    cases (show x = dx from rx)
    cases x with
    | true => exact hu F1 m1 A1 σ H1 env Q R1 S1 p1
    | false => exact p1 _ F1 m1 H1 R1 Stp.refl rfl
theorem st_or (ht : SimT K ca W t ft) (hu : SimT K ca W u fu) : SimT K ca W (tOr t u) (tOo ft fu) := fun F m A σ H env Q R S p =>
  ht.bind R S p fun F1 m1 A1 H1 x dx R1 g1 S1 rx p1 => by
    cases (show x = dx from rx)
    cases x with
    | false => exact hu F1 m1 A1 σ H1 env Q R1 S1 p1
    | true => exact p1 _ F1 m1 H1 R1 Stp.refl rfl
theorem st_yes : SimT K ca W tYes tYe := fun F m A σ H env Q R S p => p _ F m H R Stp.refl rfl
theorem se_tup (hs : SimA K ca W ts as) : SimE K ca W (tTup ts) (eTup as) := fun F m A σ H env Q R S p =>
  hs.bind R S p fun F1 m1 A1 H1 xs ds R1 g1 S1 rs p1 => by
    split at p1
    · rename_i hl
      refine ⟨by rw [rs.length]; exact hl, fun q hq => ?_⟩
      obtain ⟨R2, g2⟩ := R1.new (u := .tup xs) hq
      exact p1 _ _ _ _ R2 g2 (.tup upd_same (rs.mono g2.ff g2.mm))
    · exact p1.elim
theorem po_alloc {Q : VK} {p : Addr} {u : HO} {o : O} (R : Rl K ca F m A H) (n : H p = none) (r : ORep K ca F (m ++ [p]) (upd H p u) p o) (h : Po K ca (Rep K ca) F m H W σ Q (alloc A o)) : Q (.ref p) (upd H p u) := by
  obtain ⟨R2, g2, q⟩ := R.alloc n r
  exact h _ _ _ _ R2 g2 q
theorem se_lst (hs : SimA K ca W ts as) : SimE K ca W (tLst ts) (eLst as) := fun F m A σ H env Q R S p =>
  hs.bind R S p fun F1 m1 A1 H1 xs ds R1 g1 S1 rs p1 => by
    split at p1
    · rename_i hl
      exact ⟨by rw [rs.length]; exact hl, fun q hq => po_alloc (o := .lst ds) R1 hq ⟨xs, upd_same, rs.mono (Ex.refl _) ⟨_, rfl⟩⟩ p1⟩
    · exact p1.elim
theorem se_dnewK : SimE K ca W tDNewK (eDNew false) := fun F m A σ H env Q R S p q hq => po_alloc (o := .dic false false []) R hq ⟨[], upd_same, .nil⟩ p
theorem se_dnewT : SimE K ca W tDNewT (eDNew true) := fun F m A σ H env Q R S p q hq => po_alloc (o := .dic true false []) R hq ⟨[], upd_same, .nil⟩ p
theorem so_none : SimO K ca W tNoPart oNo := fun F m A σ H env Q R S p => p _ F m H R Stp.refl rfl
theorem so_some (ha : SimE K ca W ta a) : SimO K ca W (tPart ta) (oSo a) := fun F m A σ H env Q R S p =>
  ha.bind R S p fun F1 m1 A1 H1 x dx R1 g1 S1 rx p1 => by
    cases rx with
    | int i => exact ⟨i, rfl, p1 _ F1 m1 H1 R1 Stp.refl rfl⟩
    | _ => exact p1.elim
def SlS (K : PySem.W.Frag) (ca : CaT) (r : V → Option Int → Option Int → Hp → VK → Prop) (o : D → Option Int → Option Int → Hs → RE D) : Prop := ∀ F m A H x dx lo hi W σ Q, Rl K ca F m A H → Rep K ca F m x dx → Po K ca (Rep K ca) F m H W σ Q (o dx lo hi A) → r x lo hi H Q
theorem se_sl {r : V → Option Int → Option Int → Hp → VK → Prop} {o : D → Option Int → Option Int → Hs → RE D} {tl th : TO} {fl fh : Sl → Hs → RE (Option Int)} (h : SlS K ca r o) (ha : SimE K ca W ta a) (hl : SimO K ca W tl fl) (hh : SimO K ca W th fh) : SimE K ca W (tSl r ta tl th) (eSl o a fl fh) := fun F m A σ H env Q R S p =>
  ha.bind R S p fun F1 m1 A1 H1 x dx R1 g1 S1 rx p1 => hl.bind R1 S1 p1 fun F2 m2 A2 H2 lo lo' R2 g2 S2 rl p2 => hh.bind R2 S2 p2 fun F3 m3 A3 H3 hi hi' R3 g3 S3 rh p3 => by
    cases (show lo = lo' from rl)
    cases (show hi = hi' from rh)
    exact h F3 m3 A3 H3 x dx lo hi W σ Q R3 (rx.mono (g2.ff.trans g3.ff) (g2.mm.trans g3.mm)) p3

/-! ### promises -/
def PoF (K : PySem.W.Frag) (ca : CaT) (F : Hp) (m : List Addr) (H : Hp) (Q : VK) (E : XK) : RE D → Prop
  | .ok a A' => ∀ v F' m' H', Rl K ca F' m' A' H' → Stp F m H F' m' H' → Rep K ca F' m' v a → Q v H'
  | .exc C A' => ∀ F' m' H', Rl K ca F' m' A' H' → Stp F m H F' m' H' → E (.ref (ca C)) none H'
  | .stuck => False
/-- THE PROMISE: it does what the plain function does -/
def SpF (K : PySem.W.Frag) (ca : CaT) (f : Fn) : Sp := fun vs H Q E => ∃ F m A ds, Rl K ca F m A H ∧ RepL K ca F m vs ds ∧ PoF K ca F m H Q E (f ds A)
theorem pof_po {Q : VK} {r : RE D} (h : Po K ca (Rep K ca) F m H W σ Q r) : PoF K ca F m H Q (WE W σ) r := by
  cases r <;> exact h
theorem pof_noX {Q : VK} {X : XK} {r : RE D} (h : Po K ca (Rep K ca) F m H W σ Q r.noX) : PoF K ca F m H Q X r := by
  cases r with
  | ok a A => exact h
  | exc C A => exact h.elim
  | stuck => exact h.elim
theorem se_call {f : Fn} (hs : SimA K ca W ts as) : SimE K ca W (tCallS (SpF K ca f) (WE W) ts) (eCall f as) := fun F m A σ H env Q R S p =>
  hs.bind R S p fun F1 m1 A1 H1 xs ds R1 g1 S1 rs p1 => ⟨F1, m1, A1, ds, R1, rs, pof_po p1⟩
theorem se_call0 {f : Fn} {X : XK} (hs : SimA K ca W ts as) : SimE K ca W (tCall (SpF K ca f) [] X ts) (eCall0 f as) := fun F m A σ H env Q R S p =>
  hs.bind R S p fun F1 m1 A1 H1 xs ds R1 g1 S1 rs p1 => ⟨F1, m1, A1, ds, R1, by rw [List.append_nil]; exact rs, pof_noX p1⟩

/-! ### fields -/
theorem fS_look {f : String} : ∀ {l : List (Str × V)} {s : List (String × D)}, FdR K ca F m l s → (∀ d, s.lookup f = some d → ∃ v, l.lookup (fS f) = some v ∧ Rep K ca F m v d) ∧ (s.lookup f = none → l.lookup (fS f) = none)
  | _, _, .nil => ⟨fun d h => by simp at h, fun _ => rfl⟩
  | _, _, .cons (f := g) (v := v) (d := e) h r => by
    have ih := fS_look (f := f) r
    by_cases q : f = g
    · subst q
      refine ⟨fun d z => ?_, fun z => ?_⟩
      · rw [List.lookup_cons_self] at z; cases z
        exact ⟨v, by rw [List.lookup_cons_self], h⟩
      · rw [List.lookup_cons_self] at z; cases z
    · have q1 : (f == g) = false := by simpa using q
      have q2 : (fS f == fS g) = false := by
        rw [beq_eq_false_iff_ne]
        exact fun z => q (fS_inj.mp z)
      refine ⟨fun d z => ?_, fun z => ?_⟩
      · rw [List.lookup_cons, q1] at z
        obtain ⟨w, h1, h2⟩ := ih.1 d z
        exact ⟨w, by rw [List.lookup_cons, q2]; exact h1, h2⟩
      · rw [List.lookup_cons, q1] at z
        rw [List.lookup_cons, q2]; exact ih.2 z
end
end SM

/-! ## methods that may raise -/
namespace L2
open PySem PySem.Spec PyProof.Rows
def tMethX (C : Addr) (m : Str) (sp : Sp) (E : St → XK) (ta : TE) (t : TA) : TE := fun σ H Q => ta σ H fun x H1 => ∃ a dx fs, x = .ref a ∧ H1 a = some (.ins C dx fs) ∧ fs.lookup m = none ∧
  t σ H1 fun vs H2 => sp (x :: vs) H2 Q (E σ)
section
variable {X : Cx} {CX : CXT} {k : Nat} {f C : Addr} {fd : FuncData} {ps : List Str} {sp : Sp} {E : St → XK} {x m : Str} {p pos apos : Pos} {e o : Expr} {es : List Expr} {ta : TE} {t : TA}
theorem pe_methX {pl : Sem Bool} (he : PE X o ta) (c : Cls X.K C) (hm : Meth X.K C m f) (F : FnOk X.prog X.w X.K X.mg X.base CX k f fd ps sp) (hr : Room k X.A) (hb : Binds X.K fd ps []) (hx : ∀ σ, PassesAt CX X σ (E σ)) (ha : PA X (e :: es) t)
    (hst : starEach (e :: es) X.env = (false, eval e X.env) :: starEach es X.env := by rfl) (hpl : (backTo pos (starEach es X.env)).any (·.1) = false := by rfl)
    (ht : eval (.Call (.Attribute o m apos) (e :: es) [] pos) X.env = (do
      let ov ← eval o X.env
      standAt apos.atName
      let (f, first) ← holding [ov] (getMethod ov m pl)
      callWith pos f first (backTo pos (starEach (e :: es) X.env)) (backToKw pos (keywordEach [] X.env))) := by rfl) :
    PE X (.Call (.Attribute o m apos) (e :: es) [] pos) (tMethX C m sp E ta t) := by
  refine ⟨fun pins s σ H Q I h => ?_⟩
  refine PySem.W.methodCall_KW (pl := pl) (thn (he.run pins s σ H _ I h) fun u s1 ⟨x, H1, I1, rx, a, dx, fs, ex, ea, l, q⟩ => ?_) ht
  subst ex
  obtain rfl : u = Value.ref a := rx
  refine getmeth_ok I1 ea c hm l ?_
  refine PySem.W.callWith_K (first := [.ref a]) (h₀ := X.base) I.ok.mod.kin hm.kp (thn (ha.run pos pins s1 σ H1 _ I1 q) fun us s2 ⟨vs, H2, I2, r, q2⟩ => ⟨I2.kIn, ?_⟩) hst hpl
  exact run_fnS (us := .ref a :: us) (vs := .ref a :: vs) F hr hb (hx σ) I2 (.cons rfl r) q2
/-- o.m() -/
theorem pe_methX0 {pl : Sem Bool} (he : PE X o ta) (c : Cls X.K C) (hm : Meth X.K C m f) (F : FnOk X.prog X.w X.K X.mg X.base CX k f fd ps sp) (hr : Room k X.A) (hb : Binds X.K fd ps []) (hx : ∀ σ, PassesAt CX X σ (E σ))
    (ht : eval (.Call (.Attribute o m apos) [] [] pos) X.env = (do
      let ov ← eval o X.env
      standAt apos.atName
      let (f, first) ← holding [ov] (getMethod ov m pl)
      callWith pos f first (backTo pos (starEach [] X.env)) (backToKw pos (keywordEach [] X.env))) := by rfl) :
    PE X (.Call (.Attribute o m apos) [] [] pos) (tMethX C m sp E ta tNil) := by
  refine ⟨fun pins s σ H Q I h => ?_⟩
  refine PySem.W.methodCall_KW (pl := pl) (thn (he.run pins s σ H _ I h) fun u s1 ⟨x, H1, I1, rx, a, dx, fs, ex, ea, l, q⟩ => ?_) ht
  subst ex
  obtain rfl : u = Value.ref a := rx
  refine getmeth_ok I1 ea c hm l ?_
  exact PySem.W.callWith_K0 (first := [.ref a]) I1.kIn hm.kp (run_fnS (us := [.ref a]) (vs := [.ref a]) F hr hb (hx σ) I1 (.cons rfl .nil) q)
theorem PE.or {X : Cx} {e : Expr} {t u : TE} (h1 : PE X e t) (h2 : PE X e u) : PE X e (fun σ H Q => t σ H Q ∨ u σ H Q) := ⟨fun pins s σ H Q I h => by
  rcases h with h | h
  · exact h1.run pins s σ H Q I h
  · exact h2.run pins s σ H Q I h⟩
theorem PS.or {X : Cx} {st : Stmt} {t u : TS} (h1 : PS X st t) (h2 : PS X st u) : PS X st (fun D σ H => t D σ H ∨ u D σ H) := ⟨fun pins s σ H D I h => by
  rcases h with h | h
  · exact h1.run pins s σ H D I h
  · exact h2.run pins s σ H D I h⟩
end
end L2
/-! ## fields, calls, statements -/
namespace SM
open PySem L2
open DL (Ex ExK tRaise tTry tTryO)
section
variable {K : PySem.W.Frag} {ca : CaT} {F F1 F2 H H1 H2 : Hp} {m m1 m2 : List Addr} {A A1 A2 : Hs} {σ : L2.St} {env : Sl} {W : WX}
variable {ta tb tc te : TE} {a b c : E} {i : Nat} {d : D} {t u : TT} {ft fu : Tt} {ts : TA} {as : As} {x : V} {dx : D} {C : String} {fs : List (String × D)} {cs : List String}
theorem obj_at (R : Rl K ca F m A H) (r : Rep K ca F m x dx) (h : objAt A dx = some (C, fs)) : ∃ i a dxx kvs, dx = .ref i ∧ x = .ref a ∧ m[i]? = some a ∧ A[i]? = some (.obj C fs) ∧ H a = some (.ins (ca C) dxx kvs) ∧ FdR K ca F m kvs fs := by
  cases dx with
  | ref i =>
    unfold objAt at h
    cases q : A[i]? with
    | none => simp [q] at h
    | some o =>
      cases o with
      | obj C' fs' =>
        simp [q] at h
        obtain ⟨rfl, rfl⟩ := h
        obtain ⟨a, e, ha, dxx, kvs, h1, h2⟩ := R.at q r
        exact ⟨i, a, dxx, kvs, rfl, e, ha, q, h1, h2⟩
      | lst _ => simp [q] at h
      | dic _ _ _ => simp [q] at h
  | _ => simp [objAt] at h
/-- the classes cs, that know no name f -/
def NoF (K : PySem.W.Frag) (ca : CaT) (cs : List String) (f : Str) : Prop := AllC (fun C => Cls K (ca C) ∧ NoAttr K (ca C) f) cs
theorem getFld_at {f : String} {f' : Str} (hf : f' = fS f) (R : Rl K ca F m A H) (r : Rep K ca F m x dx) (kc : NoF K ca cs f') (h : getFld cs f A dx = some d) : ∃ a C dxx kvs v, C ∈ cs ∧ x = .ref a ∧ H a = some (.ins (ca C) dxx kvs) ∧ Cls K (ca C) ∧ NoAttr K (ca C) f' ∧ kvs.lookup f' = some v ∧ Rep K ca F m v d := by
  unfold getFld at h
  cases q : objAt A dx with
  | none => rw [q] at h; cases h
  | some z =>
    obtain ⟨C, fs⟩ := z
    rw [q] at h
    simp only at h
    split at h
    · rename_i hc
      obtain ⟨i, a, dxx, kvs, e1, e2, h1, h2, h3, h4⟩ := obj_at R r q
      obtain ⟨v, h5, h6⟩ := (fS_look (f := f) h4).1 d h
      have kk := AllC.of kc hc
      exact ⟨a, C, dxx, kvs, v, hc, e2, h3, kk.1, kk.2, by rw [hf]; exact h5, h6⟩
    · cases h
theorem se_fld {f : String} {f' : Str} (hf : f' = fS f) (kc : NoF K ca cs f') (ha : SimE K ca W ta a) : SimE K ca W (tFld K ta f') (eFld cs f a) := fun F m A σ H env Q R S p =>
  ha.bind R S p fun F1 m1 A1 H1 x dx R1 g1 S1 rx p1 => by
    cases q : getFld cs f A1 dx with
    | none => simp only [q] at p1; exact p1.elim
    | some d =>
      simp only [q] at p1
      obtain ⟨a, C, dxx, kvs, v, _, e, h1, h2, h3, h4, h5⟩ := getFld_at hf R1 rx kc q
      exact ⟨a, ca C, dxx, kvs, v, e, h1, h2, h3, h4, p1 v F1 m1 H1 R1 Stp.refl h5⟩
theorem putF_rep {f : String} {v : V} (hv : Rep K ca F m v d) : ∀ {kvs : List (Str × V)} {fs : List (String × D)}, FdR K ca F m kvs fs → FdR K ca F m (L2.putF (fS f) v kvs) (putF f d fs)
  | _, _, .nil => .cons hv .nil
  | _, _, .cons (f := g) h r => by
    unfold L2.putF SM.putF
    by_cases q : g = f
    · subst q; rw [if_pos rfl, if_pos rfl]; exact .cons hv r
    · rw [if_neg q, if_neg (fun z => q (fS_inj.mp z))]; exact .cons h (putF_rep hv r)
theorem setFld_at {f : String} {f' : Str} {v : V} (hf : f' = fS f) (R : Rl K ca F m A H) (r : Rep K ca F m x dx) (rv : Rep K ca F m v d) (kc : NoF K ca cs f') (h : setFld cs A dx f d = some A2) :
    ∃ a C dxx kvs, C ∈ cs ∧ x = .ref a ∧ H a = some (.ins (ca C) dxx kvs) ∧ Cls K (ca C) ∧ NoAttr K (ca C) f' ∧ kvs.length < 999 ∧ Rl K ca F m A2 (upd H a (.ins (ca C) dxx (L2.putF f' v kvs))) ∧ Stp F m H F m (upd H a (.ins (ca C) dxx (L2.putF f' v kvs))) := by
  unfold setFld at h
  cases dx with
  | ref i =>
    simp only at h
    cases q : A[i]? with
    | none => simp [q] at h
    | some o =>
      cases o with
      | obj C fs =>
        simp only [q] at h
        split at h
        · rename_i hc
          cases h
          obtain ⟨a, e, ha, dxx, kvs, h1, h2⟩ := R.at q r
          have kk := AllC.of kc hc.1
          obtain ⟨R2, g2⟩ := R.put (u := .ins (ca C) dxx (L2.putF f' v kvs)) (o' := .obj C (putF f d fs)) ha (fun od w z => by rw [h1] at z; cases z) ⟨dxx, _, upd_same, by rw [hf]; exact putF_rep rv h2⟩
          exact ⟨a, C, dxx, kvs, hc.1, e, h1, kk.1, kk.2, by rw [h2.length]; exact hc.2, R2, g2⟩
        · cases h
      | lst _ => simp [q] at h
      | dic _ _ _ => simp [q] at h
  | _ => simp at h

/-! ### statements -/
def PoS (K : PySem.W.Frag) (ca : CaT) (F : Hp) (m : List Addr) (H : Hp) (W : WX) (Dn : Ends) : RS → Prop
  | .nx e A' => ∀ F' m' σ' H', Rl K ca F' m' A' H' → Stp F m H F' m' H' → Slt K ca F' m' σ' e → Dn.nx σ' H'
  | .bk e A' => ∀ F' m' σ' H', Rl K ca F' m' A' H' → Stp F m H F' m' H' → Slt K ca F' m' σ' e → Dn.bk σ' H'
  | .ct e A' => ∀ F' m' σ' H', Rl K ca F' m' A' H' → Stp F m H F' m' H' → Slt K ca F' m' σ' e → Dn.ct σ' H'
  | .rt d A' => ∀ v F' m' H', Rl K ca F' m' A' H' → Stp F m H F' m' H' → Rep K ca F' m' v d → Dn.rt v H'
  | .exc C e A' => ∀ F' m' σ' H', Rl K ca F' m' A' H' → Stp F m H F' m' H' → Slt K ca F' m' σ' e → W (.ref (ca C)) none σ' H'
  | .stuck => False
def SimS (K : PySem.W.Frag) (ca : CaT) (W : WX) (t : TS) (f : S) : Prop := ∀ F m A σ H env Dn, Rl K ca F m A H → Slt K ca F m σ env → PoS K ca F m H W Dn (f env A) → t Dn σ H
variable {s1 s2 s : TS} {f1 f2 f : S} {Dn : Ends}
theorem PoS.stp {r : RS} (h : PoS K ca F m H W Dn r) (g : Stp F m H F1 m1 H1) : PoS K ca F1 m1 H1 W Dn r := by
  cases r with
  | nx e A' => exact fun F' m' σ' H' R g' q => h F' m' σ' H' R (g.trans g') q
  | bk e A' => exact fun F' m' σ' H' R g' q => h F' m' σ' H' R (g.trans g') q
  | ct e A' => exact fun F' m' σ' H' R g' q => h F' m' σ' H' R (g.trans g') q
  | rt d A' => exact fun v F' m' H' R g' q => h v F' m' H' R (g.trans g') q
  | exc C e A' => exact fun F' m' σ' H' R g' q => h F' m' σ' H' R (g.trans g') q
  | stuck => exact h
/-- the value of an expression, then a statement's rest -/
theorem ofE_bind {k : D → Hs → RS} {T : VK} (h : SimE K ca W te a) (R : Rl K ca F m A H) (S : Slt K ca F m σ env) (p : PoS K ca F m H W Dn (ofE env (a env A) k))
    (kk : ∀ F1 m1 A1 H1 x d, Rl K ca F1 m1 A1 H1 → Stp F m H F1 m1 H1 → Slt K ca F1 m1 σ env → Rep K ca F1 m1 x d → PoS K ca F1 m1 H1 W Dn (k d A1) → T x H1) : te σ H T := by
  refine h F m A σ H env T R S ?_
  cases q : a env A with
  | ok d A1 =>
    rw [q] at p
    exact fun v F1 m1 H1 R1 g1 r => kk F1 m1 A1 H1 v d R1 g1 (S.stp g1) r (PoS.stp p g1)
  | exc C A1 => rw [q] at p; exact fun F1 m1 H1 R1 g1 => p F1 m1 σ H1 R1 g1 (S.stp g1)
  | stuck => rw [q] at p; exact p
theorem ofT_bind {k : Bool → Hs → RS} {T : Bool → Hp → Prop} (h : SimT K ca W t ft) (R : Rl K ca F m A H) (S : Slt K ca F m σ env) (p : PoS K ca F m H W Dn (ofT env (ft env A) k))
    (kk : ∀ F1 m1 A1 H1 c, Rl K ca F1 m1 A1 H1 → Stp F m H F1 m1 H1 → Slt K ca F1 m1 σ env → PoS K ca F1 m1 H1 W Dn (k c A1) → T c H1) : t σ H T := by
  refine h F m A σ H env T R S ?_
  cases q : ft env A with
  | ok d A1 =>
    rw [q] at p
    intro v F1 m1 H1 R1 g1 r
    cases (show v = d from r)
    exact kk F1 m1 A1 H1 d R1 g1 (S.stp g1) (PoS.stp p g1)
  | exc C A1 => rw [q] at p; exact fun F1 m1 H1 R1 g1 => p F1 m1 σ H1 R1 g1 (S.stp g1)
  | stuck => rw [q] at p; exact p
theorem ss_seq (h1 : SimS K ca W s1 f1) (h2 : SimS K ca W s2 f2) : SimS K ca W (tSeq s1 s2) (sSeq f1 f2) := fun F m A σ H env Dn R S p => by
  refine h1 F m A σ H env { Dn with nx := s2 Dn } R S ?_
  unfold sSeq at p
  cases q : f1 env A with
  | nx e A1 =>
    rw [q] at p
    exact fun F' m' σ' H' R' g' S' => h2 F' m' A1 σ' H' e Dn R' S' (PoS.stp p g')
  | bk e A1 => rw [q] at p; exact p
  | ct e A1 => rw [q] at p; exact p
  | rt d A1 => rw [q] at p; exact p
  | exc C e A1 => rw [q] at p; exact p
  | stuck => rw [q] at p; exact p
theorem ss_next : SimS K ca W tNext sNx := fun F m A σ H env Dn R S p => p F m σ H R Stp.refl S
theorem ss_drop (h : SimE K ca W te a) : SimS K ca W (tDrop te) (sDrop a) := fun F m A σ H env Dn R S p => ofE_bind h R S p fun F1 m1 A1 H1 x d R1 g1 S1 rx p1 => p1 F1 m1 σ H1 R1 Stp.refl S1
theorem ss_ret (h : SimE K ca W te a) : SimS K ca W (tRet te) (sRet a) := fun F m A σ H env Dn R S p => ofE_bind h R S p fun F1 m1 A1 H1 x d R1 g1 S1 rx p1 => p1 x F1 m1 H1 R1 Stp.refl rx
theorem ss_if (ht : SimT K ca W t ft) (h1 : SimS K ca W s1 f1) (h2 : SimS K ca W s2 f2) : SimS K ca W (tIfS t s1 s2) (sIf ft f1 f2) := fun F m A σ H env Dn R S p => ofT_bind ht R S p fun F1 m1 A1 H1 c R1 g1 S1 p1 => by
  cases c with
  | true => exact h1 F1 m1 A1 σ H1 env Dn R1 S1 p1
  | false => exact h2 F1 m1 A1 σ H1 env Dn R1 S1 p1
theorem ss_set (h : SimE K ca W te a) : SimS K ca W (tAsg te (gName i)) (sSet i a) := fun F m A σ H env Dn R S p => ofE_bind h R S p fun F1 m1 A1 H1 x d R1 g1 S1 rx p1 => p1 F1 m1 _ H1 R1 Stp.refl (S1.set rx)
/-- targets: slots js alone change -/
def SimG (K : PySem.W.Frag) (ca : CaT) (g : TG) (f : G) (js : List Nat) : Prop := ∀ F m A σ H env v d env', Rl K ca F m A H → Slt K ca F m σ env → Rep K ca F m v d → f d env A = some env' → ∀ Q : L2.St → Hp → Prop,
  (∀ σ', Slt K ca F m σ' env' → σ'.length = σ.length → (∀ i : Nat, i ∉ js → σ'[i]? = σ[i]?) → Q σ' H) → g v σ H Q
def SimGs (K : PySem.W.Frag) (ca : CaT) (g : TGs) (f : List G) (js : List Nat) : Prop := ∀ F m A σ H env vs ds env', Rl K ca F m A H → Slt K ca F m σ env → RepL K ca F m vs ds → gAll f ds env A = some env' → ∀ Q : L2.St → Hp → Prop,
  (∀ σ', Slt K ca F m σ' env' → σ'.length = σ.length → (∀ i : Nat, i ∉ js → σ'[i]? = σ[i]?) → Q σ' H) → g vs σ H Q
theorem sg_name : SimG K ca (gName i) (gN i) [i] := fun F m A σ H env v d env' R S r h Q k => by
  cases h
  exact k _ (S.set r) (by simp) fun j hj => by rw [List.getElem?_set_ne (by intro z; exact hj (by simp [z]))]
theorem sgs_nil : SimGs K ca gNil [] [] := fun F m A σ H env vs ds env' R S r h Q k => by
  cases r with
  | nil => cases h; exact ⟨rfl, k σ S rfl fun _ _ => rfl⟩
  | cons _ _ => cases h
theorem sgs_cons {g : TG} {gs : TGs} {f : G} {fs : List G} {js ks : List Nat} (h : SimG K ca g f js) (hs : SimGs K ca gs fs ks) : SimGs K ca (gCons g gs) (f :: fs) (js ++ ks) := fun F m A σ H env vs ds env' R S r e Q k => by
  cases r with
  | nil => cases e
  | cons r1 r2 =>
    rename_i v vs d ds
    unfold gAll at e
    cases q : f d env A with
    | none => rw [q] at e; cases e
    | some env1 =>
      rw [q] at e
      refine ⟨v, vs, rfl, h F m A σ H env v d env1 R S r1 q _ fun σ1 S1 l1 k1 => hs F m A σ1 H env1 vs ds env' R S1 r2 e Q fun σ2 S2 l2 k2 => k σ2 S2 (l2.trans l1) fun i hi => ?_⟩
      rw [k2 i (fun z => hi (List.mem_append_right _ z)), k1 i (fun z => hi (List.mem_append_left _ z))]
theorem gAll_len : ∀ {fs : List G} {ds : List D} {env env' : Sl} {A : Hs}, gAll fs ds env A = some env' → ds.length = fs.length
  | [], [], _, _, _, _ => rfl
  | g :: gs, d :: ds, env, env', A, h => by
    unfold gAll at h
    cases q : g d env A with
    | none => rw [q] at h; cases h
    | some e => rw [q] at h; rw [List.length_cons, List.length_cons, gAll_len h]
  | [], _ :: _, _, _, _, h => by cases h
  | _ :: _, [], _, _, _, h => by cases h
theorem sg_tup {gs : TGs} {fs : List G} {js : List Nat} {n : Nat} (h : SimGs K ca gs fs js) (hn : fs.length = n) : SimG K ca (gTup K n gs) (gT fs) js := fun F m A σ H env v d env' R S r e Q k => by
  cases r with
  | tup s p =>
    have e' : gAll fs _ env A = some env' := e
    exact ⟨_, _, rfl, .inl (.inl (R.fh _ _ s)), by rw [p.length, gAll_len e', hn], h F m A σ H env _ _ env' R S p e' Q k⟩
  | _ => cases e
theorem ss_asg {g : TG} {gf : G} {js : List Nat} (h : SimE K ca W te a) (hg : SimG K ca g gf js) : SimS K ca W (tAsg te g) (sAsg a gf) := fun F m A σ H env Dn R S p => ofE_bind h R S p fun F1 m1 A1 H1 x d R1 g1 S1 rx p1 => by
  cases q : gf d env A1 with
  | none => simp only [q] at p1; exact p1.elim
  | some env' =>
    simp only [q] at p1
    exact hg F1 m1 A1 σ H1 env x d env' R1 S1 rx q _ fun σ' S' _ _ => p1 F1 m1 σ' H1 R1 Stp.refl S'
/-- x op= e -/
def IpS (K : PySem.W.Frag) (ca : CaT) (r : TIp) (o : D → D → Hs → RE D) : Prop := ∀ F m A H x y dx dy W σ Q, Rl K ca F m A H → Rep K ca F m x dx → Rep K ca F m y dy → Po K ca (Rep K ca) F m H W σ Q (o dx dy A) → r x y H Q
theorem po_ofE {k : D → Hs → RS} {T : VK} {r : RE D} (S : Slt K ca F m σ env) (p : PoS K ca F m H W Dn (ofE env r k)) (kk : ∀ F1 m1 A1 H1 x d, Rl K ca F1 m1 A1 H1 → Stp F m H F1 m1 H1 → Slt K ca F1 m1 σ env → Rep K ca F1 m1 x d → PoS K ca F1 m1 H1 W Dn (k d A1) → T x H1) : Po K ca (Rep K ca) F m H W σ T r := by
  cases r with
  | ok d A1 => exact fun v F1 m1 H1 R1 g1 r => kk F1 m1 A1 H1 v d R1 g1 (S.stp g1) r (PoS.stp p g1)
  | exc C A1 => exact fun F1 m1 H1 R1 g1 => p F1 m1 σ H1 R1 g1 (S.stp g1)
  | stuck => exact p
theorem ss_aug {r : TIp} {o : D → D → Hs → RE D} (ho : IpS K ca r o) (h : SimE K ca W te a) : SimS K ca W (tAug i te r) (sAug i o a) := fun F m A σ H env Dn R S p => by
  unfold sAug at p
  cases q : env[i]? with
  | none => rw [q] at p; exact p.elim
  | some z =>
    cases z with
    | none => rw [q] at p; exact p.elim
    | some dx =>
      rw [q] at p
      obtain ⟨x, h1, h2⟩ := S.val i dx q
      refine ⟨x, h1, ofE_bind h R S p fun F1 m1 A1 H1 y dy R1 g1 S1 ry p1 => ?_⟩
      exact ho F1 m1 A1 H1 x y dx dy W σ _ R1 (h2.mono g1.ff g1.mm) ry (po_ofE S1 p1 fun F2 m2 A2 H2 z dz R2 g2 S2 rz p2 => p2 F2 m2 _ H2 R2 Stp.refl (S2.set rz))
theorem ss_fl {f : String} {f' : Str} {tv : TE} (hf : f' = fS f) (kc : NoF K ca cs f') (ho : SimE K ca W ta a) (hv : SimE K ca W tv b) : SimS K ca W (sFld K ta tv f') (sFl cs f a b) := fun F m A σ H env Dn R S p =>
  ofE_bind hv R S p fun F1 m1 A1 H1 y dy R1 g1 S1 ry p1 => ofE_bind ho R1 S1 p1 fun F2 m2 A2 H2 x dx R2 g2 S2 rx p2 => by
    cases q : setFld cs A2 dx f dy with
    | none => simp only [q] at p2; exact p2.elim
    | some A3 =>
      simp only [q] at p2
      obtain ⟨a, C, dxx, kvs, _, e, h1, h2, h3, h4, R3, g3⟩ := setFld_at hf R2 rx (ry.mono g2.ff g2.mm) kc q
      exact ⟨a, ca C, dxx, kvs, e, h1, h2, h3, by omega, p2 F2 m2 σ _ R3 g3 S2⟩
theorem ss_raise {C : String} {Ca : Addr} (h : ca C = Ca) : SimS K ca W (tRaise W Ca) (sRaise C) := fun F m A σ H env Dn R S p => by
  subst h; exact p F m σ H R Stp.refl S
/-! ### loops -/
theorem ss_while (ht : SimT K ca W t ft) (h : SimS K ca W s f) : SimS K ca W (tWhile t s) (sWh ft f) := fun F m A σ H env Dn R S p => by
  have hx : ∃ n, whN ft f n env A ≠ .stuck := by
    by_cases q : ∃ n, whN ft f n env A ≠ .stuck
    · exact q
    · unfold sWh at p; rw [dif_neg q] at p; exact p.elim
  obtain ⟨n, hn⟩ := hx
  rw [sWh_eq hn] at p
  refine ⟨fun n σ' H' => ∃ F' m' A' env', Rl K ca F' m' A' H' ∧ Slt K ca F' m' σ' env' ∧ PoS K ca F' m' H' W Dn (whN ft f n env' A'), ⟨n, F, m, A, env, R, S, p⟩, ?_⟩
  rintro n σ' H' ⟨F', m', A', env', R', S', p'⟩
  cases n with
  | zero => exact p'.elim
  | succ n =>
    unfold whN at p'
    refine ofT_bind ht R' S' p' fun F1 m1 A1 H1 c R1 g1 S1 p1 => ?_
    cases c with
    | false => exact p1 F1 m1 σ' H1 R1 Stp.refl S1
    | true =>
      refine ⟨fun σ2 H2 => ∃ F2 m2 A2 env2, Rl K ca F2 m2 A2 H2 ∧ Slt K ca F2 m2 σ2 env2 ∧ PoS K ca F2 m2 H2 W Dn (whN ft f n env2 A2), fun σ2 H2 z => ⟨n, Nat.lt_succ_self n, z⟩, ?_⟩
      refine h F1 m1 A1 σ' H1 env' _ R1 S1 ?_
      simp only [if_true] at p1
      cases q : f env' A1 with
      | nx e A2 => rw [q] at p1; exact fun F2 m2 σ2 H2 R2 g2 S2 => ⟨F2, m2, A2, e, R2, S2, PoS.stp p1 g2⟩
      | ct e A2 => rw [q] at p1; exact fun F2 m2 σ2 H2 R2 g2 S2 => ⟨F2, m2, A2, e, R2, S2, PoS.stp p1 g2⟩
      | bk e A2 => rw [q] at p1; exact p1
      | rt d A2 => rw [q] at p1; exact p1
      | exc C e A2 => rw [q] at p1; exact p1
      | stuck => rw [q] at p1; exact p1
/-- what is walked -/
def PoW (K : PySem.W.Frag) (ca : CaT) (F : Hp) (m : List Addr) (H : Hp) (W : WX) (σ : L2.St) (R : It → Hp → Prop) : RE Wk → Prop
  | .ok k A' => ∀ J F' m' H', Rl K ca F' m' A' H' → Stp F m H F' m' H' → (∃ (G : Hp → Prop) (Y : Nat → Hp → V → Hp → Prop), Walk J k.ds.length G Y ∧
      (∀ F2 m2 A2 H2, k.gd A2 → Rl K ca F2 m2 A2 H2 → Stp F' m' H' F2 m2 H2 → G H2) ∧
      ∀ i d x F2 m2 A2 H2 H3, k.ds[i]? = some d → k.gd A2 → Rl K ca F2 m2 A2 H2 → Stp F' m' H' F2 m2 H2 → Y i H2 x H3 → (H3 = H2 ∧ Rep K ca F2 m2 x d) ∨ (∃ T vs l, d = .tup l ∧ x = .ref T ∧ H2 T = none ∧ H3 = upd H2 T (.tup vs) ∧ RepL K ca F2 m2 vs l) ∨ (∃ T vs l, d = .tup l ∧ x = .ref T ∧ H2 T = some (.tup vs) ∧ H3 = H2 ∧ RepL K ca F2 m2 vs l) ∨ (∃ F3, Rl K ca F3 m2 A2 H3 ∧ Stp F2 m2 H2 F3 m2 H3 ∧ Rep K ca F3 m2 x d)) → R J H'
  | .exc C A' => ∀ F' m' H', Rl K ca F' m' A' H' → Stp F m H F' m' H' → W (.ref (ca C)) none σ H'
  | .stuck => False
def SimI (K : PySem.W.Frag) (ca : CaT) (W : WX) (wi : TI) (f : Sl → Hs → RE Wk) : Prop := ∀ F m A σ H env R, Rl K ca F m A H → Slt K ca F m σ env → PoW K ca F m H W σ R (f env A) → wi σ H R
theorem ss_for {wi : TI} {w : Sl → Hs → RE Wk} {g : TG} {gf : G} {js : List Nat} (hi : SimI K ca W wi w) (hg : SimG K ca g gf js) (h : SimS K ca W s f) : SimS K ca W (tFor wi g s) (sFor w gf f) := fun F m A σ H env Dn R S p => by
  refine hi F m A σ H env _ R S ?_
  unfold sFor at p
  cases q : w env A with
  | stuck => rw [q] at p; exact p
  | exc C A1 => rw [q] at p; exact fun F1 m1 H1 R1 g1 => p F1 m1 σ H1 R1 g1 (S.stp g1)
  | ok k A1 =>
    rw [q] at p
    rintro J F1 m1 H1 R1 g1 ⟨G, Y, wk, hG, hY⟩
    refine for_it wk (fun i σ' H' => ∃ F' m' A' env', Rl K ca F' m' A' H' ∧ Slt K ca F' m' σ' env' ∧ Stp F1 m1 H1 F' m' H' ∧ PoS K ca F' m' H' W Dn (forL gf f k.gd (k.ds.drop i) env' A')) ⟨F1, m1, A1, env, R1, S.stp g1, Stp.refl, PoS.stp p g1⟩ ?_ ?_ ?_
    · rintro i σ' H' hi ⟨F', m', A', env', R', S', g', p'⟩
      refine hG F' m' A' H' ?_ R' g'
      cases z : k.ds.drop i with
      | nil => rw [z] at p'; unfold forL at p'; split at p'; assumption; exact p'.elim
      | cons d ds => rw [z] at p'; unfold forL at p'; split at p'; assumption; exact p'.elim
    · rintro i x σ2 H2 H3 hlt ⟨F2, m2, A2, env2, R2, S2, g2, p2⟩ y
      rw [List.drop_eq_getElem_cons hlt] at p2
      have gd2 : k.gd A2 := by
        by_cases z : k.gd A2
        · exact z
        · unfold forL at p2; rw [if_neg z] at p2; exact p2.elim
      have st3 : ∃ F3, Rl K ca F3 m2 A2 H3 ∧ Stp F2 m2 H2 F3 m2 H3 ∧ Rep K ca F3 m2 x k.ds[i] := by
        rcases hY i k.ds[i] x F2 m2 A2 H2 H3 (by simp [hlt]) gd2 R2 g2 y with ⟨e, rp⟩ | ⟨T, vs, l, q1, q2, q3, q4, q5⟩ | ⟨T, vs, l, q1, q2, q3, q4, q5⟩ | w3
        · subst e; exact ⟨F2, R2, Stp.refl, rp⟩
        · subst q4
          rw [q1, q2]
          obtain ⟨R3, g3⟩ := R2.new (u := .tup vs) q3
          exact ⟨_, R3, g3, .tup upd_same (q5.mono g3.ff g3.mm)⟩
        · subst q4
          rw [q1, q2]
          obtain ⟨F3, R3, g3, hT⟩ := R2.catch q3
          exact ⟨F3, R3, g3, .tup hT (q5.mono g3.ff g3.mm)⟩
        · exact w3
      obtain ⟨F3, R3, g3, rp⟩ := st3
      have p3 := PoS.stp p2 g3
      unfold forL at p3
      rw [if_pos gd2] at p3
      cases z : gf k.ds[i] env2 A2 with
      | none => rw [z] at p3; exact p3.elim
      | some env3 =>
        rw [z] at p3
        refine hg F3 m2 A2 σ2 H3 env2 x k.ds[i] env3 R3 (S2.stp g3) rp z _ fun σ3 S3 _ _ => ?_
        refine h F3 m2 A2 σ3 H3 env3 _ R3 S3 ?_
        cases y : f env3 A2 with
        | nx e A4 => simp only [y] at p3; exact fun F4 m4 σ4 H4 R4 g4 S4 => ⟨F4, m4, A4, e, R4, S4, (g2.trans g3).trans g4, PoS.stp p3 g4⟩
        | ct e A4 => simp only [y] at p3; exact fun F4 m4 σ4 H4 R4 g4 S4 => ⟨F4, m4, A4, e, R4, S4, (g2.trans g3).trans g4, PoS.stp p3 g4⟩
        | bk e A4 => simp only [y] at p3; exact p3
        | rt d A4 => simp only [y] at p3; exact p3
        | exc C e A4 => simp only [y] at p3; exact p3
        | stuck => simp only [y] at p3; exact p3
    · rintro σ' H' ⟨F', m', A', env', R', S', g', p'⟩
      rw [List.drop_length] at p'
      unfold forL at p'
      split at p'
      · exact p' F' m' σ' H' R' Stp.refl S'
      · exact p'.elim
end
end SM

/-! ## comprehensions, new instances, methods, defs -/
namespace SM
open PySem L2
open DL (Ex ExK)
section
variable {K : PySem.W.Frag} {ca : CaT} {F F1 F2 H H1 H2 : Hp} {m m1 m2 : List Addr} {A A1 A2 : Hs} {σ : L2.St} {env : Sl} {W : WX}
variable {ta tb tc te : TE} {a b c : E} {i : Nat} {d : D} {t u : TT} {ft fu : Tt} {ts : TA} {as : As} {x : V} {dx : D} {C : String} {fs : List (String × D)} {cs : List String}
theorem Slt.wiped (S : Slt K ca F m σ env) : ∀ vs : List Nat, Slt K ca F m (L2.wipe σ vs) (wipeS env vs)
  | [] => S
  | v :: vs => (Slt.wiped S vs).unset
theorem wipe_same {σ : L2.St} {σ2 : L2.St} {vs js : List Nat} (hj : ∀ j ∈ js, j ∈ vs) (l4 : σ2.length = (L2.wipe σ vs).length) (q4 : ∀ i : Nat, i ∉ js → σ2[i]? = (L2.wipe σ vs)[i]?) : L2.wipe σ2 vs = L2.wipe σ vs := by
  have len : ∀ (a : L2.St) (us : List Nat), (L2.wipe a us).length = a.length := fun a us => wipe_length a us
  have inn : ∀ (a : L2.St) (us : List Nat) (n : Nat), n ∈ us → n < a.length → (L2.wipe a us)[n]? = some none := fun a us => by
    induction us with
    | nil => intro n h _; simp at h
    | cons v us ih =>
      intro n h hl
      unfold L2.wipe
      by_cases z : v = n
      · subst z; rw [List.getElem?_set_self (by rw [len]; exact hl)]
      · rw [List.getElem?_set_ne z]
        exact ih n (by simp only [List.mem_cons] at h; rcases h with h | h; exact absurd h.symm z; exact h) hl
  apply List.ext_getElem?
  intro n
  by_cases z : n ∈ vs
  · by_cases hl : n < σ.length
    · rw [inn σ2 vs n z (by rw [l4, len]; exact hl), inn σ vs n z hl]
    · rw [List.getElem?_eq_none (by rw [len, l4, len]; omega), List.getElem?_eq_none (by rw [len]; omega)]
  · rw [DL.wipe_out z, q4 n (fun y => z (hj n y)), DL.wipe_out z]
theorem se_lc {wi : TI} {w : Sl → Hs → RE Wk} {g : TG} {gf : G} {js vs : List Nat} {W2 : WX} (hi : SimI K ca W wi w) (hg : SimG K ca g gf js) (hj : ∀ j ∈ js, j ∈ vs) (ht : SimT K ca W2 t ft) (ha : SimE K ca W2 ta a) : SimE K ca W (tLc wi g t ta vs) (eLc w gf ft a vs) := fun F m A σ H env Q R S p => by
  refine hi F m A σ H env _ R S ?_
  unfold eLc at p
  cases q : w env A with
  | stuck => rw [q] at p; exact p
  | exc C A1 => rw [q] at p; exact p
  | ok k A1 =>
    rw [q] at p
    rintro J F1 m1 H1 R1 g1 ⟨G, Y, wk, hG, hY⟩ Dl hD
    have p := Po.stp (r := match lcL gf ft a k.gd (wipeS env vs) k.ds [] A1 with
      | .ok l A2 => alloc A2 (.lst l)
      | _ => .stuck) p g1
    obtain ⟨R2, g2⟩ := R1.newH (u := .lst []) hD
    -- the plain run from turn i
    let run := fun (i : Nat) (acc : List D) (A' : Hs) => match lcL gf ft a k.gd (wipeS env vs) (k.ds.drop i) acc A' with
      | .ok l A2 => alloc A2 (.lst l)
      | _ => RE.stuck
    refine lc_it wk (fun i H' => ∃ F' m' A' acc ws, Rl K ca F' m' A' H' ∧ Stp F1 m1 H1 F' m' H' ∧ H' Dl = some (.lst ws) ∧ Dl ∉ m' ∧ F' Dl = none ∧ RepL K ca F' m' ws acc ∧ Po K ca (Rep K ca) F1 m1 H1 W σ Q (run i acc A')) ?_ ?_ ?_ ?_
    · exact ⟨F1, m1, A1, [], [], R2, g2, upd_same, R1.out hD, R1.fh.back hD, .nil, p⟩
    · rintro i H' hi ⟨F', m', A', acc, ws, R', g', d1, d2, d3, rs, p'⟩
      refine hG F' m' A' H' ?_ R' g'
      show k.gd A'
      dsimp only [run] at p'
      cases z : k.ds.drop i with
      | nil =>
        rw [z] at p'; unfold lcL at p'
        by_cases y : k.gd A'
        · exact y
        · rw [if_neg y] at p'; exact p'.elim
      | cons d ds =>
        rw [z] at p'; unfold lcL at p'
        by_cases y : k.gd A'
        · exact y
        · rw [if_neg y] at p'; exact p'.elim
    · rintro i x H2 H3 hlt ⟨F2, m2, A2, acc, ws, R2, g2, d1, d2, d3, rs, p2⟩ y
      have gd2 : k.gd A2 := by
        dsimp only [run] at p2
        rw [List.drop_eq_getElem_cons hlt] at p2
        by_cases z : k.gd A2
        · exact z
        · unfold lcL at p2; rw [if_neg z] at p2; exact p2.elim
      have st3 : ∃ F3, Rl K ca F3 m2 A2 H3 ∧ Stp F2 m2 H2 F3 m2 H3 ∧ Rep K ca F3 m2 x k.ds[i] ∧ H3 Dl = some (.lst ws) ∧ F3 Dl = none := by
        rcases hY i k.ds[i] x F2 m2 A2 H2 H3 (by simp [hlt]) gd2 R2 g2 y with ⟨e, rp⟩ | ⟨T, us, l, q1, q2, q3, q4, q5⟩ | ⟨T, us, l, q1, q2, q3, q4, q5⟩ | ⟨F3, R3, g3, rp⟩
        · subst e; exact ⟨F2, R2, Stp.refl, rp, d1, d3⟩
        · subst q4
          rw [q1, q2]
          obtain ⟨R3, g3⟩ := R2.new (u := .tup us) q3
          have nT : Dl ≠ T := fun z => by rw [← z, d1] at q3; cases q3
          exact ⟨_, R3, g3, .tup upd_same (q5.mono g3.ff g3.mm), by rw [upd_ne nT]; exact d1, by rw [upd_ne nT]; exact d3⟩
        · subst q4
          rw [q1, q2]
          obtain ⟨F3, R3, g3, hT⟩ := R2.catch q3
          refine ⟨F3, R3, g3, .tup hT (q5.mono g3.ff g3.mm), d1, ?_⟩
          cases w : F3 Dl with
          | none => rfl
          | some v => have := R3.fh Dl v w; rw [d1] at this; cases this; exact (g3.gn Dl (by rw [w]; simp)).elim (fun z => absurd d3 z) fun z => z.elim (fun z => (z.no d1 trivial).elim) fun ⟨xs, z⟩ => by rw [w] at z; cases z
        · have d1' : H3 Dl = some (.lst ws) := g3.kp Dl _ d1 d2 (fun ps z => by cases z)
          refine ⟨F3, R3, g3, rp, d1', ?_⟩
          cases w : F3 Dl with
          | none => rfl
          | some v => have := R3.fh Dl v w; rw [d1'] at this; cases this; exact (g3.gn Dl (by rw [w]; simp)).elim (fun z => absurd d3 z) fun z => z.elim (fun z => (z.no d1 trivial).elim) fun ⟨xs, z⟩ => by rw [w] at z; cases z
      obtain ⟨F3, R3, g3, rp, e1, e3⟩ := st3
      have rs3 := rs.mono g3.ff g3.mm
      have p3 := p2
      dsimp only [run] at p3
      rw [List.drop_eq_getElem_cons hlt] at p3
      unfold lcL at p3
      by_cases gd : k.gd A2
      · rw [if_pos gd] at p3
        cases z : gf k.ds[i] (wipeS env vs) A2 with
        | none => rw [z] at p3; exact p3.elim
        | some env3 =>
          rw [z] at p3
          have S3 := (((S.stp g1).stp g2).stp g3).wiped vs
          refine hg F3 m2 A2 (L2.wipe σ vs) H3 _ x k.ds[i] env3 R3 S3 rp z _ fun σ3 S4 l4 k4 => ?_
          refine ⟨wipe_same hj l4 k4, ?_⟩
          -- what a step keeps of the new list
          have keep : ∀ {F' m' A' H'}, Rl K ca F' m' A' H' → Stp F3 m2 H3 F' m' H' → H' Dl = some (.lst ws) ∧ Dl ∉ m' ∧ F' Dl = none := fun R' g' => by
            have h1 := g'.kp Dl _ e1 d2 (by intro _ z; cases z)
            refine ⟨h1, fun z => ?_, ?_⟩
            · rcases g'.gm Dl z with y | y
              · exact d2 y
              · exact y.no e1 trivial
            · rename_i F' m' A' H'
              cases w : F' Dl with
              | none => rfl
              | some v =>
                rcases g'.gn Dl (by rw [w]; simp) with y | y | ⟨xs, y⟩
                · exact absurd e3 y
                · exact (y.no e1 trivial).elim
                · have := R'.fh Dl _ y
                  rw [h1] at this; cases this
          refine ht F3 m2 A2 σ3 H3 env3 _ R3 S4 ?_
          cases y : ft env3 A2 with
          | stuck => simp only [y] at p3; exact p3.elim
          | exc C A4 => simp only [y] at p3; exact p3.elim
          | ok bb A4 =>
            intro v F4 m4 H4 R4 g4 ev
            cases (show v = bb from ev)
            cases bb with
            | false =>
              simp only [y] at p3
              obtain ⟨f1, f2, f3⟩ := keep R4 g4
              exact ⟨F4, m4, A4, acc, ws, R4, (g2.trans g3).trans g4, f1, f2, f3, rs3.mono g4.ff g4.mm, p3⟩
            | true =>
              simp only [y] at p3
              have p4 := p3
              refine ha F4 m4 A4 σ3 H4 env3 _ R4 (S4.stp g4) ?_
              cases y2 : a env3 A4 with
              | stuck => simp only [y2] at p4; exact p4.elim
              | exc C A5 => simp only [y2] at p4; exact p4.elim
              | ok dz A5 =>
                simp only [y2] at p4
                by_cases hl : acc.length < sizeLine
                · rw [if_pos hl] at p4
                  intro v F5 m5 H5 R5 g5 rv
                  obtain ⟨f1, f2, f3⟩ := keep R5 (g4.trans g5)
                  refine ⟨ws, f1, by rw [rs.length]; exact hl, ?_⟩
                  have rs5 := rs3.mono (g4.trans g5).ff (g4.trans g5).mm
                  -- the new list grows
                  have ne : ∀ a, a ∈ m5 → a ≠ Dl := fun a ha z => f2 (by rw [← z]; exact ha)
                  have R6 : Rl K ca F5 m5 A5 (upd H5 Dl (.lst (ws ++ [v]))) := ⟨R5.fh.right f3, R5.len, R5.nd, R5.fr, fun j o b h1 h2 => (R5.ob j o b h1 h2).mono (Ex.refl _) (Pre.refl _) fun w hw => by
                    rw [upd_ne (ne b (List.mem_of_getElem? h2))]; exact hw, tabs_upd R5.tb f1 trivial, R5.ft⟩
                  have nD0 : H1 Dl = none := hD
                  have gA : Stp F1 m1 H1 F5 m5 H5 := ((g2.trans g3).trans g4).trans g5
                  have gB : Stp F1 m1 H1 F5 m5 (upd H5 Dl (.lst (ws ++ [v]))) := ⟨gA.ff, gA.mm, fun b w h n nt => by
                      rw [upd_ne fun z => by rw [z, nD0] at h; cases h]; exact gA.kp b w h n nt, gA.gn, gA.gm, fun b h => by
                      by_cases w : b = Dl
                      · rw [w]; exact .none nD0
                      · exact gA.th b (h.back fun u hu => by rw [upd_ne w]; exact hu), fun b od w h => by
                      rw [upd_ne fun z => by rw [z, nD0] at h; cases h]; exact gA.fz b od w h⟩
                  refine ⟨F5, m5, A5, acc ++ [dz], ws ++ [v], R6, gB, upd_same, f2, f3, rs5.append (.cons rv .nil), p4⟩
                · rw [if_neg hl] at p4; exact p4.elim
      · rw [if_neg gd] at p3; exact p3.elim
    · rintro H' ⟨F', m', A', acc, ws, R', g', d1, d2, d3, rs, p'⟩
      dsimp only [run] at p'
      rw [List.drop_length] at p'
      unfold lcL at p'
      by_cases gd : k.gd A'
      · rw [if_pos gd] at p'
        have R2 := R'.take (o := .lst acc) d2 d3 ⟨ws, d1, rs.mono (Ex.refl _) ⟨_, rfl⟩⟩
        refine p' (.ref Dl) F' (m' ++ [Dl]) H' R2 ⟨g'.ff, g'.mm.trans ⟨_, rfl⟩, g'.kp, g'.gn, fun b h => ?_, g'.th, g'.fz⟩ (.ref (by rw [List.getElem?_append_right (by rw [R'.len]; exact Nat.le_refl _), R'.len]; simp))
        rcases List.mem_append.mp h with z | z
        · exact g'.gm b z
        · rw [List.mem_singleton] at z; rw [z]; exact .inr (.none hD)
      · rw [if_neg gd] at p'; exact p'.elim

/-! ### new instances -/
theorem make_sim {f : Fn} {vs : List V} {ds : List D} {Q : VK} {X : XK} {x dx : Addr} (R1 : Rl K ca F m A H) (rs : RepL K ca F m vs ds) (hx : H x = none) (hdx : H dx = none) (hne : dx ≠ x) (p : PoF K ca F m H Q X (make C f ds A)) :
    SpF K ca f (.ref x :: vs) (upd (upd H dx (.own x)) x (.ins (ca C) dx [])) (fun v H2 => v = .non ∧ Q (.ref x) H2) X := by
  obtain ⟨R2, g2⟩ := R1.newH (u := .own x) hdx
  have hx2 : (upd H dx (.own x)) x = none := by rw [upd_ne (Ne.symm hne)]; exact hx
  obtain ⟨R3, g3, r3⟩ := R2.alloc (u := .ins (ca C) dx []) (o := .obj C []) hx2 ⟨dx, [], upd_same, .nil⟩
  have g := g2.trans g3
  refine ⟨F, m ++ [x], A ++ [.obj C []], .ref A.length :: ds, R3, .cons r3 (rs.mono g.ff g.mm), ?_⟩
  unfold make at p
  cases q : f (.ref A.length :: ds) (A ++ [.obj C []]) with
  | stuck => rw [q] at p; exact p
  | exc Ce A2 => rw [q] at p; exact fun F' m' H' R' g' => p F' m' H' R' (g.trans g')
  | ok d A2 =>
    rw [q] at p
    intro v F' m' H' R' g' rv
    cases rv with
    | non => exact ⟨rfl, p (.ref x) F' m' H' R' (g.trans g') (r3.mono g'.ff g'.mm)⟩
    | _ => exact p.elim
theorem se_make {f : Fn} (hs : SimA K ca W ts as) : SimE K ca W (tMakeS (ca C) (SpF K ca f) (WE W) ts) (eMake C f as) := fun F m A σ H env Q R S p =>
  hs.bind R S p fun F1 m1 A1 H1 xs ds R1 g1 S1 rs p1 => fun x dx hx hdx hne => make_sim R1 rs hx hdx hne (pof_po p1)
theorem se_make0 {f : Fn} {X : XK} (hs : SimA K ca W ts as) : SimE K ca W (tMake (ca C) (SpF K ca f) [] X ts) (eMake0 C f as) := fun F m A σ H env Q R S p =>
  hs.bind R S p fun F1 m1 A1 H1 xs ds R1 g1 S1 rs p1 => fun x dx hx hdx hne => by
    rw [List.append_nil]
    exact make_sim R1 rs hx hdx hne (pof_noX p1)

/-! ### methods, by the classes at hand -/
theorem methX_sim {f : Fn} {mm : String} {mm' : Str} {Q : VK} {X : XK} (hf : mm' = fS mm) (R : Rl K ca F m A H) (S : Slt K ca F m σ env) (hs : SimA K ca W ts as) (rx : Rep K ca F m x dx) {fs : List (String × D)} (ho : objAt A dx = some (C, fs)) (hn : fs.lookup mm = none)
    {k : RE D → RE D} (hk : ∀ {F1 m1 H1 r}, Po K ca (Rep K ca) F1 m1 H1 W σ Q (k r) → PoF K ca F1 m1 H1 Q X r)
    (p : Po K ca (Rep K ca) F m H W σ Q ((as env A).bind fun ds A2 => k (f (dx :: ds) A2))) : ∃ a dxx kvs, x = .ref a ∧ H a = some (.ins (ca C) dxx kvs) ∧ kvs.lookup mm' = none ∧ ts σ H fun vs H2 => SpF K ca f (x :: vs) H2 Q X := by
  obtain ⟨i, a, dxx, kvs, e1, e2, h1, h2, h3, h4⟩ := obj_at R rx ho
  refine ⟨a, dxx, kvs, e2, h3, by rw [hf]; exact (fS_look (f := mm) h4).2 hn, ?_⟩
  exact hs.bind R S p fun F1 m1 A1 H1 xs ds R1 g1 S1 rs p1 => ⟨F1, m1, A1, dx :: ds, R1, .cons (rx.mono g1.ff g1.mm) rs, hk p1⟩
theorem methOf_one {mm : String} {C : String} {f f' : Fn} {A : Hs} {x : D} (q : methOf mm [(C, f)] A x = some f') : f' = f ∧ ∃ fs, objAt A x = some (C, fs) ∧ fs.lookup mm = none := by
  unfold methOf at q
  cases z : objAt A x with
  | none => rw [z] at q; cases q
  | some w =>
    obtain ⟨C', fs⟩ := w
    rw [z] at q
    simp only at q
    split at q
    · cases q
    · rename_i hn
      rw [List.lookup_cons] at q
      cases y : (C' == C) with
      | false => rw [y] at q; cases q
      | true =>
        rw [y] at q
        cases q
        have e := eq_of_beq y
        subst e
        exact ⟨rfl, fs, rfl, by cases w : fs.lookup mm with
          | none => rfl
          | some _ => rw [w] at hn; exact absurd rfl hn⟩
theorem meth_one {mm : String} {mm' : Str} {f : Fn} (hf : mm' = fS mm) (ho : SimE K ca W ta a) (hs : SimA K ca W ts as) : SimE K ca W (tMethX (ca C) mm' (SpF K ca f) (WE W) ta ts) (eMeth mm [(C, f)] a as) := fun F m A σ H env Q R S p =>
  ho.bind R S p fun F1 m1 A1 H1 x dx R1 g1 S1 rx p1 => by
    cases q : methOf mm [(C, f)] A1 dx with
    | none => simp only [q] at p1; exact p1.elim
    | some f' =>
      simp only [q] at p1
      obtain ⟨rfl, fs, z, hn⟩ := methOf_one q
      exact methX_sim (k := fun r => r) hf R1 S1 hs rx z hn pof_po p1
end

/-! ### defs -/
section
variable {P : Program} {w : World} {K : PySem.W.Frag} {ca : CaT} {mg : Str → Option Value} {base : Heap} {x qn : Str} {st : Stmt} {fa : Addr} {fd : FuncData} {N ps : List Str} {k : Nat}
theorem spF_len {n mm : Nat} {b : S} {vs : List V} {H : Hp} {Q : VK} {E : XK} (h : SpF K ca (mkFn n mm b) vs H Q E) : vs.length = n := by
  obtain ⟨F, m, A, ds, R, rs, p⟩ := h
  rw [rs.length]
  unfold mkFn at p
  split at p
  · assumption
  · exact p.elim
theorem run_SpF {n : Nat} {b : S} {t : TS} {vs : List V} {H : Hp} {Q : VK} {E : XK} (h : SpF K ca (mkFn n N.length b) vs H Q E) (hb : SimS K ca (fun cls d _ H => E cls d H) t b) : t { nx := fun _ H' => Q .non H', rt := Q } (L2.start N vs) H := by
  have hl := spF_len h
  obtain ⟨F, m, A, ds, R, rs, p⟩ := h
  have hn : ds.length = n := by rw [← rs.length, hl]
  unfold mkFn at p
  rw [if_pos hn] at p
  have S : Slt K ca F m (L2.start N vs) (ds.map some ++ List.replicate (N.length - n) none) := by
    refine ⟨by unfold L2.start; simp [hl, hn], fun i d h => ?_⟩
    by_cases hi : i < ds.length
    · rw [List.getElem?_append_left (by simpa using hi), List.getElem?_map] at h
      cases z : ds[i]? with
      | none => rw [z] at h; cases h
      | some d' =>
        rw [z] at h; cases h
        obtain ⟨v, h1, h2⟩ := rs.get z
        refine ⟨v, ?_, h2⟩
        unfold L2.start
        have hv : i < vs.length := (List.getElem?_eq_some_iff.mp h1).1
        rw [List.getElem?_append_left (by simpa using hv), List.getElem?_map, h1]; rfl
    · rw [List.getElem?_append_right (by simpa using Nat.le_of_not_lt hi)] at h
      obtain ⟨h1, h2⟩ := List.getElem?_eq_some_iff.mp h
      rw [List.getElem_replicate] at h2
      cases h2
  refine hb F m A _ H _ _ R S ?_
  cases q : b (ds.map some ++ List.replicate (N.length - n) none) A with
  | nx e A' => rw [q] at p; exact fun F' m' σ' H' R' g' S' => p .non F' m' H' R' g' .non
  | rt d A' => rw [q] at p; exact p
  | exc C e A' => rw [q] at p; exact fun F' m' σ' H' R' g' S' => p F' m' H' R' g'
  | bk e A' => rw [q] at p; exact p.elim
  | ct e A' => rw [q] at p; exact p.elim
  | stuck => rw [q] at p; exact p.elim
/-- a def that may raise -/
theorem Fn.ofF {n : Nat} {b : S} (F : Fun K x qn st fa fd) (S : FnScope N ps (defScope st)) (hn : ps.length = n)
    (body : ∀ (cdv : Value) (A : Around) (outer : List PySem.Env) (s : Shared) (H : Hp) (E : XK), Room k (A.deeper (PyProof.Rows.envOfC qn (defScope st) s.heap.objs.size fa cdv)) →
      ∃ t, PSs (cxOf (L2.CX P w) P w K mg base N qn (defScope st) fa cdv A outer s H E) (defBody st) t ∧ SimS K ca (fun cls d _ H => E cls d H) t b) : FnOk P w K mg base (L2.CX P w) (k + 1) fa fd ps (SpF K ca (mkFn n N.length b)) :=
  F.okX S (fun vs H Q E h => by rw [hn]; exact spF_len h) fun cdv A outer s H vs Q E hr h => by
    obtain ⟨t, h1, h2⟩ := body cdv A outer s H E hr
    exact ⟨t, h1, run_SpF h h2⟩
/-- a def that lets nothing out -/
theorem Fn.ofF0 {n : Nat} {b : S} (F : Fun K x qn st fa fd) (S : FnScope N ps (defScope st)) (hn : ps.length = n)
    (body : ∀ (cdv : Value) (A : Around) (outer : List PySem.Env) (s : Shared) (H : Hp) (E : XK), Room k (A.deeper (PyProof.Rows.envOfC qn (defScope st) s.heap.objs.size fa cdv)) →
      ∃ t, PSs (cxOf CX0 P w K mg base N qn (defScope st) fa cdv A outer s H E).nox (defBody st) t ∧ SimS K ca (fun cls d _ H => E cls d H) t b) : FnOk P w K mg base CX0 (k + 1) fa fd ps (SpF K ca (mkFn n N.length b)) :=
  F.ok S (fun vs H Q E h => by rw [hn]; exact spF_len h) fun cdv A outer s H vs Q E hr h => by
    obtain ⟨t, h1, h2⟩ := body cdv A outer s H E hr
    exact ⟨t, h1, run_SpF h h2⟩
end
/-! ### methods by name -/
structure Mt (P : Program) (w : World) (K : PySem.W.Frag) (mg : Str → Option Value) (base : Heap) (k : Nat) (C : Addr) (mm : Str) (sp : Sp) : Prop where
  ex : ∃ (f : Addr) (fd : FuncData) (ps : List Str), Meth K C mm f ∧ FnOk P w K mg base (L2.CX P w) k f fd ps sp ∧ Binds K fd ps []
theorem Mt.of {P : Program} {w : World} {K : PySem.W.Frag} {mg : Str → Option Value} {base : Heap} {k : Nat} {C fa : Addr} {mm : Str} {fd : FuncData} {ps : List Str} {sp : Sp} (M : Meth K C mm fa) (h : FnOk P w K mg base (L2.CX P w) k fa fd ps sp) (b : Binds K fd ps []) : Mt P w K mg base k C mm sp := ⟨fa, fd, ps, M, h, b⟩
section
variable {X : Cx} {W : WX} {k j : Nat} {x mm : Str} {C : Addr} {sp : Sp} {p pos apos : Pos} {o e : Expr} {es : List Expr} {t : TA} {ta : TE}
theorem pe_mtX {pl : Sem Bool} (c : Mt X.prog X.w X.K X.mg X.base k C mm sp) (tk : Takes X W) (hr : Room j X.A) (hk : k ≤ j) (cl : Cls X.K C) (he : PE X o ta) (ha : PA X (e :: es) t)
    (hst : starEach (e :: es) X.env = (false, eval e X.env) :: starEach es X.env := by rfl) (hpl : (backTo pos (starEach es X.env)).any (·.1) = false := by rfl)
    (ht : eval (.Call (.Attribute o mm apos) (e :: es) [] pos) X.env = (do
      let ov ← eval o X.env
      standAt apos.atName
      let (f, first) ← holding [ov] (getMethod ov mm pl)
      callWith pos f first (backTo pos (starEach (e :: es) X.env)) (backToKw pos (keywordEach [] X.env))) := by rfl) :
    PE X (.Call (.Attribute o mm apos) (e :: es) [] pos) (tMethX C mm sp (WE W) ta t) := by
  obtain ⟨f, fd, ps, M, F, b⟩ := c.ex
  exact pe_methX he cl M F (hr.mono hk) b (fun σ => passAt tk σ) ha hst hpl ht
theorem pe_mtX0 {pl : Sem Bool} (c : Mt X.prog X.w X.K X.mg X.base k C mm sp) (tk : Takes X W) (hr : Room j X.A) (hk : k ≤ j) (cl : Cls X.K C) (he : PE X o ta)
    (ht : eval (.Call (.Attribute o mm apos) [] [] pos) X.env = (do
      let ov ← eval o X.env
      standAt apos.atName
      let (f, first) ← holding [ov] (getMethod ov mm pl)
      callWith pos f first (backTo pos (starEach [] X.env)) (backToKw pos (keywordEach [] X.env))) := by rfl) :
    PE X (.Call (.Attribute o mm apos) [] [] pos) (tMethX C mm sp (WE W) ta tNil) := by
  obtain ⟨f, fd, ps, M, F, b⟩ := c.ex
  exact pe_methX0 he cl M F (hr.mono hk) b (fun σ => passAt tk σ) ht
open DL (Dx)
end
end SM

/-! ## == and in, of data of any texts -/
namespace L2
open PySem PySem.Spec PyProof.Rows
/-- two lists of different lengths -/
def UnL (H : Hp) (x y : V) : Prop := ∃ a b xs ys, x = .ref a ∧ y = .ref b ∧ H a = some (.lst xs) ∧ H b = some (.lst ys) ∧ xs.length ≠ ys.length
def rEqP (K : PySem.W.Frag) : R2 := fun x y H Q => (∃ d e, Dp K H x d ∧ Dp K H y e ∧ d.plain = true ∧ e.plain = true ∧ d.depth ≤ 60 ∧ Q (.bl (PyData.eqv d e)) H) ∨ (UnL H x y ∧ Q (.bl false) H)
def rNeP (K : PySem.W.Frag) : R2 := fun x y H Q => (∃ d e, Dp K H x d ∧ Dp K H y e ∧ d.plain = true ∧ e.plain = true ∧ d.depth ≤ 60 ∧ Q (.bl (!PyData.eqv d e)) H) ∨ (UnL H x y ∧ Q (.bl true) H)
theorem op_eqP {X : Cx} (hu : X.A.units + 64 < cLine) : OpR X (compareOp .Eq) (rEqP X.K) := by
  intro pins s σ H x y v u Q I rx ry h
  rcases h with ⟨d, e, hd, he, sd, se, dp, q⟩ | ⟨⟨a, b, xs, ys, rfl, rfl, ha, hb, hl⟩, q⟩
  · obtain ⟨as, r1⟩ := Dp.reads I d x v hd rx
    obtain ⟨bs, r2⟩ := Dp.reads I e y u he ry
    exact PySem.SeqAt.eq_plain r1 r2 sd se (by omega) ⟨.bl _, H, I, rfl, q⟩
  · cases (show v = Value.ref a from rx)
    cases (show u = Value.ref b from ry)
    obtain ⟨us, r1, p1, _⟩ := I.list (.inl (.inl ha))
    obtain ⟨ws, r2, p2, _⟩ := I.list (.inl (.inl hb))
    refine PySem.SeqAt.eq_list_lengthsAt p1.isList p2.isList ?_ (by omega) ⟨.bl _, H, I, rfl, q⟩
    rw [List.size_toArray, List.size_toArray, ← r1.length, ← r2.length]
    simpa using hl
theorem op_neP {X : Cx} (hu : X.A.units + 64 < cLine) : OpR X (compareOp .NotEq) (rNeP X.K) := by
  intro pins s σ H x y v u Q I rx ry h
  rcases h with ⟨d, e, hd, he, sd, se, dp, q⟩ | ⟨⟨a, b, xs, ys, rfl, rfl, ha, hb, hl⟩, q⟩
  · obtain ⟨as, r1⟩ := Dp.reads I d x v hd rx
    obtain ⟨bs, r2⟩ := Dp.reads I e y u he ry
    exact PySem.SeqAt.ne_plain r1 r2 sd se (by omega) ⟨.bl _, H, I, rfl, q⟩
  · cases (show v = Value.ref a from rx)
    cases (show u = Value.ref b from ry)
    obtain ⟨us, r1, p1, _⟩ := I.list (.inl (.inl ha))
    obtain ⟨ws, r2, p2, _⟩ := I.list (.inl (.inl hb))
    refine PySem.SeqAt.RcNeAt.lists_lengths p1.isList p2.isList ?_ (by omega) X.prog X.w _ _ ⟨.bl _, H, I, rfl, q⟩
    rw [List.size_toArray, List.size_toArray, ← r1.length, ← r2.length]
    simpa using hl
end L2
namespace SM
open PySem L2
open DL (Ex ExK rAddU rSubU rMulA rDivU rModU rPowU rShlU rShrU rAndU rOrU rXorU rLtU rLeU rGtU rGeU rIsU rNotU)

/-! ### data read as Python's -/
def allSome {α : Type} : List (Option α) → Option (List α)
  | [] => some []
  | some a :: r => (allSome r).map (a :: ·)
  | none :: _ => none
def pyA (A : Hs) : Nat → D → Option PyData
  | _, .non => some .none
  | _, .bl b => some (.bool b)
  | _, .int i => some (.int i)
  | _, .str x => some (.str x)
  | n + 1, .tup l => (allSome (l.map (pyA A n))).map .tuple
  | n + 1, .wt l => (allSome (l.map (pyA A n))).map .tuple
  | n + 1, .scr l => (allSome (l.map (pyA A n))).map .list
  | n + 1, .ref i => match A[i]? with
    | some (.lst l) => (allSome (l.map (pyA A n))).map .list
    | _ => none
  | _, _ => none

/-- two lists of different lengths -/
def unL (A : Hs) (x y : D) : Option Bool := match x, y with
  | .ref i, .ref j => match A[i]?, A[j]? with
    | some (.lst l), some (.lst k) => if l.length = k.length then none else some false
    | _, _ => none
  | _, _ => none
def eqA (A : Hs) (x y : D) : Option Bool := match pyA A 40 x, pyA A 40 y with
  | some p, some q => some (PyData.eqv p q)
  | _, _ => unL A x y
def oB (f : Hs → D → D → Option Bool) (x y : D) (A : Hs) : RE D := match f A x y with
  | some b => .ok (.bl b) A
  | none => .stuck
def oEq : D → D → Hs → RE D := oB eqA
def oNe : D → D → Hs → RE D := oB fun A x y => (eqA A x y).map (!·)
section
variable {K : PySem.W.Frag} {ca : CaT} {F F1 F2 H H1 H2 : Hp} {m m1 m2 : List Addr} {A A1 A2 : Hs} {σ : L2.St} {env : Sl} {W : WX} {Q : VK}
theorem dp_all {n : Nat} (R : Rl K ca F m A H) (ih : ∀ {v : V} {d : D} {p : PyData}, Rep K ca F m v d → pyA A n d = some p → Dp K H v p ∧ p.plain = true ∧ p.depth ≤ n) :
    ∀ {vs : List V} {l : List D} {ps : List PyData}, RepL K ca F m vs l → allSome (l.map (pyA A n)) = some ps → DpAll K H vs ps ∧ PyData.plainAll ps = true ∧ PyData.depthAll ps ≤ n
  | _, _, _, .nil, h => by cases h; exact ⟨.nil, rfl, Nat.zero_le _⟩
  | _, _, _, .cons (d := d) (ds := ds) r rs, h => by
    rw [List.map_cons] at h
    cases q : pyA A n d with
    | none => rw [q] at h; cases h
    | some p =>
      rw [q] at h
      unfold allSome at h
      cases q2 : allSome (ds.map (pyA A n)) with
      | none => rw [q2] at h; cases h
      | some ps =>
        rw [q2] at h
        cases h
        obtain ⟨h1, h2, h3⟩ := ih r q
        obtain ⟨g1, g2, g3⟩ := dp_all R ih rs q2
        exact ⟨.cons h1 g1, by unfold PyData.plainAll; rw [h2, g2]; rfl, by unfold PyData.depthAll; omega⟩
theorem dp_of (R : Rl K ca F m A H) : ∀ {n : Nat} {v : V} {d : D} {p : PyData}, Rep K ca F m v d → pyA A n d = some p → Dp K H v p ∧ p.plain = true ∧ p.depth ≤ n := by
  intro n
  induction n with
  | zero =>
    intro v d p r h
    cases r <;> simp [pyA] at h <;> subst h <;> exact ⟨by constructor, rfl, Nat.zero_le _⟩
  | succ n ih =>
    intro v d p r h
    cases r with
    | non => simp [pyA] at h; subst h; exact ⟨.non, rfl, Nat.zero_le _⟩
    | bl b => simp [pyA] at h; subst h; exact ⟨.bl b, rfl, Nat.zero_le _⟩
    | int i => simp [pyA] at h; subst h; exact ⟨.int i, rfl, Nat.zero_le _⟩
    | str x => simp [pyA] at h; subst h; exact ⟨.str x, rfl, Nat.zero_le _⟩
    | ty n => simp [pyA] at h
    | nm x => simp [pyA] at h
    | exc h' => simp [pyA] at h
    | tup s rs =>
      unfold pyA at h
      cases q : allSome (List.map (pyA A n) _) with
      | none => rw [q] at h; cases h
      | some ps =>
        rw [q] at h; cases h
        obtain ⟨h1, h2, h3⟩ := dp_all R ih rs q
        exact ⟨.tup (.inl (.inl (R.fh _ _ s))) h1, h2, by unfold PyData.depth; omega⟩
    | wt s rs =>
      unfold pyA at h
      cases q : allSome (List.map (pyA A n) _) with
      | none => rw [q] at h; cases h
      | some ps =>
        rw [q] at h; cases h
        obtain ⟨h1, h2, h3⟩ := dp_all R ih rs q
        exact ⟨.tup (R.fh.t s) h1, h2, by unfold PyData.depth; omega⟩
    | scr s rs =>
      unfold pyA at h
      cases q : allSome (List.map (pyA A n) _) with
      | none => rw [q] at h; cases h
      | some ps =>
        rw [q] at h; cases h
        obtain ⟨h1, h2, h3⟩ := dp_all R ih rs q
        exact ⟨.lst (R.fh.l s) h1, h2, by unfold PyData.depth; omega⟩
    | ref hm =>
      rename_i a i
      unfold pyA at h
      cases q0 : A[i]? with
      | none => simp [q0] at h
      | some o =>
        cases o with
        | lst l =>
          simp only [q0] at h
          obtain ⟨a', e, ha, vs, h1, h2⟩ := R.at (v := .ref a) q0 (.ref hm)
          cases e
          cases q : allSome (List.map (pyA A n) l) with
          | none => rw [q] at h; cases h
          | some ps =>
            rw [q] at h; cases h
            obtain ⟨h3, h4, h5⟩ := dp_all R ih h2 q
            exact ⟨.lst (.inl (.inl h1)) h3, h4, by unfold PyData.depth; omega⟩
        | dic _ _ _ => simp [q0] at h
        | obj _ _ => simp [q0] at h
theorem po_ok {α β : Type} {Rr : Hp → List Addr → β → α → Prop} {Q : β → Hp → Prop} {v : β} {d : α} (R : Rl K ca F m A H) (r : Rr F m v d) (p : Po K ca Rr F m H W σ Q (.ok d A)) : Q v H := p v F m H R Stp.refl r
theorem unL_of {x y : V} {dx dy : D} {b : Bool} (R : Rl K ca F m A H) (rx : Rep K ca F m x dx) (ry : Rep K ca F m y dy) (h : unL A dx dy = some b) : b = false ∧ UnL H x y := by
  unfold unL at h
  split at h
  · rename_i i j
    cases q1 : A[i]? with
    | none => simp [q1] at h
    | some o1 =>
      cases o1 with
      | lst l =>
        cases q2 : A[j]? with
        | none => simp [q1, q2] at h
        | some o2 =>
          cases o2 with
          | lst k =>
            simp only [q1, q2] at h
            split at h
            · cases h
            · rename_i hn
              obtain ⟨a, e, _, vs, h1, h2⟩ := R.at q1 rx
              obtain ⟨a', e', _, vs', h1', h2'⟩ := R.at q2 ry
              refine ⟨(Option.some.inj h).symm, a, a', vs, vs', e, e', h1, h1', ?_⟩
              rw [h2.length, h2'.length]
              exact hn
          | dic _ _ _ => simp [q1, q2] at h
          | obj _ _ => simp [q1, q2] at h
      | dic _ _ _ => simp [q1] at h
      | obj _ _ => simp [q1] at h
  · cases h
theorem os_eq : OpS K ca (rEqP K) oEq := fun F m A H x y dx dy W σ Q R rx ry p => by
  unfold oEq oB at p
  cases q : eqA A dx dy with
  | none => rw [q] at p; exact p.elim
  | some b =>
    rw [q] at p
    unfold eqA at q
    split at q
    · rename_i p1 p2 q1 q2
      obtain ⟨a1, a2, a3⟩ := dp_of R rx q1
      obtain ⟨b1, b2, b3⟩ := dp_of R ry q2
      cases q
      exact .inl ⟨p1, p2, a1, b1, a2, b2, by omega, po_ok R (.bl _) p⟩
    · obtain ⟨rfl, u⟩ := unL_of R rx ry q
      exact .inr ⟨u, po_ok R (.bl _) p⟩
theorem os_ne : OpS K ca (rNeP K) oNe := fun F m A H x y dx dy W σ Q R rx ry p => by
  unfold oNe oB at p
  cases q : eqA A dx dy with
  | none => simp only [q, Option.map] at p; exact p.elim
  | some b =>
    simp only [q, Option.map] at p
    unfold eqA at q
    split at q
    · rename_i p1 p2 q1 q2
      obtain ⟨a1, a2, a3⟩ := dp_of R rx q1
      obtain ⟨b1, b2, b3⟩ := dp_of R ry q2
      cases q
      exact .inl ⟨p1, p2, a1, b1, a2, b2, by omega, po_ok R (.bl _) p⟩
    · obtain ⟨rfl, u⟩ := unL_of R rx ry q
      exact .inr ⟨u, po_ok R (.bl _) p⟩

/-! ### operators on ints -/
def oII (f : Int → Int → Option D) (x y : D) (A : Hs) : RE D := match x, y with
  | .int i, .int j => match f i j with
    | some d => .ok d A
    | none => .stuck
  | _, _ => .stuck
theorem os_ii {r : R2} {f : Int → Int → Option D} (h : ∀ i j d, f i j = some d → ∃ z, (∀ F m, Rep K ca F m z d) ∧ ∀ H Q, Q z H → r (.int i) (.int j) H Q) : OpS K ca r (oII f) := fun F m A H x y dx dy W σ Q R rx ry p => by
  cases rx with
  | int i =>
    cases ry with
    | int j =>
      unfold oII at p
      simp only at p
      cases q : f i j with
      | none => rw [q] at p; exact p.elim
      | some d =>
        rw [q] at p
        obtain ⟨z, hz, k⟩ := h i j d q
        exact k H Q (po_ok R (hz F m) p)
    | _ => exact p.elim
  | _ => exact p.elim
def oSub := oII fun i j => some (.int (i - j))
def oDiv := oII fun i j => if 0 < j ∧ j.natAbs.log2 < 9000 then some (.int (i / j)) else none
def oMod := oII fun i j => if 0 < j then some (.int (i % j)) else none
open Classical in
noncomputable def oPow := oII fun i j => if CPow i j then some (.int (i ^ j.toNat)) else none
def oLt := oII fun i j => some (.bl (decide (i < j)))
def oLe := oII fun i j => some (.bl (decide (i ≤ j)))
def oGt := oII fun i j => some (.bl (decide (j < i)))
def oGe := oII fun i j => some (.bl (decide (j ≤ i)))
theorem os_sub : OpS K ca rSubU oSub := os_ii fun i j d h => by cases h; exact ⟨_, fun _ _ => .int _, fun H Q q => ⟨i, j, rfl, rfl, q⟩⟩
theorem os_div : OpS K ca rDivU oDiv := os_ii fun i j d h => by
  split at h
  · rename_i z; cases h; exact ⟨_, fun _ _ => .int _, fun H Q q => ⟨i, j, rfl, rfl, z, q⟩⟩
  · cases h
theorem os_mod : OpS K ca rModU oMod := os_ii fun i j d h => by
  split at h
  · rename_i z; cases h; exact ⟨_, fun _ _ => .int _, fun H Q q => ⟨i, j, rfl, rfl, z, q⟩⟩
  · cases h
theorem os_pow : OpS K ca rPowU oPow := os_ii fun i j d h => by
  split at h
  · rename_i z; cases h; exact ⟨_, fun _ _ => .int _, fun H Q q => ⟨i, j, rfl, rfl, z, q⟩⟩
  · cases h
theorem os_lt : OpS K ca rLtU oLt := os_ii fun i j d h => by cases h; exact ⟨_, fun _ _ => .bl _, fun H Q q => ⟨i, j, rfl, rfl, q⟩⟩
theorem os_le : OpS K ca rLeU oLe := os_ii fun i j d h => by cases h; exact ⟨_, fun _ _ => .bl _, fun H Q q => ⟨i, j, rfl, rfl, q⟩⟩
theorem os_gt : OpS K ca rGtU oGt := os_ii fun i j d h => by cases h; exact ⟨_, fun _ _ => .bl _, fun H Q q => ⟨i, j, rfl, rfl, q⟩⟩
theorem os_ge : OpS K ca rGeU oGe := os_ii fun i j d h => by cases h; exact ⟨_, fun _ _ => .bl _, fun H Q q => ⟨i, j, rfl, rfl, q⟩⟩
def oNeg (x : D) (A : Hs) : RE D := match x with
  | .int i => .ok (.int (-i)) A
  | _ => .stuck
theorem us_neg : UnS K ca (rU fun i => .int (-i)) oNeg := fun F m A H x dx W σ Q R rx p => by
  cases rx with
  | int i => exact ⟨i, rfl, po_ok R (.int _) p⟩
  | _ => exact p.elim
/-- a list that may be read -/
def seqL (A : Hs) : D → Option (List D)
  | .ref i => match A[i]? with
    | some (.lst l) => some l
    | _ => none
  | .scr l => some l
  | _ => none
def seqT : D → Option (List D)
  | .tup l => some l
  | .wt l => some l
  | _ => none
theorem seqL_at {x : V} {d : D} {l : List D} (R : Rl K ca F m A H) (r : Rep K ca F m x d) (h : seqL A d = some l) : ∃ a vs, x = .ref a ∧ SqL K H a vs ∧ RepL K ca F m vs l := by
  cases r with
  | ref hm =>
    rename_i a i
    unfold seqL at h
    simp only at h
    cases q : A[i]? with
    | none => simp [q] at h
    | some o =>
      cases o with
      | lst l' =>
        simp [q] at h; subst h
        obtain ⟨a', e, ha, vs, h1, h2⟩ := R.at (v := .ref a) q (.ref hm)
        cases e
        exact ⟨a, vs, rfl, .inl (.inl h1), h2⟩
      | dic _ _ _ => simp [q] at h
      | obj _ _ => simp [q] at h
  | scr s rs => cases h; exact ⟨_, _, rfl, R.fh.l s, rs⟩
  | _ => cases h
theorem seqT_at {x : V} {d : D} {l : List D} (R : Rl K ca F m A H) (r : Rep K ca F m x d) (h : seqT d = some l) : ∃ a vs, x = .ref a ∧ SqT K H a vs ∧ RepL K ca F m vs l := by
  cases r with
  | tup s rs => cases h; exact ⟨_, _, rfl, .inl (.inl (R.fh _ _ s)), rs⟩
  | wt s rs => cases h; exact ⟨_, _, rfl, R.fh.t s, rs⟩
  | _ => cases h
/-- a list of the plain heap -/
theorem lst_at {x : V} {i : Nat} {l : List D} (R : Rl K ca F m A H) (r : Rep K ca F m x (.ref i)) (h : A[i]? = some (.lst l)) : ∃ a vs, x = .ref a ∧ m[i]? = some a ∧ H a = some (.lst vs) ∧ RepL K ca F m vs l := by
  obtain ⟨a, e, ha, vs, h1, h2⟩ := R.at h r
  exact ⟨a, vs, e, ha, h1, h2⟩
theorem lst_put {i : Nat} {l' : List D} {vs' : List V} (R : Rl K ca F m A H) {a : Addr} {vs : List V} (ha : m[i]? = some a) (h1 : H a = some (.lst vs)) (r : RepL K ca F m vs' l') :
    Rl K ca F m (A.set i (.lst l')) (upd H a (.lst vs')) ∧ Stp F m H F m (upd H a (.lst vs')) :=
  R.put (o' := .lst l') ha (fun od w z => by rw [h1] at z; cases z) ⟨vs', upd_same, r⟩

/-! ### + -/
def oAdd (x y : D) (A : Hs) : RE D := match x, y with
  | .int i, .int j => .ok (.int (i + j)) A
  | .str a, .str b => if a.length + b.length ≤ sizeLine then .ok (.str (a ++ b)) A else .stuck
  | .tup l, .tup k => if l.length + k.length ≤ sizeLine then .ok (.tup (l ++ k)) A else .stuck
  | .wt l, .tup k => if l ≠ [] ∧ l.length + k.length ≤ sizeLine then .ok (if k.isEmpty then .wt l else .tup (l ++ k)) A else .stuck
  | .tup l, .wt k => if k ≠ [] ∧ l.length + k.length ≤ sizeLine then .ok (if l.isEmpty then .wt k else .tup (l ++ k)) A else .stuck
  | .ref i, .ref j => match A[i]?, A[j]? with
    | some (.lst l), some (.lst k) => if l.length + k.length ≤ sizeLine then alloc A (.lst (l ++ k)) else .stuck
    | _, _ => .stuck
  | _, _ => .stuck
theorem os_add : OpS K ca (rAddU K) oAdd := fun F m A H x y dx dy W σ Q R rx ry p => by
  cases rx with
  | int i =>
    cases ry with
    | int j => exact .inl ⟨i, j, rfl, rfl, po_ok R (.int _) p⟩
    | _ => exact p.elim
  | str a =>
    cases ry with
    | str b =>
      unfold oAdd at p
      simp only at p
      split at p
      · rename_i hl; exact .inr (.inl ⟨a, b, rfl, rfl, hl, po_ok R (.str _) p⟩)
      · exact p.elim
    | _ => exact p.elim
  | tup s rs =>
    cases ry with
    | tup s' rs' =>
      rename_i a vs l b ws k
      unfold oAdd at p
      simp only at p
      split at p
      · rename_i hl
        refine .inr (.inr (.inl ⟨a, b, vs, ws, rfl, rfl, .inl (.inl (R.fh _ _ s)), .inl (.inl (R.fh _ _ s')), by rw [rs.length, rs'.length]; exact hl, fun e => ?_, fun _ e => ?_, fun _ _ q hq => ?_⟩))
        · subst e; cases rs; exact po_ok R (.tup s' rs') p
        · subst e; cases rs'; rw [List.append_nil] at p; exact po_ok R (.tup s rs) p
        · obtain ⟨R2, g2⟩ := R.new (u := .tup (vs ++ ws)) hq
          exact p _ _ _ _ R2 g2 (.tup upd_same ((rs.append rs').mono g2.ff g2.mm))
      · exact p.elim
    | wt s' rs' =>
      rename_i a vs l b ws k
      unfold oAdd at p
      simp only at p
      split at p
      · rename_i hl
        refine .inr (.inr (.inl ⟨a, b, vs, ws, rfl, rfl, .inl (.inl (R.fh _ _ s)), R.fh.t s', by rw [rs.length, rs'.length]; exact hl.2, fun e => ?_, fun _ e => ?_, fun n1 _ q hq => ?_⟩))
        · subst e; cases rs; exact po_ok R (.wt s' rs') p
        · subst e; cases rs'; exact absurd rfl hl.1
        · obtain ⟨R2, g2⟩ := R.new (u := .tup (vs ++ ws)) hq
          have : l.isEmpty = false := by
            cases rs with
            | nil => exact absurd rfl n1
            | cons _ _ => rfl
          rw [this] at p
          exact p _ _ _ _ R2 g2 (.tup upd_same ((rs.append rs').mono g2.ff g2.mm))
      · exact p.elim
    | _ => exact p.elim
  | wt s rs =>
    cases ry with
    | tup s' rs' =>
      rename_i a vs l b ws k
      unfold oAdd at p
      simp only at p
      split at p
      · rename_i hl
        refine .inr (.inr (.inl ⟨a, b, vs, ws, rfl, rfl, R.fh.t s, .inl (.inl (R.fh _ _ s')), by rw [rs.length, rs'.length]; exact hl.2, fun e => ?_, fun _ e => ?_, fun _ n2 q hq => ?_⟩))
        · subst e; cases rs; exact absurd rfl hl.1
        · subst e; cases rs'; exact po_ok R (.wt s rs) p
        · obtain ⟨R2, g2⟩ := R.new (u := .tup (vs ++ ws)) hq
          have : k.isEmpty = false := by
            cases rs' with
            | nil => exact absurd rfl n2
            | cons _ _ => rfl
          rw [this] at p
          exact p _ _ _ _ R2 g2 (.tup upd_same ((rs.append rs').mono g2.ff g2.mm))
      · exact p.elim
    | _ => exact p.elim
  | ref hm =>
    cases ry with
    | ref hm' =>
      rename_i a i b j
      unfold oAdd at p
      simp only at p
      split at p
      · rename_i l k q1 q2
        split at p
        · rename_i hl
          obtain ⟨a', vs, e1, h1, h2, h3⟩ := lst_at R (.ref hm) q1
          obtain ⟨b', ws, e2, h4, h5, h6⟩ := lst_at R (.ref hm') q2
          refine .inr (.inr (.inr ⟨a', b', vs, ws, e1, e2, h2, h5, by rw [h3.length, h6.length]; exact hl, fun q hq => ?_⟩))
          exact po_alloc (o := .lst (l ++ k)) R hq ⟨_, upd_same, (h3.append h6).mono (Ex.refl _) ⟨_, rfl⟩⟩ p
        · exact p.elim
      · exact p.elim
    | _ => exact p.elim
  | _ => exact p.elim
/-! ### * -/
open Classical in
noncomputable def oMul (x y : D) (A : Hs) : RE D := match x, y with
  | .int i, .int j => if CMul i j ∨ CMulX i j then .ok (.int (i * j)) A else .stuck
  | .tup l, .int j => if l.length ≤ 1000 ∧ -1000 ≤ j ∧ j ≤ 4000 then .ok (.tup (List.replicate j.toNat l).flatten) A else .stuck
  | .ref i, .int j => match A[i]? with
    | some (.lst l) => if -(2 ^ 63) ≤ j ∧ j < 2 ^ 63 ∧ l.length * j.toNat ≤ sizeLine then alloc A (.lst (List.replicate j.toNat l).flatten) else .stuck
    | _ => .stuck
  | _, _ => .stuck
theorem os_mul : OpS K ca (rMulA K) oMul := fun F m A H x y dx dy W σ Q R rx ry p => by
  cases ry with
  | int j =>
    cases rx with
    | int i =>
      unfold oMul at p
      simp only at p
      split at p
      · rename_i hc
        refine .inl ?_
        rcases hc with hc | hc
        · exact .inl ⟨i, j, rfl, rfl, hc, po_ok R (.int _) p⟩
        · exact .inr (.inl ⟨i, j, rfl, rfl, hc, po_ok R (.int _) p⟩)
      · exact p.elim
    | tup s rs =>
      rename_i a vs l
      unfold oMul at p
      simp only at p
      split at p
      · rename_i hc
        have lv := rs.length
        refine .inr ⟨a, j, vs, rfl, rfl, .inl (.inl (R.fh _ _ s)), hc.2.2, hc.2.1, by omega, fun e => ?_, fun e => ?_, fun n1 n2 q hq => ?_⟩
        · subst e; cases rs
          have : (List.replicate j.toNat ([] : List D)).flatten = [] := by simp
          rw [this] at p
          exact po_ok R (.tup s .nil) p
        · subst e
          have : (List.replicate (1 : Int).toNat l).flatten = l := by simp
          rw [this] at p
          exact po_ok R (.tup s rs) p
        · obtain ⟨R2, g2⟩ := R.new (u := .tup (List.replicate j.toNat vs).flatten) hq
          exact p _ _ _ _ R2 g2 (.tup upd_same ((rs.flatRep _).mono g2.ff g2.mm))
      · exact p.elim
    | ref hm =>
      rename_i a i
      unfold oMul at p
      simp only at p
      split at p
      · rename_i l q1
        split at p
        · rename_i hc
          obtain ⟨a', vs, e1, h1, h2, h3⟩ := lst_at R (.ref hm) q1
          refine .inl (.inr (.inr ⟨a', j, vs, e1, rfl, h2, hc.1, hc.2.1, by rw [h3.length]; exact hc.2.2, fun q hq => ?_⟩))
          exact po_alloc (o := .lst (List.replicate j.toNat l).flatten) R hq ⟨_, upd_same, (h3.flatRep _).mono (Ex.refl _) ⟨_, rfl⟩⟩ p
        · exact p.elim
      · exact p.elim
    | _ => exact p.elim
  | _ => cases rx <;> exact p.elim
/-! ### is -/
def isNon : D → Bool
  | .non => true
  | _ => false
theorem rep_non {v : V} {d : D} (h : Rep K ca F m v d) : decide (v = V.non) = isNon d := by
  cases h <;> first | rfl | simp [isNon]
def oIs (x y : D) (A : Hs) : RE D := match y with
  | .non => .ok (.bl (isNon x)) A
  | .bl c => match x with
    | .bl b => .ok (.bl (decide (b = c))) A
    | _ => .stuck
  | _ => .stuck
def oIsNot (x y : D) (A : Hs) : RE D := match y with
  | .non => .ok (.bl (!isNon x)) A
  | .bl c => match x with
    | .bl b => .ok (.bl (!decide (b = c))) A
    | _ => .stuck
  | _ => .stuck
theorem os_is : OpS K ca rIsU oIs := fun F m A H x y dx dy W σ Q R rx ry p => by
  cases ry with
  | non => refine .inl ⟨rfl, ?_⟩; rw [rep_non rx]; exact po_ok R (.bl _) p
  | bl c =>
    cases rx with
    | bl b => exact .inr ⟨b, c, rfl, rfl, po_ok R (.bl _) p⟩
    | _ => exact p.elim
  | _ => exact p.elim
theorem os_isnot : OpS K ca rNotU oIsNot := fun F m A H x y dx dy W σ Q R rx ry p => by
  cases ry with
  | non => refine .inl ⟨rfl, ?_⟩; rw [rep_non rx]; exact po_ok R (.bl _) p
  | bl c =>
    cases rx with
    | bl b => exact .inr ⟨b, c, rfl, rfl, po_ok R (.bl _) p⟩
    | _ => exact p.elim
  | _ => exact p.elim
/-! ### subscripts -/
def oIx (x y : D) (A : Hs) : RE D := match y with
  | .int i => match seqL A x with
    | some l => match atI l i with
      | some d => .ok d A
      | none => .stuck
    | none => match seqT x with
      | some l => match atI l i with
        | some d => .ok d A
        | none => .stuck
      | none => match x with
        | .str z => if z.length ≤ sizeLine then match atI z.cps.toList i with
            | some c => .ok (.str ⟨#[c]⟩) A
            | none => .stuck
          else .stuck
        | _ => .stuck
  | _ => .stuck
theorem atI_rep {vs : List V} {l : List D} {i : Int} {d : D} (p : RepL K ca F m vs l) (h : atI l i = some d) : ∃ v, atI vs i = some v ∧ Rep K ca F m v d := by
  unfold atI at h ⊢
  obtain ⟨n, e, g⟩ := Option.bind_eq_some_iff.mp h
  obtain ⟨z, z1, z2⟩ := p.get g
  exact ⟨z, by rw [p.length, e]; exact z1, z2⟩
theorem os_ix : OpS K ca (rIx K) oIx := fun F m A H x y dx dy W σ Q R rx ry p => by
  cases ry with
  | int i =>
    unfold oIx at p
    simp only at p
    split at p
    · rename_i l hl
      split at p
      · rename_i d hd
        obtain ⟨a, vs, e, h1, h2⟩ := seqL_at R rx hl
        obtain ⟨v, h3, h4⟩ := atI_rep h2 hd
        exact .inl ⟨a, vs, i, v, e, rfl, h1, h3, po_ok R h4 p⟩
      · exact p.elim
    · split at p
      · rename_i l hl
        split at p
        · rename_i d hd
          obtain ⟨a, vs, e, h1, h2⟩ := seqT_at R rx hl
          obtain ⟨v, h3, h4⟩ := atI_rep h2 hd
          exact .inr (.inl ⟨a, vs, i, v, e, rfl, h1, h3, po_ok R h4 p⟩)
        · exact p.elim
      · cases rx with
        | str z =>
          simp only at p
          split at p
          · rename_i hz
            split at p
            · rename_i c hc
              exact .inr (.inr ⟨z, i, c, rfl, rfl, hz, hc, po_ok R (.str _) p⟩)
            · exact p.elim
          · exact p.elim
        | _ => exact p.elim
  | _ => exact p.elim
def cutD {α : Type} (xs : List α) (lo hi : Option Int) : List α := (xs.drop (HT.sIx xs.length 0 lo)).take (HT.sIx xs.length xs.length hi - HT.sIx xs.length 0 lo)
theorem cut_rep {vs : List V} {l : List D} {lo hi : Option Int} (h : RepL K ca F m vs l) : RepL K ca F m (cutV vs lo hi) (cutD l lo hi) := by
  unfold cutV cutD
  rw [h.length]
  exact (h.drop _).take _
def oSl (x : D) (lo hi : Option Int) (A : Hs) : RE D := match seqL A x with
  | some l => alloc A (.lst (cutD l lo hi))
  | none => match x with
    | .tup l => .ok (.tup (cutD l lo hi)) A
    | .str z => if z.length ≤ sizeLine then .ok (.str (cutS z lo hi)) A else .stuck
    | _ => .stuck
theorem sls_all : SlS K ca (DL.rSlU K) oSl := fun F m A H x dx lo hi W σ Q R rx p => by
  unfold oSl at p
  split at p
  · rename_i l hl
    obtain ⟨a, vs, e, h1, h2⟩ := seqL_at R rx hl
    exact .inl ⟨a, vs, e, h1, fun q hq => po_alloc (o := .lst (cutD l lo hi)) R hq ⟨_, upd_same, (cut_rep h2).mono (Ex.refl _) ⟨_, rfl⟩⟩ p⟩
  · cases rx with
    | @tup a vs l s rs =>
      refine .inr (.inl ⟨a, vs, rfl, .inl (.inl (R.fh _ _ s)), fun hw => ?_, fun _ q hq => ?_⟩)
      · have e : cutD l lo hi = l := by
          unfold cutD
          rw [← rs.length, hw.1, hw.2]
          simp [rs.length]
        simp only [e] at p
        exact po_ok R (.tup s rs) p
      · obtain ⟨R2, g2⟩ := R.new (u := .tup (cutV vs lo hi)) hq
        exact p _ _ _ _ R2 g2 (.tup upd_same ((cut_rep rs).mono g2.ff g2.mm))
    | str z =>
      simp only at p
      split at p
      · rename_i hz; exact .inr (.inr ⟨z, rfl, hz, po_ok R (.str _) p⟩)
      · exact p.elim
    | _ => exact p.elim
def oRev (x : D) (A : Hs) : RE D := match seqL A x with
  | some l => alloc A (.lst l.reverse)
  | none => .stuck
/-! ### which of two readings -/
theorem Sim.pick {α β : Type} {Rr : Hp → List Addr → β → α → Prop} {t u : L2.St → Hp → (β → Hp → Prop) → Prop} {f g h : Sl → Hs → RE α} (h1 : Sim K ca Rr W t g) (h2 : Sim K ca Rr W u h) (k : ∀ env A, f env A = g env A ∨ f env A = h env A) : Sim K ca Rr W (fun σ H Q => t σ H Q ∨ u σ H Q) f := fun F m A σ H env Q R S p => by
  rcases k env A with q | q
  · rw [q] at p; exact .inl (h1 F m A σ H env Q R S p)
  · rw [q] at p; exact .inr (h2 F m A σ H env Q R S p)
end
end SM

namespace L2
open PySem PySem.Spec PyProof.Rows
/-- x in a list or tuple of data -/
def rInP (K : PySem.W.Frag) (neg : Bool) : R2 := fun x y H Q => ∃ d ds, Dp K H x d ∧ (Dp K H y (.list ds) ∨ Dp K H y (.tuple ds)) ∧ d.plain = true ∧ PyData.plainAll ds = true ∧ d.depth ≤ 60 ∧ Q (.bl (if neg then !(ds.any fun z => PyData.eqv z d) else ds.any fun z => PyData.eqv z d)) H
theorem op_notInP {X : Cx} {K : PySem.W.Frag} (hu : X.A.units + 65 < cLine) (eK : X.K = K := by rfl) : OpR X (compareOp .NotIn) (rInP K true) := by
  subst eK
  intro pins s σ H x y v u Q I rx ry h
  obtain ⟨d, ds, hd, he, sd, se, dp, q⟩ := h
  obtain ⟨as, r1⟩ := Dp.reads I d x v hd rx
  rcases he with he | he
  · obtain ⟨bs, r2⟩ := Dp.reads I _ y u he ry
    exact PySem.SeqAt.notIn_list_data r2 r1 se sd (by omega) ⟨.bl _, H, I, rfl, q⟩
  · obtain ⟨bs, r2⟩ := Dp.reads I _ y u he ry
    exact PySem.SeqAt.notIn_tuple_data r2 r1 se sd (by omega) ⟨.bl _, H, I, rfl, q⟩
/-- y in d -/
def rDIn (neg : Bool) : R2 := fun y x H Q => ∃ a o, x = .ref a ∧ DGet H a y o ∧ Q (.bl (if neg then !o.isSome else o.isSome)) H
theorem op_dNotIn {X : Cx} (hu : X.A.units + 65 < cLine) : OpR X (compareOp .NotIn) (rDIn true) := by
  intro pins s σ H y x iv u Q I ry rx h
  obtain ⟨a, ov, ex, g, q2⟩ := h
  subst ex
  obtain rfl : u = Value.ref a := rx
  exact d_notIn (by omega) I g ry fun s3 I3 => ⟨.bl (!ov.isSome), H, I3, rfl, q2⟩
def rInAll (K : PySem.W.Frag) (neg : Bool) : R2 := fun x y H Q => rInP K neg x y H Q ∨ (DL.rSign neg x y H Q ∨ rDIn neg x y H Q)
theorem op_notInAll {X : Cx} {K : PySem.W.Frag} (hu : X.A.units + 65 < cLine) (e : X.K = K := by rfl) : OpR X (compareOp .NotIn) (rInAll K true) := DL.OpR.or (op_notInP hu e) (DL.OpR.or op_notIn_sign (op_dNotIn hu))
theorem op_eqPK {X : Cx} {K : PySem.W.Frag} (hu : X.A.units + 65 < cLine) (e : X.K = K := by rfl) : OpR X (compareOp .Eq) (rEqP K) := by subst e; exact op_eqP (by omega)
theorem op_nePK {X : Cx} {K : PySem.W.Frag} (hu : X.A.units + 65 < cLine) (e : X.K = K := by rfl) : OpR X (compareOp .NotEq) (rNeP K) := by subst e; exact op_neP (by omega)
end L2
namespace SM
open PySem L2
open DL (Ex ExK rLenU rAbs rMax2 rMin2 rInt1 rListOf rTupleOf iSeqU rIsiU InC)
section
variable {K : PySem.W.Frag} {ca : CaT} {F F1 F2 H H1 H2 : Hp} {m m1 m2 : List Addr} {A A1 A2 : Hs} {σ : L2.St} {env : Sl} {W : WX} {Q : VK}
variable {ta tb tc te : TE} {a b c : E} {i : Nat} {d : D} {ts : TA} {as : As} {x : V} {dx : D}
/-! ### dicts -/
def keyK : D → Option Key
  | .int i => some (.inl i)
  | .str x => some (.inr x)
  | _ => none
def keysK : List D → Option (List Key)
  | [] => some []
  | d :: r => match keyK d, keysK r with
    | some k, some ks => some (k :: ks)
    | _, _ => none
/-- whether two keys are one -/
def keq : D → D → Bool
  | .int i, .int j => decide (i = j)
  | .str x, .str y => decide (x = y)
  | .tup l, .tup k => keqL l k
  | _, _ => false
where keqL : List D → List D → Bool
  | [], [] => true
  | .int i :: r, .int j :: s => decide (i = j) && keqL r s
  | .str x :: r, .str y :: s => decide (x = y) && keqL r s
  | _, _ => false
def kget : List (D × D) → D → Option D
  | [], _ => none
  | (k, v) :: r, y => if keq k y then some v else kget r y
def khas (l : List (D × D)) (y : D) : Bool := l.any fun kv => keq kv.1 y
def kput (l : List (D × D)) (y v : D) : List (D × D) := if khas l y then l.map (fun kv => if keq kv.1 y then (kv.1, v) else kv) else l ++ [(y, v)]
def kdel (l : List (D × D)) (y : D) : List (D × D) := l.filter fun kv => !keq kv.1 y
/-- y may be a key of a dict of the kind t -/
def keyOk : Bool → D → Bool
  | false, y => (keyK y).isSome
  | true, .tup l => (keysK l).isSome
  | true, _ => false
theorem keyK_kD {y : D} {k : Key} (h : keyK y = some k) : y = kD k := by
  cases y <;> simp [keyK] at h <;> subst h <;> rfl
theorem keysK_kT : ∀ {l : List D} {ks : List Key}, keysK l = some ks → l = ks.map kD
  | [], ks, h => by cases h; rfl
  | d :: r, ks, h => by
    unfold keysK at h
    cases q : keyK d with
    | none => rw [q] at h; cases h
    | some k =>
      cases q2 : keysK r with
      | none => rw [q, q2] at h; cases h
      | some s => rw [q, q2] at h; cases h; rw [List.map_cons, ← keyK_kD q, ← keysK_kT q2]
theorem keq_kD (a b : Key) : keq (kD a) (kD b) = decide (a = b) := by
  cases a <;> cases b <;> simp [kD, keq]
theorem keqL_kT : ∀ (a b : List Key), keq.keqL (a.map kD) (b.map kD) = decide (a = b)
  | [], [] => by simp [keq.keqL]
  | [], y :: s => by cases y <;> simp [keq.keqL]
  | x :: r, [] => by cases x <;> simp [keq.keqL]
  | x :: r, y :: s => by
    have ih := keqL_kT r s
    cases x <;> cases y <;> simp [kD, keq.keqL, ih]
theorem keq_kT (a b : List Key) : keq (kT a) (kT b) = decide (a = b) := by
  unfold kT keq; exact keqL_kT a b
section
variable {κ : Type} [DecidableEq κ] {kd : κ → D}
theorem kget_rep (hk : ∀ a b, keq (kd a) (kd b) = decide (a = b)) {k : κ} : ∀ {kvs : List (κ × V)} {l : List (D × D)}, KvR K ca F m kd kvs l → (∀ d, kget l (kd k) = some d → ∃ v, valV kvs k = some v ∧ Rep K ca F m v d) ∧ (kget l (kd k) = none → valV kvs k = none)
  | _, _, .nil => ⟨fun d h => by simp [kget] at h, fun _ => rfl⟩
  | _, _, .cons (k := k') (v := v') h r => by
    have ih := kget_rep hk (k := k) r
    unfold kget valV
    by_cases q : k' = k
    · subst q
      simp only [hk, decide_true, if_true, List.find?_cons]
      exact ⟨fun d e => by cases e; exact ⟨v', by simp, h⟩, fun e => by cases e⟩
    · rw [hk, decide_eq_false q]
      simp only [Bool.false_eq_true, if_false, List.find?_cons, decide_eq_false q]
      exact ih
theorem khas_rep (hk : ∀ a b, keq (kd a) (kd b) = decide (a = b)) {k : κ} : ∀ {kvs : List (κ × V)} {l : List (D × D)}, KvR K ca F m kd kvs l → khas l (kd k) = kvs.any fun kv => decide (kv.1 = k)
  | _, _, .nil => rfl
  | _, _, .cons h r => by
    have ih := khas_rep hk (k := k) r
    unfold khas at ih ⊢
    rw [List.any_cons, List.any_cons, ih, hk]
theorem KvR.snoc {k : κ} {v : V} (hv : Rep K ca F m v d) : ∀ {kvs : List (κ × V)} {l : List (D × D)}, KvR K ca F m kd kvs l → KvR K ca F m kd (kvs ++ [(k, v)]) (l ++ [(kd k, d)])
  | _, _, .nil => .cons hv .nil
  | _, _, .cons h r => .cons h (KvR.snoc hv r)
theorem KvR.remap (hk : ∀ a b, keq (kd a) (kd b) = decide (a = b)) {k : κ} {v : V} (hv : Rep K ca F m v d) : ∀ {kvs : List (κ × V)} {l : List (D × D)}, KvR K ca F m kd kvs l → KvR K ca F m kd (kvs.map fun kv => if kv.1 = k then (kv.1, v) else kv) (l.map fun kv => if keq kv.1 (kd k) then (kv.1, d) else kv)
  | _, _, .nil => .nil
  | _, _, .cons (k := k') h r => by
    rw [List.map_cons, List.map_cons]
    by_cases q : k' = k
    · simp only [q, hk, decide_true, if_true]; exact .cons hv (KvR.remap hk hv r)
    · simp only [q, hk, decide_false, Bool.false_eq_true, if_false]; exact .cons h (KvR.remap hk hv r)
theorem kput_rep (hk : ∀ a b, keq (kd a) (kd b) = decide (a = b)) {k : κ} {v : V} (hv : Rep K ca F m v d) {kvs : List (κ × V)} {l : List (D × D)} (h : KvR K ca F m kd kvs l) : KvR K ca F m kd (putK kvs k v) (kput l (kd k) d) := by
  unfold putK kput
  rw [khas_rep hk h]
  split
  · exact KvR.remap hk hv h
  · exact KvR.snoc hv h
theorem kdel_rep (hk : ∀ a b, keq (kd a) (kd b) = decide (a = b)) {k : κ} : ∀ {kvs : List (κ × V)} {l : List (D × D)}, KvR K ca F m kd kvs l → KvR K ca F m kd (dropK kvs k) (kdel l (kd k))
  | _, _, .nil => .nil
  | _, _, .cons (k := k') h r => by
    have ih := kdel_rep hk (k := k) r
    unfold dropK kdel at ih ⊢
    rw [List.filter_cons, List.filter_cons]
    by_cases q : k' = k
    · simp only [q, hk, decide_true, Bool.not_true, Bool.false_eq_true, if_false, ne_eq, not_true_eq_false, decide_false]; exact ih
    · simp only [q, hk, decide_false, Bool.not_false, if_true, ne_eq, not_false_eq_true, decide_true]; exact .cons h ih
end
/-- the dict at hand: its kind, its pairs -/
def dicAt (A : Hs) : D → Option (Bool × List (D × D))
  | .ref i => match A[i]? with
    | some (.dic t _ l) => some (t, l)
    | _ => none
  | _ => none
theorem rdK {lk : Bool} {a : Addr} {u : HO} (h : At H a lk u) : L2.Rd H a u := by
  cases lk with
  | false => exact .inl h
  | true => exact .inr h
theorem tup_key {y : V} {l : List D} {ks : List Key} (R : Rl K ca F m A H) (r : Rep K ca F m y (.tup l)) (h : keysK l = some ks) : ∃ b, y = .ref b ∧ H b = some (.tup (ks.map kV)) := by
  cases r with
  | tup s rs =>
    refine ⟨_, rfl, ?_⟩
    have e := keysK_kT h
    subst e
    have : ∀ {vs : List V} {ks : List Key}, RepL K ca F m vs (ks.map kD) → vs = ks.map kV := by
      intro vs ks
      induction ks generalizing vs with
      | nil => intro r; cases r; rfl
      | cons k ks ih =>
        intro r
        cases r with
        | cons q t =>
          rw [List.map_cons, ih t]
          cases k with
          | inl i => cases q; rfl
          | inr x => cases q; rfl
    rw [← this rs]
    exact R.fh _ _ s
/-- what the dict holds at a key -/
theorem dic_get {x y : V} {dy : D} {t : Bool} {l : List (D × D)} (R : Rl K ca F m A H) (rx : Rep K ca F m x dx) (ry : Rep K ca F m y dy) (h : dicAt A dx = some (t, l)) (hk : keyOk t dy = true) : ∃ a o, x = .ref a ∧ DGet H a y o ∧ L2.IsD H a ∧ (∀ d, kget l dy = some d → ∃ v, o = some v ∧ Rep K ca F m v d) ∧ (kget l dy = none → o = none) := by
  cases dx with
  | ref i =>
    unfold dicAt at h
    cases q : A[i]? with
    | none => simp [q] at h
    | some o =>
      cases o with
      | dic t' lk l' =>
        simp [q] at h
        obtain ⟨rfl, rfl⟩ := h
        obtain ⟨a, e, ha, r⟩ := R.at q rx
        cases t' with
        | false =>
          obtain ⟨kvs, h1, h2⟩ := r
          cases z : keyK dy with
          | none => simp [keyOk, z] at hk
          | some k =>
            have e2 := keyK_kD z
            subst e2
            obtain ⟨g1, g2⟩ := kget_rep keq_kD (k := k) h2
            refine ⟨a, valV kvs k, e, .inl ⟨kvs, k, rdK h1, ?_, rfl⟩, .inl ⟨kvs, rdK h1⟩, g1, g2⟩
            cases k with
            | inl i => cases ry; rfl
            | inr x => cases ry; rfl
        | true =>
          obtain ⟨kvs, h1, h2⟩ := r
          cases dy with
          | tup dl =>
              cases z : keysK dl with
            | none => simp [keyOk, z] at hk
            | some ks =>
              obtain ⟨b, e3, h3⟩ := tup_key R ry z
              have e2 := keysK_kT z
              subst e2
              obtain ⟨g1, g2⟩ := kget_rep keq_kT (k := ks) h2
              exact ⟨a, valV kvs ks, e, .inr ⟨kvs, ks, b, rdK h1, e3, h3, rfl⟩, .inr ⟨kvs, rdK h1⟩, g1, g2⟩
          | _ => simp [keyOk] at hk
      | lst _ => simp [q] at h
      | obj _ _ => simp [q] at h
  | _ => simp [dicAt] at h
/-- d[y] -/
def oDGet (x y : D) (A : Hs) : RE D := match dicAt A x with
  | some (t, l) => if keyOk t y then match kget l y with
      | some d => .ok d A
      | none => .stuck
    else .stuck
  | none => .stuck
def rDGet : R2 := fun x y H Q => ∃ a v, x = .ref a ∧ DGet H a y (some v) ∧ Q v H
theorem os_dget : OpS K ca rDGet oDGet := fun F m A H x y dx dy W σ Q R rx ry p => by
  unfold oDGet at p
  split at p
  · rename_i t l hd
    split at p
    · rename_i hk
      split at p
      · rename_i d hg
        obtain ⟨a, o, e, h1, _, h2, h3⟩ := dic_get R rx ry hd hk
        obtain ⟨v, e2, rv⟩ := h2 d hg
        subst e2
        exact ⟨a, v, e, h1, po_ok R rv p⟩
      · exact p.elim
    · exact p.elim
  · exact p.elim
theorem pe_dgetO {X : Cx} {o i : Expr} {pos : Pos} {td ty : TE} (hu : X.A.units + 65 < cLine) (ho : PE X o td) (hi : PE X i ty) (hs : NoSl i) : PE X (.Subscript o i pos) (tOp rDGet td ty) := pe_dget (by omega) ho hi hs
/-- y in c -/
def inData (A : Hs) (x c : D) : Option Bool := match pyA A 40 x, pyA A 40 c with
  | some p, some (.list ps) => some (ps.any fun z => PyData.eqv z p)
  | some p, some (.tuple ps) => some (ps.any fun z => PyData.eqv z p)
  | _, _ => none
def inStr (x : D) (w : Str) : Option Bool := match x with
  | .str z => match z.cps.toList with
    | [k] => some (decide (k ∈ w.cps.toList))
    | _ => none
  | _ => none
def inDic (t : Bool) (l : List (D × D)) (x : D) : Option Bool := if keyOk t x then some (kget l x).isSome else none
def inA (A : Hs) (x c : D) : Option Bool := match dicAt A c with
  | some (t, l) => inDic t l x
  | none => match c with
    | .str w => inStr x w
    | _ => inData A x c
def oIn : D → D → Hs → RE D := oB inA
def oNotIn : D → D → Hs → RE D := oB fun A x y => (inA A x y).map (!·)
theorem in_data {neg b : Bool} {x y : V} {dx dy : D} (R : Rl K ca F m A H) (rx : Rep K ca F m x dx) (ry : Rep K ca F m y dy) (h : inData A dx dy = some b) (q : Q (.bl (if neg then !b else b)) H) : rInAll K neg x y H Q := by
  unfold inData at h
  cases q1 : pyA A 40 dx with
  | none => simp [q1] at h
  | some p1 =>
    cases q2 : pyA A 40 dy with
    | none => simp [q1, q2] at h
    | some p2 =>
      obtain ⟨a1, a2, a3⟩ := dp_of R rx q1
      obtain ⟨b1, b2, b3⟩ := dp_of R ry q2
      cases p2 with
      | list ps =>
        simp only [q1, q2, Option.some.injEq] at h
        subst h
        exact .inl ⟨p1, ps, a1, .inl b1, a2, b2, by omega, q⟩
      | tuple ps =>
        simp only [q1, q2, Option.some.injEq] at h
        subst h
        exact .inl ⟨p1, ps, a1, .inr b1, a2, b2, by omega, q⟩
      | _ => simp [q1, q2] at h
theorem in_core {neg b : Bool} {x y : V} {dx dy : D} (R : Rl K ca F m A H) (rx : Rep K ca F m x dx) (ry : Rep K ca F m y dy) (h : inA A dx dy = some b) (q : Q (.bl (if neg then !b else b)) H) : rInAll K neg x y H Q := by
  unfold inA at h
  cases hd : dicAt A dy with
  | some tl =>
    obtain ⟨t, l⟩ := tl
    simp only [hd, inDic] at h
    split at h
    · rename_i hk
      obtain ⟨a, o, e, h1, _, h2, h3⟩ := dic_get R ry rx hd hk
      refine .inr (.inr ⟨a, o, e, h1, ?_⟩)
      have : o.isSome = b := by
        cases h
        cases z : kget l dx with
        | none => rw [h3 z]; rfl
        | some d => obtain ⟨v, e2, _⟩ := h2 d z; rw [e2]; rfl
      rw [this]; exact q
    · cases h
  | none =>
    simp only [hd] at h
    cases ry with
    | str w =>
      simp only [inStr] at h
      cases rx with
      | str z =>
        simp only at h
        split at h
        · rename_i k hz
          cases h
          have : z = ⟨#[k]⟩ := by
            cases z with
            | mk cps => congr; exact Array.toList_inj.mp (by simpa using hz)
          subst this
          exact .inr (.inl ⟨k, w, rfl, rfl, q⟩)
        · cases h
      | _ => cases h
    | non => exact in_data R rx .non h q
    | bl b => exact in_data R rx (.bl b) h q
    | int b => exact in_data R rx (.int b) h q
    | ty b => exact in_data R rx (.ty b) h q
    | tup s r => exact in_data R rx (.tup s r) h q
    | wt s r => exact in_data R rx (.wt s r) h q
    | scr s r => exact in_data R rx (.scr s r) h q
    | ref s => exact in_data R rx (.ref s) h q
    | nm s => exact in_data R rx (.nm s) h q
    | exc s => exact in_data R rx (.exc s) h q
theorem os_notin : OpS K ca (rInAll K true) oNotIn := fun F m A H x y dx dy W σ Q R rx ry p => by
  unfold oNotIn oB at p
  cases q : inA A dx dy with
  | none => simp only [q] at p; exact p.elim
  | some b => simp only [q, Option.map] at p; exact in_core R rx ry q (po_ok R (.bl _) p)
/-! ### stores -/
/-- xs[i] = v, d[k] = v -/
def setIt (A : Hs) (x y v : D) : Option Hs := match x with
  | .ref i => match A[i]? with
    | some (.lst l) => match y with
      | .int k => match ixN l.length k with
        | some n => some (A.set i (.lst (l.set n v)))
        | none => none
      | _ => none
    | some (.dic t false l) => if keyOk t y && decide (l.length < sizeLine) then some (A.set i (.dic t false (kput l y v))) else none
    | _ => none
  | _ => none
/-- o[i] = e: first e, then o, then i -/
def ofH (env : Sl) : Option Hs → RS
  | some A => .nx env A
  | none => .stuck
def sPut (o i a : E) : S := fun env A => ofE env (a env A) fun v A1 => ofE env (o env A1) fun x A2 => ofE env (i env A2) fun y A3 => ofH env (setIt A3 x y v)
theorem set_lst {x y v : V} {dy dv : D} {i : Nat} {l : List D} (R : Rl K ca F m A H) (rx : Rep K ca F m x (.ref i)) (ry : Rep K ca F m y dy) (rv : Rep K ca F m v dv) (hA : A[i]? = some (.lst l)) (h : setIt A (.ref i) dy dv = some A2) {Dn : Ends} {f : Hp → Prop}
    (k : ∀ H2, Rl K ca F m A2 H2 → Stp F m H F m H2 → f H2) : rSetL x y v H f := by
  unfold setIt at h
  simp only [hA] at h
  cases ry with
  | int j =>
    simp only at h
    cases q : ixN l.length j with
    | none => rw [q] at h; cases h
    | some n =>
      rw [q] at h; cases h
      obtain ⟨a, vs, e, h1, h2, h3⟩ := lst_at R rx hA
      obtain ⟨R2, g2⟩ := lst_put R h1 h2 (h3.set rv n)
      exact ⟨a, vs, j, n, e, rfl, h2, by rw [h3.length]; exact q, k _ R2 g2⟩
  | _ => cases h
theorem set_dic {x y v : V} {dy dv : D} {i : Nat} {t : Bool} {l : List (D × D)} (R : Rl K ca F m A H) (rx : Rep K ca F m x (.ref i)) (ry : Rep K ca F m y dy) (rv : Rep K ca F m v dv) (hA : A[i]? = some (.dic t false l)) (h : setIt A (.ref i) dy dv = some A2) :
    ∃ a H2, x = .ref a ∧ DPut H a y v H2 ∧ Rl K ca F m A2 H2 ∧ Stp F m H F m H2 := by
  unfold setIt at h
  simp only [hA] at h
  split at h
  · rename_i hk
    cases h
    rw [Bool.and_eq_true, decide_eq_true_eq] at hk
    obtain ⟨a, e, ha, r⟩ := R.at hA rx
    cases t with
    | false =>
      obtain ⟨kvs, h1, h2⟩ := r
      cases z : keyK dy with
      | none => simp [keyOk, z] at hk
      | some kk =>
        have e2 := keyK_kD z
        subst e2
        have e3 : y = kV kk := by
          cases kk with
          | inl i => cases ry; rfl
          | inr x => cases ry; rfl
        have h1' : H a = some (.dK kvs) := h1
        obtain ⟨R2, g2⟩ := R.put (u := .dK (putK kvs kk v)) (o' := .dic false false (kput l (kD kk) dv)) ha (fun od w z => by rw [h1'] at z; cases z) ⟨_, upd_same, kput_rep keq_kD rv h2⟩
        exact ⟨a, _, e, .inl ⟨kvs, kk, h1, e3, by rw [h2.length]; exact hk.2, rfl⟩, R2, g2⟩
    | true =>
      obtain ⟨kvs, h1, h2⟩ := r
      cases dy with
      | tup dl =>
          cases z : keysK dl with
        | none => simp [keyOk, z] at hk
        | some ks =>
          obtain ⟨b, e3, h3⟩ := tup_key R ry z
          have e2 := keysK_kT z
          subst e2
          have h1' : H a = some (.dT kvs) := h1
          obtain ⟨R2, g2⟩ := R.put (u := .dT (putK kvs ks v)) (o' := .dic true false (kput l (kT ks) dv)) ha (fun od w z => by rw [h1'] at z; cases z) ⟨_, upd_same, kput_rep keq_kT rv h2⟩
          exact ⟨a, _, e, .inr ⟨kvs, ks, b, h1, e3, h3, by rw [h2.length]; exact hk.2, rfl⟩, R2, g2⟩
      | _ => simp [keyOk] at hk
  · cases h
end
end SM

namespace SM
open PySem L2
open DL (Ex ExK rLenU rAbs rMax2 rMin2 rInt1 rListOf rTupleOf iSeqU rIsiU InC)
section
variable {K : PySem.W.Frag} {ca : CaT} {F F1 F2 H H1 H2 : Hp} {m m1 m2 : List Addr} {A A1 A2 : Hs} {σ : L2.St} {env : Sl} {W : WX} {Q : VK}
variable {ta tb tc te to ti : TE} {a b c o : E} {i : Nat} {d : D} {ts : TA} {as : As} {x : V} {dx : D} {t u : TS} {f g h : S}
/-! ### o[i] = e -/
theorem SimS.pick (h1 : SimS K ca W t g) (h2 : SimS K ca W u h) (k : ∀ env A, f env A = g env A ∨ f env A = h env A) : SimS K ca W (fun D σ H => t D σ H ∨ u D σ H) f := fun F m A σ H env Dn R S p => by
  rcases k env A with q | q
  · rw [q] at p; exact .inl (h1 F m A σ H env Dn R S p)
  · rw [q] at p; exact .inr (h2 F m A σ H env Dn R S p)
def isLst (A : Hs) : D → Bool
  | .ref i => match A[i]? with
    | some (.lst _) => true
    | _ => false
  | _ => false
def sPut1 (w : Bool) (o i a : E) : S := fun env A => ofE env (a env A) fun v A1 => ofE env (o env A1) fun x A2 => ofE env (i env A2) fun y A3 => if isLst A3 x = w then ofH env (setIt A3 x y v) else .stuck
theorem put_pick {o i a : E} (env : Sl) (A : Hs) : sPut o i a env A = sPut1 true o i a env A ∨ sPut o i a env A = sPut1 false o i a env A := by
  unfold sPut sPut1
  cases a env A with
  | stuck => exact .inl rfl
  | exc _ _ => exact .inl rfl
  | ok v A1 =>
    simp only [ofE]
    cases o env A1 with
    | stuck => exact .inl rfl
    | exc _ _ => exact .inl rfl
    | ok x A2 =>
      simp only [ofE]
      cases i env A2 with
      | stuck => exact .inl rfl
      | exc _ _ => exact .inl rfl
      | ok y A3 =>
        simp only [ofE]
        cases q : isLst A3 x with
        | true => exact .inl (by simp)
        | false => exact .inr (by simp)
theorem isLst_at {A : Hs} {x : D} {w : Bool} (h : isLst A x = true) : ∃ i l, x = .ref i ∧ A[i]? = some (.lst l) := by
  cases x with
  | ref i =>
    unfold isLst at h
    cases q : A[i]? with
    | none => simp [q] at h
    | some o =>
      cases o with
      | lst l => exact ⟨i, l, rfl, q⟩
      | dic _ _ _ => simp [q] at h
      | obj _ _ => simp [q] at h
  | _ => cases h
theorem setIt_dic {A A2 : Hs} {x y v : D} (h : setIt A x y v = some A2) (n : isLst A x = false) : ∃ i t l, x = .ref i ∧ A[i]? = some (.dic t false l) := by
  unfold setIt at h
  cases x with
  | ref i =>
    unfold isLst at n
    cases q : A[i]? with
    | none => simp [q] at h
    | some o =>
      cases o with
      | lst l => simp [q] at n
      | dic t lk l =>
        cases lk with
        | false => exact ⟨i, t, l, rfl, q⟩
        | true => simp [q] at h
      | obj _ _ => simp [q] at h
  | _ => simp at h
theorem ss_putL (ho : SimE K ca W to o) (hi : SimE K ca W ti b) (ha : SimE K ca W ta a) : SimS K ca W (tAsg ta (gSub to ti rSetL)) (sPut1 true o b a) := fun F m A σ H env Dn R S p =>
  ofE_bind ha R S p fun F1 m1 A1 H1 v dv R1 g1 S1 rv p1 => ofE_bind ho R1 S1 p1 fun F2 m2 A2 H2 x dx R2 g2 S2 rx p2 => ofE_bind hi R2 S2 p2 fun F3 m3 A3 H3 y dy R3 g3 S3 ry p3 => by
    split at p3
    · rename_i hl
      cases hs : setIt A3 dx dy dv with
      | none => rw [hs] at p3; exact p3.elim
      | some A4 =>
        rw [hs] at p3
        obtain ⟨j, l, rfl, hA⟩ := isLst_at (w := true) hl
        exact set_lst (Dn := Dn) R3 (rx.mono g3.ff g3.mm) ry (rv.mono (g2.trans g3).ff (g2.trans g3).mm) hA hs fun H4 R4 g4 => p3 F3 m3 σ H4 R4 g4 (S3.stp g4)
    · exact p3.elim
theorem ss_putD (ho : SimE K ca W to o) (hi : SimE K ca W ti b) (ha : SimE K ca W ta a) : SimS K ca W (sDPut to ti ta) (sPut1 false o b a) := fun F m A σ H env Dn R S p =>
  ofE_bind ha R S p fun F1 m1 A1 H1 v dv R1 g1 S1 rv p1 => ofE_bind ho R1 S1 p1 fun F2 m2 A2 H2 x dx R2 g2 S2 rx p2 => ofE_bind hi R2 S2 p2 fun F3 m3 A3 H3 y dy R3 g3 S3 ry p3 => by
    split at p3
    · rename_i hl
      cases hs : setIt A3 dx dy dv with
      | none => rw [hs] at p3; exact p3.elim
      | some A4 =>
        rw [hs] at p3
        obtain ⟨j, t, l, rfl, hA⟩ := setIt_dic hs hl
        obtain ⟨a', H4, e, h1, R4, g4⟩ := set_dic R3 (rx.mono g3.ff g3.mm) ry (rv.mono (g2.trans g3).ff (g2.trans g3).mm) hA hs
        exact ⟨a', H4, e, h1, p3 F3 m3 σ H4 R4 g4 (S3.stp g4)⟩
    · exact p3.elim
theorem ss_put (ho : SimE K ca W to o) (hi : SimE K ca W ti b) (ha : SimE K ca W ta a) : SimS K ca W (fun D σ H => tAsg ta (gSub to ti rSetL) D σ H ∨ sDPut to ti ta D σ H) (sPut o b a) := SimS.pick (ss_putL ho hi ha) (ss_putD ho hi ha) put_pick
/-! ### built-ins -/
def c1 (f : D → Hs → RE D) : List D → Hs → RE D := fun ds A => match ds with
  | [d] => f d A
  | _ => .stuck
def c2 (f : D → D → Hs → RE D) : List D → Hs → RE D := fun ds A => match ds with
  | [d, e] => f d e A
  | _ => .stuck
theorem cs_1 {r : List V → Hp → VK → Prop} {f : D → Hs → RE D} (h : ∀ F m A H x dx W σ Q, Rl K ca F m A H → Rep K ca F m x dx → Po K ca (Rep K ca) F m H W σ Q (f dx A) → r [x] H Q) : CbS K ca r (c1 f) := fun F m A H xs ds W σ Q R rs p => by
  match ds, xs, rs, p with
  | [d], _, .cons r1 .nil, p => exact h F m A H _ d W σ Q R r1 p
  | [], _, _, p => exact p.elim
  | _ :: _ :: _, _, _, p => exact p.elim
theorem cs_2 {r : List V → Hp → VK → Prop} {f : D → D → Hs → RE D} (h : ∀ F m A H x y dx dy W σ Q, Rl K ca F m A H → Rep K ca F m x dx → Rep K ca F m y dy → Po K ca (Rep K ca) F m H W σ Q (f dx dy A) → r [x, y] H Q) : CbS K ca r (c2 f) := fun F m A H xs ds W σ Q R rs p => by
  match ds, xs, rs, p with
  | [d, e], _, .cons r1 (.cons r2 .nil), p => exact h F m A H _ _ d e W σ Q R r1 r2 p
  | [], _, _, p => exact p.elim
  | [_], _, _, p => exact p.elim
  | _ :: _ :: _ :: _, _, _, p => exact p.elim
def lenA (A : Hs) (x : D) : Option Nat := match seqL A x with
  | some l => some l.length
  | none => match seqT x with
    | some l => some l.length
    | none => match x with
      | .str z => if z.length ≤ sizeLine then some z.length else none
      | .ref i => match A[i]? with
        | some (.dic false false l) => some l.length
        | _ => none
      | _ => none
def oLen (x : D) (A : Hs) : RE D := match lenA A x with
  | some n => .ok (.int (n : Int)) A
  | none => .stuck
theorem cs_len : CbS K ca (rLenU K) (c1 oLen) := cs_1 fun F m A H x dx W σ Q R rx p => by
  unfold oLen at p
  cases q : lenA A dx with
  | none => rw [q] at p; exact p.elim
  | some n =>
    rw [q] at p
    have hq := po_ok R (Rep.int _) p
    unfold lenA at q
    split at q
    · rename_i l hl
      cases q
      obtain ⟨a, vs, e, h1, h2⟩ := seqL_at R rx hl
      subst e
      exact .inl ⟨_, l.length, rfl, .inl ⟨vs, h1, h2.length.symm⟩, hq⟩
    · split at q
      · rename_i l hl
        cases q
        obtain ⟨a, vs, e, h1, h2⟩ := seqT_at R rx hl
        subst e
        exact .inl ⟨_, l.length, rfl, .inr ⟨vs, h1, h2.length.symm⟩, hq⟩
      · cases rx with
        | str z =>
          simp only at q
          split at q
          · rename_i hz; cases q; exact .inl ⟨_, _, rfl, ⟨hz, rfl⟩, hq⟩
          · cases q
        | ref hm =>
          simp only at q
          split at q
          · rename_i l hA
            cases q
            obtain ⟨a, e, ha, kvs, h1, h2⟩ := R.at hA (.ref hm)
            refine .inr ⟨a, kvs, by rw [e], h1, ?_⟩
            rw [h2.length]; exact hq
          · cases q
        | _ => cases q
def boolsOf : List D → Option (List Bool)
  | [] => some []
  | .bl b :: r => (boolsOf r).map (b :: ·)
  | _ :: _ => none
def intsOf : List D → Option (List Int)
  | [] => some []
  | .int b :: r => (intsOf r).map (b :: ·)
  | _ :: _ => none
theorem boolsOf_eq : ∀ {l : List D} {bs : List Bool}, boolsOf l = some bs → l = bs.map D.bl
  | [], _, h => by cases h; rfl
  | d :: r, bs, h => by
    cases d with
    | bl b =>
      unfold boolsOf at h
      cases q : boolsOf r with
      | none => rw [q] at h; cases h
      | some s => rw [q] at h; cases h; rw [List.map_cons, ← boolsOf_eq q]
    | _ => cases h
theorem intsOf_eq : ∀ {l : List D} {bs : List Int}, intsOf l = some bs → l = bs.map D.int
  | [], _, h => by cases h; rfl
  | d :: r, bs, h => by
    cases d with
    | int b =>
      unfold intsOf at h
      cases q : intsOf r with
      | none => rw [q] at h; cases h
      | some s => rw [q] at h; cases h; rw [List.map_cons, ← intsOf_eq q]
    | _ => cases h
theorem z03 : ∀ bs : List Bool, boolsOf (bs.map D.bl) = some bs
  | [] => rfl
  | b :: r => by rw [List.map_cons]; unfold boolsOf; rw [z03 r]; rfl
theorem z09 : ∀ bs : List Int, intsOf (bs.map D.int) = some bs
  | [] => rfl
  | b :: r => by rw [List.map_cons]; unfold intsOf; rw [z09 r]; rfl
def oAll (x : D) (A : Hs) : RE D := match (seqL A x).bind boolsOf with
  | some bs => .ok (.bl (bs.all id)) A
  | none => .stuck
def oSum (x : D) (A : Hs) : RE D := match (seqL A x).bind intsOf with
  | some ns => .ok (.int ns.sum) A
  | none => .stuck
theorem cs_all : CbS K ca (L2.rAll K) (c1 oAll) := cs_1 fun F m A H x dx W σ Q R rx p => by
  unfold oAll at p
  split at p
  · rename_i bs hb
    obtain ⟨l, h1, h2⟩ := Option.bind_eq_some_iff.mp hb
    obtain ⟨a, vs, e, h3, h4⟩ := seqL_at R rx h1
    have e2 := boolsOf_eq h2
    subst e2
    have e3 := h4.bools
    subst e3 e
    exact ⟨a, bs, rfl, h3, po_ok R (.bl _) p⟩
  · exact p.elim
theorem cs_sum : CbS K ca (L2.rSum K) (c1 oSum) := cs_1 fun F m A H x dx W σ Q R rx p => by
  unfold oSum at p
  split at p
  · rename_i bs hb
    obtain ⟨l, h1, h2⟩ := Option.bind_eq_some_iff.mp hb
    obtain ⟨a, vs, e, h3, h4⟩ := seqL_at R rx h1
    have e2 := intsOf_eq h2
    subst e2
    have e3 := h4.ints
    subst e3 e
    exact ⟨a, bs, rfl, h3, po_ok R (.int _) p⟩
  · exact p.elim
def oMax2 := oII fun i j => some (.int (if j > i then j else i))
def oMin2 := oII fun i j => some (.int (if j < i then j else i))
theorem cs_max2 : CbS K ca rMax2 (c2 oMax2) := cs_2 fun F m A H x y dx dy W σ Q R rx ry p => by
  cases rx with
  | int i =>
    cases ry with
    | int j => exact ⟨i, j, rfl, po_ok R (.int _) p⟩
    | _ => exact p.elim
  | _ => exact p.elim
theorem cs_min2 : CbS K ca rMin2 (c2 oMin2) := cs_2 fun F m A H x y dx dy W σ Q R rx ry p => by
  cases rx with
  | int i =>
    cases ry with
    | int j => exact ⟨i, j, rfl, po_ok R (.int _) p⟩
    | _ => exact p.elim
  | _ => exact p.elim
def oInt (x : D) (A : Hs) : RE D := match x with
  | .int i => .ok (.int i) A
  | .bl b => .ok (.int (if b then 1 else 0)) A
  | _ => .stuck
theorem cs_int : CbS K ca rInt1 (c1 oInt) := cs_1 fun F m A H x dx W σ Q R rx p => by
  cases rx with
  | int i => exact .inl ⟨i, rfl, po_ok R (.int _) p⟩
  | bl b => exact .inr ⟨b, rfl, po_ok R (.int _) p⟩
  | _ => exact p.elim
def oList (x : D) (A : Hs) : RE D := match seqL A x with
  | some l => alloc A (.lst l)
  | none => match seqT x with
    | some l => alloc A (.lst l)
    | none => .stuck
theorem cs_list : CbS K ca (rListOf K) (c1 oList) := cs_1 fun F m A H x dx W σ Q R rx p => by
  unfold oList at p
  split at p
  · rename_i l hl
    obtain ⟨a, vs, e, h3, h4⟩ := seqL_at R rx hl
    subst e
    exact ⟨a, vs, rfl, .inl h3, fun q hq => po_alloc (o := .lst l) R hq ⟨vs, upd_same, h4.mono (Ex.refl _) ⟨_, rfl⟩⟩ p⟩
  · split at p
    · rename_i l hl
      obtain ⟨a, vs, e, h3, h4⟩ := seqT_at R rx hl
      subst e
      exact ⟨a, vs, rfl, .inr h3, fun q hq => po_alloc (o := .lst l) R hq ⟨vs, upd_same, h4.mono (Ex.refl _) ⟨_, rfl⟩⟩ p⟩
    · exact p.elim
def oTuple (x : D) (A : Hs) : RE D := match seqL A x with
  | some l => .ok (.tup l) A
  | none => match x with
    | .tup l => .ok (.tup l) A
    | _ => .stuck
theorem cs_tuple : CbS K ca (rTupleOf K) (c1 oTuple) := cs_1 fun F m A H x dx W σ Q R rx p => by
  unfold oTuple at p
  split at p
  · rename_i l hl
    obtain ⟨a, vs, e, h3, h4⟩ := seqL_at R rx hl
    subst e
    refine ⟨a, vs, rfl, .inl ⟨h3, fun q hq => ?_⟩⟩
    obtain ⟨R2, g2⟩ := R.new (u := .tup vs) hq
    exact p _ _ _ _ R2 g2 (.tup upd_same (h4.mono g2.ff g2.mm))
  · cases rx with
    | tup s rs => exact ⟨_, _, rfl, .inr ⟨.inl (.inl (R.fh _ _ s)), po_ok R (.tup s rs) p⟩⟩
    | _ => exact p.elim
/-! ### isinstance -/
/-- the class that a thing is of; os, xs: own classes, own exceptions at hand -/
def kdOf (os xs : List String) (A : Hs) : D → Option String
  | .non => some "NoneType"
  | .bl _ => some "bool"
  | .int _ => some "int"
  | .str _ => some "str"
  | .tup _ => some "tuple"
  | .scr _ => none
  | .exc C => if C ∈ xs then some C else none
  | .ref i => match A[i]? with
    | some (.lst _) => some "list"
    | some (.dic t lk _) => if t && lk then none else some "dict"
    | some (.obj C _) => if C ∈ os then some C else none
    | none => none
  | _ => none
def btn (n : String) : Bool := n == "NoneType" || n == "bool" || n == "int" || n == "str" || n == "tuple" || n == "list" || n == "dict" || n == "ValueError"
def clOf : D → Option String
  | .ty n => if btn n then some n else none
  | .nm C => if btn C then none else some C
  | _ => none
/-- a name's class object -/
def vOf (ca : CaT) (n : String) : Value := if btn n then .type n else .ref (ca n)
def subB (n c : String) : Bool := n == c || n == "bool" && c == "int"
/-- is the class n one of c: by the built-in ones, else by a table -/
def isiOf (tb : List (String × String × Bool)) (n c : String) : Option Bool := if btn n && btn c && n != "ValueError" then some (subB n c) else (tb.find? fun e => e.1 == n && e.2.1 == c).map (·.2.2)
/-- one of some classes -/
def isiAny (tb : List (String × String × Bool)) (n : String) : List D → Option Bool
  | [] => some false
  | c :: r => match clOf c with
    | some k => match isiOf tb n k with
      | some true => some true
      | some false => isiAny tb n r
      | none => none
    | none => none
def isiAll : List D → Bool
  | [] => true
  | c :: r => (clOf c).isSome && isiAll r
def isiD (os xs : List String) (tb : List (String × String × Bool)) (A : Hs) (x c : D) : Option Bool := match kdOf os xs A x with
  | none => none
  | some n => match c with
    | .tup l => if isiAll l then isiAny tb n l else none
    | c => match clOf c with
      | some k => isiOf tb n k
      | none => none
def oIsi (os xs : List String) (tb : List (String × String × Bool)) (x c : D) (A : Hs) : RE D := match isiD os xs tb A x c with
  | some b => .ok (.bl b) A
  | none => .stuck
inductive TbOk (K : PySem.W.Frag) (ca : CaT) : List (String × String × Bool) → Prop
  | nil : TbOk K ca []
  | cons {n c : String} {b : Bool} {r : List (String × String × Bool)} : PySem.W.kitOne K (vOf ca n) (vOf ca c) = some b → TbOk K ca r → TbOk K ca ((n, c, b) :: r)
theorem TbOk.of {tb : List (String × String × Bool)} (h : TbOk K ca tb) {n c : String} {b : Bool} (q : (tb.find? fun e => e.1 == n && e.2.1 == c).map (·.2.2) = some b) : PySem.W.kitOne K (vOf ca n) (vOf ca c) = some b := by
  induction h with
  | nil => cases q
  | cons h1 h2 ih =>
    rename_i n' c' b' r
    rw [List.find?_cons] at q
    cases z : (n' == n && c' == c) with
    | true =>
      simp only [z] at q
      cases q
      rw [Bool.and_eq_true] at z
      rw [← eq_of_beq z.1, ← eq_of_beq z.2]; exact h1
    | false => simp only [z] at q; exact ih q
def btns : List String := ["NoneType", "bool", "int", "str", "tuple", "list", "dict", "ValueError"]
theorem btn_mem {n : String} (h : btn n = true) : n ∈ btns := by
  simp only [btn, Bool.or_eq_true, beq_iff_eq] at h
  simp only [btns, List.mem_cons, List.mem_nil_iff, or_false]
  rcases h with ((((((h | h) | h) | h) | h) | h) | h) | h <;> simp [h]
theorem isi_all : ∀ n ∈ btns, ∀ c ∈ btns, (n != "ValueError") = true → kitB n c = some (subB n c) := by decide +kernel
theorem isi_sub {n c : String} (h1 : btn n = true) (h2 : btn c = true) (h3 : (n != "ValueError") = true) : kitB n c = some (subB n c) := isi_all n (btn_mem h1) c (btn_mem h2) h3
theorem isi_of {tb : List (String × String × Bool)} (h : TbOk K ca tb) {n c : String} {b : Bool} (q : isiOf tb n c = some b) : PySem.W.kitOne K (vOf ca n) (vOf ca c) = some b := by
  unfold isiOf at q
  split at q
  · rename_i z
    rw [Bool.and_eq_true, Bool.and_eq_true] at z
    cases q
    unfold vOf
    rw [if_pos z.1.1, if_pos z.1.2]
    exact kit_ty (isi_sub z.1.1 z.1.2 z.2)
  · exact h.of q
theorem cl_at {y : V} {dy : D} {k : String} (r : Rep K ca F m y dy) (h : clOf dy = some k) : ClsV y (vOf ca k) := by
  cases r with
  | ty n =>
    unfold clOf at h
    simp only at h
    split at h
    · rename_i z; cases h; unfold vOf; rw [if_pos z]; exact .ty _
    · cases h
  | nm C =>
    unfold clOf at h
    simp only at h
    split at h
    · cases h
    · rename_i z; cases h; unfold vOf; rw [if_neg z]; exact .own _
  | _ => cases h
/-- how isinstance sees a thing -/
inductive Sees (K : PySem.W.Frag) (H : Hp) (x : V) (u : Value) : Prop
  | ty : TyX K H x u → Sees K H x u
  | exc {a C : Addr} : x = .ref a → u = .ref C → H a = some (ExK C a) → ExcC K C → Sees K H x u
theorem sees_of {os xs : List String} {x : V} {n : String} (ho : AllC (fun C => InC K (ca C) ∧ btn C = false) os) (hx : AllC (fun C => ExcC K (ca C) ∧ btn C = false) xs) (R : Rl K ca F m A H) (rx : Rep K ca F m x dx) (h : kdOf os xs A dx = some n) : Sees K H x (vOf ca n) := by
  cases rx with
  | non => cases h; exact .ty (.base .non)
  | bl b => cases h; exact .ty (.base (.bl b))
  | int b => cases h; exact .ty (.base (.int b))
  | str b => cases h; exact .ty (.base (.str b))
  | tup s r => cases h; exact .ty (.base (.tup (R.fh _ _ s)))
  | exc s =>
    rename_i a C
    unfold kdOf at h
    simp only at h
    split at h
    · rename_i z; cases h
      have k := AllC.of hx z
      refine .exc rfl ?_ (R.fh _ _ s) k.1
      unfold vOf; rw [k.2]; rfl
    · cases h
  | ref hm =>
    unfold kdOf at h
    simp only at h
    split at h
    · rename_i l hA
      cases h
      obtain ⟨a, vs, e, h1, h2, h3⟩ := lst_at R (.ref hm) hA
      rw [e]
      exact .ty (.base (.lst h2))
    · rename_i t lk l hA
      split at h
      · cases h
      · rename_i z
        cases h
        obtain ⟨a, e, ha, r⟩ := R.at hA (.ref hm)
        rw [e]
        cases t with
        | false =>
          obtain ⟨kvs, h1, _⟩ := r
          cases lk with
          | false => exact .ty (.base (.dK h1))
          | true => obtain ⟨od, h1⟩ := h1; exact .ty (.fDict h1)
        | true =>
          obtain ⟨kvs, h1, _⟩ := r
          cases lk with
          | false => exact .ty (.base (.dT h1))
          | true => exact absurd rfl z
    · rename_i C fs hA
      split at h
      · rename_i z
        cases h
        obtain ⟨a, e, ha, dxx, kvs, h1, _⟩ := R.at hA (.ref hm)
        rw [e]
        have k := AllC.of ho z
        have i := k.1
        refine .ty (.base ?_)
        unfold vOf
        rw [k.2]
        exact .ins h1 i.cl i.ha i.hn i.ht i.hm
      · cases h
    · cases h
  | _ => cases h
theorem isiAny_kit {tb : List (String × String × Bool)} (ht : TbOk K ca tb) {n : String} : ∀ {vs : List V} {l : List D} {b : Bool}, RepL K ca F m vs l → isiAll l = true → isiAny tb n l = some b → ∃ us, Paired ClsV vs us ∧ PySem.W.kitAny K (vOf ca n) us = some b
  | _, _, _, .nil, _, h => by cases h; exact ⟨[], .nil, kitAny_nil⟩
  | _, _, _, .cons r rs, ha, h => by
    unfold isiAll at ha
    rw [Bool.and_eq_true] at ha
    unfold isiAny at h
    cases q : clOf _ with
    | none => rw [q] at h; cases h
    | some k =>
      rw [q] at h
      simp only at h
      cases q2 : isiOf tb n k with
      | none => rw [q2] at h; cases h
      | some c =>
        rw [q2] at h
        have k1 := isi_of ht q2
        cases c with
        | true =>
          cases h
          -- the rest only has to be classes
          have rest : ∀ {vs : List V} {l : List D}, RepL K ca F m vs l → isiAll l = true → ∃ us, Paired ClsV vs us := by
            intro vs l
            induction l generalizing vs with
            | nil => intro r _; cases r; exact ⟨[], .nil⟩
            | cons d l ih =>
              intro r hl
              cases r with
              | cons r1 r2 =>
                unfold isiAll at hl
                rw [Bool.and_eq_true] at hl
                obtain ⟨us, hus⟩ := ih r2 hl.2
                cases z : clOf d with
                | none => rw [z] at hl; cases hl.1
                | some kk => exact ⟨_ :: us, .cons (cl_at r1 z) hus⟩
          obtain ⟨us, hus⟩ := rest rs ha.2
          exact ⟨_ :: us, .cons (cl_at r q) hus, kitAny_cons k1 (fun z => by cases z) fun _ => rfl⟩
        | false =>
          obtain ⟨us, h1, h2⟩ := isiAny_kit ht rs ha.2 h
          exact ⟨_ :: us, .cons (cl_at r q) h1, kitAny_cons k1 (fun _ => h2) fun z => by cases z⟩
/-- isinstance(x, c) -/
theorem cs_isi {os xs : List String} {tb : List (String × String × Bool)} (ho : AllC (fun C => InC K (ca C) ∧ btn C = false) os) (hx : AllC (fun C => ExcC K (ca C) ∧ btn C = false) xs) (ht : TbOk K ca tb) : CbS K ca (rIsiU K) (c2 (oIsi os xs tb)) := cs_2 fun F m A H x y dx dy W σ Q R rx ry p => by
  unfold oIsi at p
  cases q : isiD os xs tb A dx dy with
  | none => rw [q] at p; exact p.elim
  | some b =>
    rw [q] at p
    have hq := po_ok R (Rep.bl _) p
    unfold isiD at q
    cases z : kdOf os xs A dx with
    | none => rw [z] at q; cases q
    | some n =>
      rw [z] at q
      have sees := sees_of ho hx R rx z
      have one : ∀ k, clOf dy = some k → isiOf tb n k = some b → rIsiU K [x, y] H Q := fun k h1 h2 => by
        have kit := isi_of ht h2
        have cl := cl_at ry h1
        cases sees with
        | ty t => exact .inl ⟨x, y, _, _, b, rfl, cl, t, kit, hq⟩
        | exc e1 e2 e3 e4 =>
          subst e1
          rw [e2] at kit
          exact .inr (.inr (.inl ⟨_, _, y, _, b, rfl, e3, e4, cl, kit, hq⟩))
      cases ry with
      | tup s rs =>
        simp only at q
        split at q
        · rename_i ha
          obtain ⟨us, h1, h2⟩ := isiAny_kit ht rs ha q
          cases sees with
          | ty t => exact .inr (.inl ⟨x, _, _, _, us, b, rfl, R.fh _ _ s, h1, t, h2, hq⟩)
          | exc e1 e2 e3 e4 =>
            subst e1
            rw [e2] at h2
            exact .inr (.inr (.inr ⟨_, _, _, _, us, b, rfl, e3, e4, R.fh _ _ s, h1, h2, hq⟩))
        · cases q
      | ty n' =>
        simp only at q
        split at q
        · rename_i k hk; exact one k hk q
        · cases q
      | nm n' =>
        simp only at q
        split at q
        · rename_i k hk; exact one k hk q
        · cases q
      | _ => simp [clOf] at q
end
end SM

namespace L2
open PySem PySem.Spec PyProof.Rows
end L2
namespace SM
open PySem L2
open DL (Ex ExK rInt1 iSeqU rng rngC rng_len rngC_len rng_get rngC_get enumD enumD_len enumD_get zipD)
section
variable {K : PySem.W.Frag} {ca : CaT} {F F1 F2 H H1 H2 : Hp} {m m1 m2 : List Addr} {A A1 A2 : Hs} {σ : L2.St} {env : Sl} {W : WX} {Q : VK}
variable {ta tb tc te to ti : TE} {a b c o : E} {i : Nat} {d : D} {ts : TA} {as : As} {x : V} {dx : D}
/-! ### what is walked -/
theorem SimI.pick {t u : TI} {f g h : Sl → Hs → RE Wk} (h1 : SimI K ca W t g) (h2 : SimI K ca W u h) (k : ∀ env A, f env A = g env A ∨ f env A = h env A) : SimI K ca W (fun σ H R => t σ H R ∨ u σ H R) f := fun F m A σ H env Q R S p => by
  rcases k env A with q | q
  · rw [q] at p; exact .inl (h1 F m A σ H env Q R S p)
  · rw [q] at p; exact .inr (h2 F m A σ H env Q R S p)
def tt : Hs → Prop := fun _ => True
/-- the signs of a text -/
def signsOf (z : Str) : List D := z.cps.toList.map fun c => .str ⟨#[c]⟩
def wkL (A : Hs) (x : D) : Option Wk := match x with
  | .ref i => match A[i]? with
    | some (.lst l) => some ⟨l, fun A' => A'[i]? = some (.lst l)⟩
    | _ => none
  | .scr l => some ⟨l, tt⟩
  | _ => none
def wkT (_ : Hs) (x : D) : Option Wk := match x with
  | .tup l => some ⟨l, tt⟩
  | .wt l => some ⟨l, tt⟩
  | _ => none
def wkS (_ : Hs) (x : D) : Option Wk := match x with
  | .str z => some ⟨signsOf z, tt⟩
  | _ => none
/-- a list, a tuple, a text -/
def wkA (A : Hs) (x : D) : Option Wk := match x with
  | .ref _ => wkL A x
  | .scr _ => wkL A x
  | .tup _ => wkT A x
  | .wt _ => wkT A x
  | _ => wkS A x
def wOf (f : Hs → D → Option Wk) (a : E) : Sl → Hs → RE Wk := fun env A => (a env A).bind fun x A1 => match f A1 x with
  | some k => .ok k A1
  | none => .stuck
def wSeq (a : E) : Sl → Hs → RE Wk := wOf wkA a
theorem wOf_bind {f : Hs → D → Option Wk} {R' : It → Hp → Prop} {T : VK} (h : SimE K ca W te a) (R : Rl K ca F m A H) (S : Slt K ca F m σ env) (p : PoW K ca F m H W σ R' (wOf f a env A))
    (k : ∀ F1 m1 A1 H1 x d kk, Rl K ca F1 m1 A1 H1 → Rep K ca F1 m1 x d → f A1 d = some kk → PoW K ca F1 m1 H1 W σ R' (.ok kk A1) → T x H1) : te σ H T := by
  refine h F m A σ H env T R S ?_
  unfold wOf at p
  cases q : a env A with
  | ok d A1 =>
    rw [q] at p
    intro v F1 m1 H1 R1 g1 r
    simp only [RE.bind] at p
    cases z : f A1 d with
    | none => rw [z] at p; exact p.elim
    | some kk =>
      rw [z] at p
      exact k F1 m1 A1 H1 v d kk R1 r z fun J F' m' H' R2 g2 hh => p J F' m' H' R2 (g1.trans g2) hh
  | exc C A1 => rw [q] at p; exact p
  | stuck => rw [q] at p; exact p
/-- the list at a, as it is at each turn -/
theorem walk_live {a : Addr} {n : Nat} : Walk (Itl K a) n (fun H => ∃ vs, SqL K H a vs ∧ vs.length = n) (fun i H x H' => H' = H ∧ ∀ xs, SqL K H a xs → xs[i]? = some x) :=
  ⟨fun i _ hi ⟨vs, q, e⟩ => ⟨vs, vs[i]'(by omega), q, by simp [show i < vs.length by omega]⟩, fun _ ⟨vs, q, e⟩ => ⟨vs, q, by omega⟩, fun _ _ _ _ _ _ y => y⟩
theorem sw_list (h : SimE K ca W te a) : SimI K ca W (iList K te) (wOf wkL a) := fun F m A σ H env Q R S p => wOf_bind h R S p fun F1 m1 A1 H1 x d kk R1 r hk p1 => by
  cases r with
  | ref hm =>
    rename_i aa i
    unfold wkL at hk
    simp only at hk
    cases hA : A1[i]? with
    | none => simp [hA] at hk
    | some o =>
      cases o with
      | lst l =>
        simp only [hA, Option.some.injEq] at hk
        subst hk
        obtain ⟨a', vs, e, h1, h2, h3⟩ := lst_at R1 (.ref hm) hA
        cases e
        refine ⟨aa, rfl, ⟨vs, .inl (.inl h2)⟩, p1 _ F1 m1 H1 R1 Stp.refl ⟨_, _, walk_live, fun F2 m2 A2 H2 hg R2 g2 => ?_, fun i' d' x' F2 m2 A2 H2 H3 e hg R2 g2 y => .inl ⟨y.1, ?_⟩⟩⟩
        · obtain ⟨a2, vs2, e2, _, h4, h5⟩ := lst_at R2 (.ref (g2.mm.get h1)) hg
          cases e2
          exact ⟨vs2, .inl (.inl h4), h5.length⟩
        · obtain ⟨a2, vs2, e2, _, h4, h5⟩ := lst_at R2 (.ref (g2.mm.get h1)) hg
          cases e2
          obtain ⟨z, z1, z2⟩ := h5.get e
          have := y.2 vs2 (.inl (.inl h4))
          rw [z1] at this; cases this; exact z2
      | dic _ _ _ => simp [hA] at hk
      | obj _ _ => simp [hA] at hk
  | scr s rs =>
    cases hk
    refine ⟨_, rfl, ⟨_, R1.fh.l s⟩, p1 _ F1 m1 H1 R1 Stp.refl ⟨_, _, walk_live, fun F2 m2 A2 H2 hg R2 g2 => ⟨_, R2.fh.l (g2.ff.l s), rs.length⟩, fun i' d' x' F2 m2 A2 H2 H3 e hg R2 g2 y => .inl ⟨y.1, ?_⟩⟩⟩
    obtain ⟨z, z1, z2⟩ := rs.get e
    have := y.2 _ (R2.fh.l (g2.ff.l s))
    rw [z1] at this; cases this; exact z2.mono g2.ff g2.mm
  | _ => cases hk
theorem sw_tup (h : SimE K ca W te a) : SimI K ca W (iTup K te) (wOf wkT a) := fun F m A σ H env Q R S p => wOf_bind h R S p fun F1 m1 A1 H1 x d kk R1 r hk p1 => by
  have main : ∀ {aa : Addr} {vs : List V} {l : List D}, SqT K F1 aa vs → RepL K ca F1 m1 vs l → kk = ⟨l, tt⟩ → x = .ref aa → ∃ a, x = .ref a ∧ (∃ xs, SqT K H1 a xs) ∧ Q (Itt K a) H1 := fun {aa vs l} s rs e ex => by
    subst e
    refine ⟨aa, ex, ⟨vs, R1.fh.t s⟩, p1 _ F1 m1 H1 R1 Stp.refl ⟨fun H => SqT K H aa vs, YAt vs, by rw [show (Wk.mk l _).ds.length = vs.length from rs.length.symm]; exact walk_tup, fun F2 m2 A2 H2 hg R2 g2 => R2.fh.t (g2.ff.t s), fun i' d' x' F2 m2 A2 H2 H3 e hg R2 g2 y => .inl ⟨y.1, ?_⟩⟩⟩
    obtain ⟨z, z1, z2⟩ := rs.get e
    have := y.2
    rw [z1] at this; cases this; exact z2.mono g2.ff g2.mm
  cases r with
  | tup s rs => cases hk; exact main (.inl (.inl s)) rs rfl rfl
  | wt s rs => cases hk; exact main s rs rfl rfl
  | _ => cases hk
theorem sw_str (h : SimE K ca W te a) : SimI K ca W (iStr te) (wOf wkS a) := fun F m A σ H env Q R S p => wOf_bind h R S p fun F1 m1 A1 H1 x d kk R1 r hk p1 => by
  cases r with
  | str z =>
    cases hk
    refine ⟨z, rfl, p1 _ F1 m1 H1 R1 Stp.refl ⟨fun _ => True, (fun i H v H' => H' = H ∧ ∃ c, z.cps[i]? = some c ∧ v = .str ⟨#[c]⟩), by rw [show (Wk.mk (signsOf z) _).ds.length = z.cps.size by unfold signsOf; simp]; exact walk_str, fun _ _ _ _ _ _ _ => trivial, fun i' d' x' F2 m2 A2 H2 H3 e hg R2 g2 y => .inl ⟨y.1, ?_⟩⟩⟩
    obtain ⟨_, c, h1, h2⟩ := y
    have e' : (signsOf z)[i']? = some d' := e
    unfold signsOf at e'
    rw [List.getElem?_map, Array.getElem?_toList, h1] at e'
    cases e'
    rw [h2]
    exact .str _
  | _ => cases hk
theorem wOf_pick {f g h : Hs → D → Option Wk} {a : E} (k : ∀ A x, f A x = g A x ∨ f A x = h A x) (env : Sl) (A : Hs) : wOf f a env A = wOf g a env A ∨ wOf f a env A = wOf h a env A := by
  unfold wOf
  cases a env A with
  | stuck => exact .inl rfl
  | exc _ _ => exact .inl rfl
  | ok x A1 =>
    simp only [RE.bind]
    rcases k A1 x with q | q
    · rw [q]; exact .inl rfl
    · rw [q]; exact .inr rfl
def wkTS (A : Hs) (x : D) : Option Wk := match x with
  | .tup _ => wkT A x
  | .wt _ => wkT A x
  | _ => wkS A x
theorem sw_seq (h : SimE K ca W te a) : SimI K ca W (iSeqU K te) (wSeq a) := SimI.pick (sw_list h) (SimI.pick (sw_tup h) (sw_str h) (wOf_pick (f := wkTS) fun A x => by cases x <;> first | exact .inl rfl | exact .inr rfl)) (wOf_pick fun A x => by cases x <;> first | exact .inl rfl | exact .inr rfl)
/-! ranges -/
def wAs (f : List D → Option Wk) (as : As) : Sl → Hs → RE Wk := fun env A => (as env A).bind fun ds A1 => match f ds with
  | some k => .ok k A1
  | none => .stuck
theorem wAs_bind {f : List D → Option Wk} {R' : It → Hp → Prop} {T : List V → Hp → Prop} (h : SimA K ca W ts as) (R : Rl K ca F m A H) (S : Slt K ca F m σ env) (p : PoW K ca F m H W σ R' (wAs f as env A))
    (k : ∀ F1 m1 A1 H1 x d kk, Rl K ca F1 m1 A1 H1 → RepL K ca F1 m1 x d → f d = some kk → PoW K ca F1 m1 H1 W σ R' (.ok kk A1) → T x H1) : ts σ H T := by
  refine h F m A σ H env T R S ?_
  unfold wAs at p
  cases q : as env A with
  | ok d A1 =>
    rw [q] at p
    intro v F1 m1 H1 R1 g1 r
    simp only [RE.bind] at p
    cases z : f d with
    | none => rw [z] at p; exact p.elim
    | some kk =>
      rw [z] at p
      exact k F1 m1 A1 H1 v d kk R1 r z fun J F' m' H' R2 g2 hh => p J F' m' H' R2 (g1.trans g2) hh
  | exc C A1 => rw [q] at p; exact p
  | stuck => rw [q] at p; exact p
def big (i : Int) : Prop := -(2 ^ 62) ≤ i ∧ i < 2 ^ 62
def rgL (lo c : Int) (n : Nat) : List D := (List.range n).map fun i => .int (lo + (i : Nat) * c)
theorem rgL_get {lo c : Int} {n i : Nat} {d : D} (h : (rgL lo c n)[i]? = some d) : d = .int (lo + (i : Nat) * c) ∧ i < n := by
  unfold rgL at h
  rw [List.getElem?_map] at h
  by_cases q : i < n
  · rw [List.getElem?_range q] at h; cases h; exact ⟨rfl, q⟩
  · rw [List.getElem?_eq_none (by simpa using Nat.le_of_not_lt q)] at h; cases h
theorem rgL_len {lo c : Int} {n : Nat} : (rgL lo c n).length = n := by unfold rgL; simp
open Classical in
noncomputable def rg1 : List D → Option Wk
  | [.int j] => if big j then some ⟨rgL 0 1 j.toNat, tt⟩ else none
  | _ => none
open Classical in
noncomputable def rg2 : List D → Option Wk
  | [.int i, .int j] => if big i ∧ big j then some ⟨rgL i 1 (j - i).toNat, tt⟩ else none
  | _ => none
def cnt (i j c : Int) : Nat := (if i < j then (j - i - 1) / c + 1 else 0).toNat
open Classical in
noncomputable def rg3 : List D → Option Wk
  | [.int i, .int j, .int c] => if -(2 ^ 60) ≤ i ∧ i < 2 ^ 60 ∧ -(2 ^ 60) ≤ j ∧ j < 2 ^ 60 ∧ 0 < c ∧ c < 1000000 then some ⟨rgL i c (cnt i j c), tt⟩ else none
  | _ => none
theorem sw_r1 (h : SimA K ca W ts as) : SimI K ca W (iRng1 ts) (wAs rg1 as) := fun F m A σ H env Q R S p => wAs_bind h R S p fun F1 m1 A1 H1 x d kk R1 r hk p1 => by
  match d, x, r, hk with
  | [.int j], _, .cons (.int _) .nil, hk =>
    unfold rg1 at hk
    simp only at hk
    split at hk
    · rename_i hb
      cases hk
      refine ⟨j, rfl, hb.1, hb.2, p1 _ F1 m1 H1 R1 Stp.refl ⟨fun _ => True, YFn fun i => .int (0 + i), by rw [show (Wk.mk (rgL 0 1 j.toNat) _).ds.length = j.toNat from rgL_len]; exact walk_range, fun _ _ _ _ _ _ _ => trivial, fun i' d' x' F2 m2 A2 H2 H3 e hg R2 g2 y => .inl ⟨y.1, ?_⟩⟩⟩
      obtain ⟨e1, _⟩ := rgL_get e
      rw [y.2, e1, Int.mul_one]; exact .int _
    · cases hk
/-! enumerate, zip -/
def enumL (l : List D) : List D := l.zipIdx.map fun p => .tup [.int (p.2 : Nat), p.1]
theorem enumL_len {l : List D} : (enumL l).length = l.length := by simp [enumL]
theorem enumL_get {l : List D} {i : Nat} {d : D} (h : (enumL l)[i]? = some d) : ∃ x, l[i]? = some x ∧ d = .tup [.int (i : Nat), x] := by
  unfold enumL at h
  rw [List.getElem?_map, List.getElem?_zipIdx] at h
  cases q : l[i]? with
  | none => rw [q] at h; cases h
  | some x => rw [q] at h; simp at h; exact ⟨x, rfl, h.symm⟩
def wkE (A : Hs) (x : D) : Option Wk := (wkL A x).map fun k => ⟨enumL k.ds, k.gd⟩
theorem walk_enumL {a : Addr} {n : Nat} : Walk (Ite K a) n (fun H => ∃ vs, SqL K H a vs ∧ vs.length = n) (fun i H v H' => ∃ T x, v = .ref T ∧ H T = none ∧ H' = upd H T (.tup [.int (i : Nat), x]) ∧ ∀ xs, SqL K H a xs → xs[i]? = some x) :=
  ⟨fun i _ hi ⟨vs, q, e⟩ => ⟨vs, vs[i]'(by omega), q, by simp [show i < vs.length by omega]⟩, fun _ ⟨vs, q, e⟩ => ⟨vs, q, by omega⟩, fun _ _ _ _ _ _ y => y⟩
theorem sw_enum (h : SimE K ca W te a) : SimI K ca W (iEnum K (tCons te tNil)) (wOf wkE a) := fun F m A σ H env Q R S p => wOf_bind h R S p fun F1 m1 A1 H1 x d kk R1 r hk p1 => by
  cases r with
  | ref hm =>
    rename_i aa i
    unfold wkE wkL at hk
    simp only at hk
    cases hA : A1[i]? with
    | none => simp [hA] at hk
    | some o =>
      cases o with
      | lst l =>
        simp only [hA, Option.map, Option.some.injEq] at hk
        subst hk
        obtain ⟨a', vs, e, h1, h2, h3⟩ := lst_at R1 (.ref hm) hA
        cases e
        refine ⟨aa, vs, rfl, .inl (.inl h2), p1 _ F1 m1 H1 R1 Stp.refl ⟨_, _, walk_enumL, fun F2 m2 A2 H2 hg R2 g2 => ?_, fun i' d' x' F2 m2 A2 H2 H3 e hg R2 g2 y => .inr (.inl ?_)⟩⟩
        · obtain ⟨a2, vs2, e2, _, h4, h5⟩ := lst_at R2 (.ref (g2.mm.get h1)) hg
          cases e2
          exact ⟨vs2, .inl (.inl h4), by rw [h5.length]; exact enumL_len.symm⟩
        · obtain ⟨a2, vs2, e2, _, h4, h5⟩ := lst_at R2 (.ref (g2.mm.get h1)) hg
          cases e2
          obtain ⟨T, z, y1, y2, y3, y4⟩ := y
          obtain ⟨dx, q1, q2⟩ := enumL_get e
          obtain ⟨w, w1, w2⟩ := h5.get q1
          have := y4 vs2 (.inl (.inl h4))
          rw [w1] at this; cases this
          exact ⟨T, _, _, q2, y1, y2, y3, .cons (.int _) (.cons w2 .nil)⟩
      | dic _ _ _ => simp [hA] at hk
      | obj _ _ => simp [hA] at hk
  | scr s rs =>
    cases hk
    refine ⟨_, _, rfl, R1.fh.l s, p1 _ F1 m1 H1 R1 Stp.refl ⟨_, _, walk_enumL, fun F2 m2 A2 H2 hg R2 g2 => ⟨_, R2.fh.l (g2.ff.l s), by rw [rs.length]; exact enumL_len.symm⟩, fun i' d' x' F2 m2 A2 H2 H3 e hg R2 g2 y => .inr (.inl ?_)⟩⟩
    obtain ⟨T, z, y1, y2, y3, y4⟩ := y
    obtain ⟨dx, q1, q2⟩ := enumL_get e
    obtain ⟨w, w1, w2⟩ := rs.get q1
    have := y4 _ (R2.fh.l (g2.ff.l s))
    rw [w1] at this; cases this
    exact ⟨T, _, _, q2, y1, y2, y3, .cons (.int _) (.cons (w2.mono g2.ff g2.mm) .nil)⟩
  | _ => cases hk

/-! ### methods of lists -/
def eBL (o : D → List D → Hs → RE D) (a : E) (as : As) : E := fun env A => (a env A).bind fun x A1 => if (seqL A1 x).isSome then (as env A1).bind fun ds A2 => o x ds A2 else .stuck
def eBL0 (o : D → Hs → RE D) (a : E) : E := fun env A => (a env A).bind fun x A1 => if (seqL A1 x).isSome then o x A1 else .stuck
def MbS (K : PySem.W.Frag) (ca : CaT) (r : V → List V → Hp → VK → Prop) (o : D → List D → Hs → RE D) : Prop := ∀ F m A H x dx vs ds W σ Q, Rl K ca F m A H → Rep K ca F m x dx → RepL K ca F m vs ds → Po K ca (Rep K ca) F m H W σ Q (o dx ds A) → r x vs H Q
theorem tyL_at {A : Hs} (R : Rl K ca F m A H) (r : Rep K ca F m x dx) (h : (seqL A dx).isSome = true) : tyV K "list" x H := by
  obtain ⟨l, hl⟩ := Option.isSome_iff_exists.mp h
  obtain ⟨a, vs, e, h1, h2⟩ := seqL_at R r hl
  subst e
  exact .inl ⟨rfl, vs, h1⟩
theorem se_bl_ {r : V → List V → Hp → VK → Prop} {o : D → List D → Hs → RE D} (h : MbS K ca r o) (ha : SimE K ca W ta a) (hs : SimA K ca W ts as) : SimE K ca W (tBM K "list" r ta ts) (eBL o a as) := fun F m A σ H env Q R S p =>
  ha.bind R S p fun F1 m1 A1 H1 x dx R1 g1 S1 rx p1 => by
    by_cases q : (seqL A1 dx).isSome = true
    · rw [if_pos q] at p1
      exact ⟨tyL_at R1 rx q, hs.bind R1 S1 p1 fun F2 m2 A2 H2 vs ds R2 g2 S2 rs p2 => h F2 m2 A2 H2 x dx vs ds W σ Q R2 (rx.mono g2.ff g2.mm) rs p2⟩
    · rw [if_neg q] at p1; exact p1.elim
/-- the list that stands at a place -/
def lstAt (A : Hs) : D → Option (Nat × List D)
  | .ref i => match A[i]? with
    | some (.lst l) => some (i, l)
    | _ => none
  | _ => none
theorem lstAt_at {A : Hs} {l : List D} (h : lstAt A dx = some (i, l)) : dx = .ref i ∧ A[i]? = some (.lst l) := by
  cases dx with
  | ref j =>
    unfold lstAt at h
    cases q : A[j]? with
    | none => simp [q] at h
    | some o =>
      cases o with
      | lst l' => simp [q] at h; obtain ⟨rfl, rfl⟩ := h; exact ⟨rfl, q⟩
      | dic _ _ _ => simp [q] at h
      | obj _ _ => simp [q] at h
  | _ => cases h
theorem po_put {v : V} {d : D} {a : Addr} {vs vs' : List V} {l' : List D} (R : Rl K ca F m A H) (ha : m[i]? = some a) (h1 : H a = some (.lst vs)) (r : RepL K ca F m vs' l') (rv : Rep K ca F m v d) (p : Po K ca (Rep K ca) F m H W σ Q (.ok d (A.set i (.lst l')))) : Q v (upd H a (.lst vs')) := by
  obtain ⟨R2, g2⟩ := lst_put R ha h1 r
  exact p _ _ _ _ R2 g2 rv
def oAppend (x : D) (ds : List D) (A : Hs) : RE D := match lstAt A x, ds with
  | some (i, l), [d] => if l.length < sizeLine then .ok .non (A.set i (.lst (l ++ [d]))) else .stuck
  | _, _ => .stuck
theorem ms_append : MbS K ca rAppend oAppend := fun F m A H x dx vs ds W σ Q R rx rs p => by
  unfold oAppend at p
  split at p
  · rename_i i l d hA
    split at p
    · rename_i hl
      obtain ⟨e, hA2⟩ := lstAt_at hA
      subst e
      obtain ⟨a, vs', e, h1, h2, h3⟩ := lst_at R rx hA2
      match vs, rs with
      | [y], .cons r1 .nil => exact ⟨a, vs', y, e, rfl, h2, by rw [h3.length]; exact hl, po_put R h1 h2 (h3.append (.cons r1 .nil)) .non p⟩
    · exact p.elim
  · exact p.elim
def oExtend (x : D) (ds : List D) (A : Hs) : RE D := match lstAt A x, ds with
  | some (i, l), [d] => match lstAt A d with
    | some (_, k) => if l.length + k.length ≤ sizeLine then .ok .non (A.set i (.lst (l ++ k))) else .stuck
    | none => match d with
      | .tup k => if l.length + k.length ≤ sizeLine then .ok .non (A.set i (.lst (l ++ k))) else .stuck
      | _ => .stuck
  | _, _ => .stuck
def oPopAt (x : D) (ds : List D) (A : Hs) : RE D := match lstAt A x, ds with
  | some (i, l), [.int j] => if -(2 ^ 63) ≤ j ∧ j < 2 ^ 63 then match seqIndex? j l.length with
      | some k => match l[k]? with
        | some d => .ok d (A.set i (.lst (l.eraseIdx k)))
        | none => .stuck
      | none => .stuck
    else .stuck
  | _, _ => .stuck
def oClear (x : D) (A : Hs) : RE D := match lstAt A x with
  | some (i, _) => .ok .non (A.set i (.lst []))
  | none => .stuck
def oInsert (x : D) (ds : List D) (A : Hs) : RE D := match lstAt A x, ds with
  | some (i, l), [.int j, d] => if l.length < sizeLine ∧ 0 ≤ j ∧ j < 2 ^ 63 then .ok .non (A.set i (.lst (l.take j.toNat ++ [d] ++ l.drop j.toNat))) else .stuck
  | _, _ => .stuck
theorem ms_insert : MbS K ca rIns oInsert := fun F m A H x dx vs ds W σ Q R rx rs p => by
  unfold oInsert at p
  split at p
  · rename_i i l j d hA
    obtain ⟨e, hA2⟩ := lstAt_at hA
    subst e
    obtain ⟨a, vs', e, h1, h2, h3⟩ := lst_at R rx hA2
    split at p
    · rename_i hj
      match vs, rs with
      | [_, y], .cons (.int _) (.cons r1 .nil) => exact ⟨a, vs', j, y, e, rfl, h2, by rw [h3.length]; exact hj.1, hj.2.1, hj.2.2, po_put R h1 h2 (((h3.take _).append (.cons r1 .nil)).append (h3.drop _)) .non p⟩
    · exact p.elim
  · exact p.elim
/-- bs.count(c), bs.index(c), of truths -/
def oCount (x : D) (ds : List D) (A : Hs) : RE D := match (seqL A x).bind boolsOf, ds with
  | some bs, [.bl c] => .ok (.int (bs.count c : Nat)) A
  | _, _ => .stuck
end
end SM

namespace SM
open PySem L2
open DL (Ex ExK rJoin rIdxS)
section
variable {K : PySem.W.Frag} {ca : CaT} {F F1 F2 H H1 H2 : Hp} {m m1 m2 : List Addr} {A A1 A2 : Hs} {σ : L2.St} {env : Sl} {W : WX} {Q : VK}
variable {ta tb tc te to ti : TE} {a b c o : E} {i : Nat} {d : D} {ts : TA} {as : As} {x : V} {dx : D}
/-! ### methods of texts, one argument -/
/-! ### methods of dicts -/
def isDic (A : Hs) (x : D) : Bool := (dicAt A x).isSome
theorem isD_of (R : Rl K ca F m A H) (r : Rep K ca F m x dx) (h : isDic A dx = true) : ∃ a, x = .ref a ∧ L2.IsD H a := by
  unfold isDic dicAt at h
  cases r with
  | ref hm =>
    rename_i aa i
    simp only at h
    cases q : A[i]? with
    | none => simp [q] at h
    | some o =>
      cases o with
      | dic t lk l =>
        obtain ⟨a, e, ha, r⟩ := R.at q (.ref hm)
        cases e
        cases t with
        | false => obtain ⟨kvs, h1, _⟩ := r; exact ⟨aa, rfl, .inl ⟨kvs, rdK h1⟩⟩
        | true => obtain ⟨kvs, h1, _⟩ := r; exact ⟨aa, rfl, .inr ⟨kvs, rdK h1⟩⟩
      | lst _ => simp [q] at h
      | obj _ _ => simp [q] at h
  | _ => cases h
def getD (A : Hs) (x y z : D) : Option D := match dicAt A x with
  | some (t, l) => if keyOk t y then some ((kget l y).getD z) else none
  | none => none
def ofO {α : Type} (A : Hs) : Option α → RE α
  | some d => .ok d A
  | none => .stuck
/-- d.get(y, z) -/
def eGet2 (o i e : E) : E := fun env A => (o env A).bind fun x A1 => if isDic A1 x then (i env A1).bind fun y A2 => (e env A2).bind fun z A3 => ofO A3 (getD A3 x y z) else .stuck
/-! ### a dict of the written part -/
inductive TabOk (K : PySem.W.Frag) (w : World) (da : Addr) : List (String × Int) → Prop
  | nil : TabOk K w da []
  | cons {k : String} {k' : Str} {n : Int} {r : List (String × Int)} : k' = fS k → KDct K w da k' (.int n) → TabOk K w da r → TabOk K w da ((k, n) :: r)
theorem TabOk.of {w : World} {da : Addr} {tb : List (String × Int)} (h : TabOk K w da tb) {z : Str} {n : String × Int} (q : (tb.find? fun e => decide (fS e.1 = z)) = some n) : KDct K w da z (.int n.2) := by
  induction h with
  | nil => cases q
  | cons e h1 h2 ih =>
    rename_i k k' n' r
    rw [List.find?_cons] at q
    by_cases c : fS k = z
    · simp only [c, decide_true] at q
      cases q
      rw [← c, ← e]; exact h1
    · simp only [c, decide_false] at q
      exact ih q
end
end SM

namespace DL
open PySem L2
theorem room65w {k : Nat} {A : Around} (r : Room k A) : A.units + 1 < cLine := by have := r.un; omega
end DL
namespace SM
open PySem L2
open DL (Ex ExK)
/-- a written text -/
def dS (s : String) : D := .str (fS s)
section
variable {K : PySem.W.Frag} {ca : CaT} {F F1 F2 H H1 H2 : Hp} {m m1 m2 : List Addr} {A A1 A2 A3 : Hs} {σ : L2.St} {env : Sl} {W : WX} {Q : VK}
variable {ta tb tc te to ti tv : TE} {a b c o v : E} {i : Nat} {d : D} {ts : TA} {as : As} {x : V} {dx : D} {cs : List String}
/-- xs or e, xs a list -/
def eOrL (a b : E) : E := fun env A => (a env A).bind fun x A1 => match seqL A1 x with
  | some l => if l.isEmpty then b env A1 else .ok x A1
  | none => .stuck
/-- a, b = a list -/
def gL (gs : List G) : G := fun d env A => match seqL A d with
  | some ds => gAll gs ds env A
  | none => none
/-! ### {k: v, ..} -/
abbrev Dps := Sl → Hs → RE (List (D × D))
def dNil : Dps := fun _ A => .ok [] A
def dCons (k v : E) (r : Dps) : Dps := fun env A => (k env A).bind fun x A1 => (v env A1).bind fun y A2 => (r env A2).bind fun ps A3 => .ok ((x, y) :: ps) A3
def kmerge (l : List (D × D)) : List (D × D) → List (D × D)
  | [] => l
  | (k, v) :: r => kmerge (kput l k v) r
def eDisp (d : Dps) : E := fun env A => (d env A).bind fun ps A1 => if (ps.all fun p => (keyK p.1).isSome) && decide (ps.length ≤ 15) then alloc A1 (.dic false false (kmerge [] ps)) else .stuck
theorem kmerge_rep : ∀ {more : List (Key × V)} {ps : List (D × D)} {kvs : List (Key × V)} {l : List (D × D)}, KvR K ca F m kD more ps → KvR K ca F m kD kvs l → KvR K ca F m kD (L2.mergeK kvs more) (kmerge l ps)
  | _, _, _, _, .nil, h => h
  | _ :: more, _ :: ps, kvs, l, .cons (k := k) (v := v) r1 r2, h => kmerge_rep (more := more) (ps := ps) (kvs := putK kvs k v) r2 (kput_rep keq_kD r1 h)
/-! ### op= -/
/-- += : ints, a list longer, a tuple and a tuple, texts -/
def rIAdd (K : PySem.W.Frag) : TIp := fun x y H Q => DL.ipAddT K x y H Q ∨ rAddS x y H Q
theorem ip_addA {X : Cx} {K : PySem.W.Frag} (e : X.K = K := by rfl) : PIp X .Add (rIAdd K) := by
  subst e
  intro pins s σ H x y v u Q I rx ry h
  rcases h with h | h
  · exact DL.ip_addT (X := X) rfl pins s σ H x y v u Q I rx ry h
  · exact in_addS pins s σ H x y v u Q I rx ry h
def oIAdd (x y : D) (A : Hs) : RE D := match x, y with
  | .int i, .int j => .ok (.int (i + j)) A
  | .str z, .str w => if z.length + w.length ≤ sizeLine then .ok (.str (z ++ w)) A else .stuck
  | .tup l, .tup k => if l ≠ [] ∧ l.length + k.length ≤ sizeLine then .ok (.tup (l ++ k)) A else .stuck
  | .ref i, .ref j => match A[i]?, A[j]? with
    | some (.lst l), some (.lst k) => if l.length + k.length ≤ sizeLine then .ok (.ref i) (A.set i (.lst (l ++ k))) else .stuck
    | _, _ => .stuck
  | _, _ => .stuck
theorem ips_add : IpS K ca (rIAdd K) oIAdd := fun F m A H x y dx dy W σ Q R rx ry p => by
  cases rx with
  | int i =>
    cases ry with
    | int j => exact .inl (.inl (.inl ⟨i, j, rfl, rfl, po_ok R (.int _) p⟩))
    | _ => exact p.elim
  | str z =>
    cases ry with
    | str w =>
      unfold oIAdd at p
      simp only at p
      split at p
      · rename_i hl; exact .inr ⟨z, w, rfl, rfl, hl, po_ok R (.str _) p⟩
      · exact p.elim
    | _ => exact p.elim
  | tup s rs =>
    cases ry with
    | tup s' rs' =>
      rename_i a vs l b ws k
      unfold oIAdd at p
      simp only at p
      split at p
      · rename_i hl
        refine .inl (.inr ⟨a, b, vs, ws, rfl, rfl, .inl (.inl (R.fh _ _ s)), .inl (.inl (R.fh _ _ s')), fun z => ?_, by rw [rs.length, rs'.length]; exact hl.2, fun e => ?_, fun _ q hq => ?_⟩)
        · subst z; cases rs; exact hl.1 rfl
        · subst e; cases rs'; rw [List.append_nil] at p; exact po_ok R (.tup s rs) p
        · obtain ⟨R2, g2⟩ := R.new (u := .tup (vs ++ ws)) hq
          exact p _ _ _ _ R2 g2 (.tup upd_same ((rs.append rs').mono g2.ff g2.mm))
      · exact p.elim
    | _ => exact p.elim
  | ref hm =>
    cases ry with
    | ref hm' =>
      rename_i a i b j
      unfold oIAdd at p
      simp only at p
      split at p
      · rename_i l k q1 q2
        split at p
        · rename_i hl
          obtain ⟨a', vs, e1, h1, h2, h3⟩ := lst_at R (.ref hm) q1
          obtain ⟨b', ws, e2, h4, h5, h6⟩ := lst_at R (.ref hm') q2
          rw [e1]
          exact .inl (.inl (.inr ⟨a', b', vs, ws, rfl, e2, h2, h5, by rw [h3.length, h6.length]; exact hl, po_put R h1 h2 (h3.append h6) (.ref h1) p⟩))
        · exact p.elim
      · exact p.elim
    | _ => exact p.elim
  | _ => exact p.elim
/-! ### d[k] op= e, xs[i] op= e -/
/-- a dict's item -/
def sDAugP (op : D → D → Hs → RE D) (o i a : E) : S := fun env A => ofE env (o env A) fun x A1 => ofE env (i env A1) fun y A2 => ofE env (oDGet x y A2) fun z A3 => ofE env (a env A3) fun v A4 => ofE env (op z v A4) fun r A5 => if isLst A5 x then .stuck else ofH env (setIt A5 x y r)
/-- a list's item, by a place from 0 on -/
def getN (A : Hs) (x y : D) : Option D := match seqL A x, y with
  | some l, .int i => if 0 ≤ i then l[i.toNat]? else none
  | _, _ => none
def sLAugP (op : D → D → Hs → RE D) (o i a : E) : S := fun env A => ofE env (o env A) fun x A1 => ofE env (i env A1) fun y A2 => match getN A2 x y with
  | some z => ofE env (a env A2) fun v A4 => ofE env (op z v A4) fun r A5 => if isLst A5 x then ofH env (setIt A5 x y r) else .stuck
  | none => .stuck
/-! ### min of three -/
def c3 (f : D → D → D → Hs → RE D) : List D → Hs → RE D := fun ds A => match ds with
  | [d, e, g] => f d e g A
  | _ => .stuck
def oMin3 (x y z : D) (A : Hs) : RE D := match x, y, z with
  | .int i, .int j, .int k => .ok (.int (min (min i j) k)) A
  | _, _, _ => .stuck
end
end SM

/-! ## equations for the plain functions -/
namespace SM
open PySem L2
section
variable {α β : Type} {A A1 A2 A3 : Hs} {env e1 e2 : Sl} {a b c o v : E} {as : As} {d d1 d2 x y z : D} {i j k n : Nat} {p q r : Int} {C : String} {f g : S} {F : Fn} {cs os xs : List String} {tb : List (String × String × Bool)} {l l1 l2 : List D} {fs : List (String × D)}
theorem z2l {f : α → Hs → RE β} : (RE.exc C A : RE α).bind f = .exc C A := rfl
theorem z08 {f : α → Hs → RE β} : (RE.stuck : RE α).bind f = .stuck := rfl
theorem z6d {x : α} : (RE.ok x A).noX = .ok x A := rfl
theorem z4x : (RE.exc C A : RE α).noX = .stuck := rfl
theorem z6u {e : Sl} : eVar 0 (some d :: e) A = .ok d A := rfl
theorem z6i {e : Sl} {s : Option D} : eVar (n + 1) (s :: e) A = eVar n e A := rfl
theorem eC_ : eC d env A = .ok d A := rfl
theorem z9v {o : D → D → Hs → RE D} : eOp o a b env A = (a env A).bind fun x A1 => (b env A1).bind fun y A2 => o x y A2 := rfl
theorem zai {o : D → Hs → RE D} : eUn o a env A = (a env A).bind fun x A1 => o x A1 := rfl
theorem z92 : aNil env A = .ok [] A := rfl
theorem z57 : aCons a as env A = (a env A).bind fun x A1 => (as env A1).bind fun xs A2 => .ok (x :: xs) A2 := rfl
theorem zbj {f : List D → Hs → RE D} : eCB f as env A = (as env A).bind f := rfl
theorem z5t : eCall F as env A = (as env A).bind F := rfl
theorem z35 : eCall0 F as env A = (as env A).bind fun ds A1 => (F ds A1).noX := rfl
theorem c1_ {f : D → Hs → RE D} : c1 f [d] A = f d A := rfl
theorem c2_ {f : D → D → Hs → RE D} : c2 f [d, d1] A = f d d1 A := rfl
theorem c3_ {f : D → D → D → Hs → RE D} : c3 f [d, d1, d2] A = f d d1 d2 A := rfl
/-- a truth, or stuck -/
def bl_ {α : Type} (r : RE D) (k : Bool → Hs → RE α) : RE α := match r with
  | .ok (.bl c) A => k c A
  | .ok _ _ => .stuck
  | .exc C A => .exc C A
  | .stuck => .stuck
theorem z89 {c : Bool} {k : Bool → Hs → RE α} : bl_ (.ok (.bl c) A) k = k c A := rfl
theorem z54 {k : Bool → Hs → RE α} : bl_ (.exc C A) k = .exc C A := rfl
theorem z7d : eAnd a b env A = bl_ (a env A) fun c A1 => if c = true then b env A1 else .ok (.bl false) A1 := by
  unfold eAnd bl_ RE.bind
  cases a env A with
  | ok x A1 => cases x with
    | bl c => cases c <;> rfl
    | _ => rfl
  | _ => rfl
theorem zbb : eOr a b env A = bl_ (a env A) fun c A1 => if c = true then .ok (.bl true) A1 else b env A1 := by
  unfold eOr bl_ RE.bind
  cases a env A with
  | ok x A1 => cases x with
    | bl c => cases c <;> rfl
    | _ => rfl
  | _ => rfl
theorem z8u : eNot a env A = bl_ (a env A) fun c A1 => .ok (.bl (!c)) A1 := by
  unfold eNot bl_ RE.bind
  cases a env A with
  | ok x A1 => cases x <;> rfl
  | _ => rfl
theorem za0 {o o' : D → D → Hs → RE D} : eCh o o' a b c env A = (a env A).bind fun x A1 => (b env A1).bind fun y A2 => bl_ (o x y A2) fun k A3 => if k = true then (c env A3).bind fun w A4 => o' y w A4 else .ok (.bl false) A3 := by
  unfold eCh bl_ RE.bind
  cases a env A with
  | ok x A1 =>
    simp only
    cases b env A1 with
    | ok y A2 =>
      simp only
      cases o x y A2 with
      | ok z A3 => cases z with
        | bl k => cases k <;> rfl
        | _ => rfl
      | _ => rfl
    | _ => rfl
  | _ => rfl
theorem z9s : tOf a env A = bl_ (a env A) fun c A1 => .ok c A1 := by
  unfold tOf bl_ RE.bind
  cases a env A with
  | ok x A1 => cases x <;> rfl
  | _ => rfl
theorem za5 {s t : Tt} : tAn s t env A = (s env A).bind fun c A1 => if c = true then t env A1 else .ok false A1 := rfl
theorem zal {s t : Tt} : tOo s t env A = (s env A).bind fun c A1 => if c = true then .ok true A1 else t env A1 := rfl
theorem zbg {s : Tt} : tNo s env A = (s env A).bind fun c A1 => .ok (!c) A1 := rfl
theorem zb5 : tYe env A = .ok true A := rfl
theorem zbe {s : Tt} : eIf s a b env A = (s env A).bind fun c A1 => if c = true then a env A1 else b env A1 := rfl
theorem z8v : eTup as env A = (as env A).bind fun ds A1 => if ds.length ≤ sizeLine then .ok (.tup ds) A1 else .stuck := rfl
theorem z8y : eLst as env A = (as env A).bind fun ds A1 => if ds.length ≤ sizeLine then .ok (.ref A1.length) (A1 ++ [.lst ds]) else .stuck := rfl
theorem z0f {n : Nat} (h : n ≤ 16000000) : n ≤ sizeLine := by rw [sizeLine_eq]; omega
theorem small_line' {n : Nat} (h : n < 16000000) : n < sizeLine := by rw [sizeLine_eq]; omega
theorem z5s {t : Bool} : eDNew t env A = .ok (.ref A.length) (A ++ [.dic t false []]) := rfl
theorem z9k : oNo env A = .ok none A := rfl
def int_ {α : Type} (r : RE D) (k : Int → Hs → RE α) : RE α := match r with
  | .ok (.int c) A => k c A
  | .ok _ _ => .stuck
  | .exc C A => .exc C A
  | .stuck => .stuck
theorem z7a {c : Int} {k : Int → Hs → RE α} : int_ (.ok (.int c) A) k = k c A := rfl
theorem zap : oSo a env A = int_ (a env A) fun c A1 => .ok (some c) A1 := by
  unfold oSo int_ RE.bind
  cases a env A with
  | ok x A1 => cases x <;> rfl
  | _ => rfl
theorem za8 {o : D → Option Int → Option Int → Hs → RE D} {lo hi : Sl → Hs → RE (Option Int)} : eSl o a lo hi env A = (a env A).bind fun x A1 => (lo env A1).bind fun l A2 => (hi env A2).bind fun h A3 => o x l h A3 := rfl
/-! statements -/
def seqR (r : RS) (b : S) : RS := match r with
  | .nx env' A' => b env' A'
  | r => r
theorem z6c : seqR (.rt d A) g = .rt d A := rfl
theorem z4t : seqR (.exc C env A) g = .exc C env A := rfl
theorem z5y : seqR (.bk env A) g = .bk env A := rfl
theorem z5r : seqR (.ct env A) g = .ct env A := rfl
theorem z13 : seqR .stuck g = .stuck := rfl
theorem z9l : sNx env A = .nx env A := rfl
theorem z9z : sBk env A = .bk env A := rfl
theorem zax : sCt env A = .ct env A := rfl
theorem z4j : sRaise C env A = .exc C env A := rfl
theorem z6o {k : D → Hs → RS} : ofE env (.ok d A) k = k d A := rfl
theorem z36 {k : D → Hs → RS} : ofE env (.exc C A) k = .exc C env A := rfl
theorem z55 {c : Bool} {k : Bool → Hs → RS} : ofT env (.ok c A) k = k c A := rfl
theorem z3c {k : Bool → Hs → RS} : ofT env (.exc C A) k = .exc C env A := rfl
theorem z58 : sDrop a env A = ofE env (a env A) fun _ A1 => .nx env A1 := rfl
theorem z84 : sRet a env A = ofE env (a env A) fun d A1 => .rt d A1 := rfl
theorem z5w : sRetN env A = .rt .non A := rfl
theorem zaw {t : Tt} : sIf t f g env A = ofT env (t env A) fun c A1 => if c = true then f env A1 else g env A1 := rfl
theorem z8d : sSet i a env A = ofE env (a env A) fun d A1 => .nx (env.set i (some d)) A1 := rfl
def ofS (r : Option Sl) (A : Hs) : RS := match r with
  | some env' => .nx env' A
  | none => .stuck
theorem z2r : ofS (some env) A = .nx env A := rfl
theorem z88 {g : G} : sAsg a g env A = ofE env (a env A) fun d A1 => ofS (g d env A1) A1 := by
  unfold sAsg ofS; rfl
theorem gN_ : gN i d env A = some (env.set i (some d)) := rfl
theorem z53 {gs : List G} : gT gs (.tup l) env A = gAll gs l env A := rfl
theorem z2d : gAll [] [] env A = some env := rfl
theorem z0r {g : G} {gs : List G} : gAll (g :: gs) (d :: l) env A = (g d env A).bind fun e => gAll gs l e A := by
  rw [gAll]; cases g d env A <;> rfl
def par_ (env : Sl) (i j : Nat) (r : RE (List D)) : RS := match r with
  | .ok [x, y] A1 => .nx ((env.set i (some x)).set j (some y)) A1
  | .exc C A1 => .exc C env A1
  | _ => .stuck
theorem z8c : sPar i j as env A = par_ env i j (as env A) := rfl
theorem z5k : par_ env i j (.ok [x, y] A) = .nx ((env.set i (some x)).set j (some y)) A := rfl
def var_ (env : Sl) (i : Nat) (k : D → RS) : RS := match env[i]? with
  | some (some x) => k x
  | _ => .stuck
theorem z7c {e : Sl} {k : D → RS} : var_ (some d :: e) 0 k = k d := rfl
theorem z7l {e : Sl} {s : Option D} {k : D → RS} : var_ (s :: e) (n + 1) k = var_ e n k := rfl
theorem z7p {o : D → D → Hs → RE D} : sAug i o a env A = var_ env i fun x => ofE env (a env A) fun y A1 => ofE env (o x y A1) fun z A2 => .nx (env.set i (some z)) A2 := rfl
def finR (r : RS) : RE D := match r with
    | .nx _ A' => .ok .non A'
    | .rt d A' => .ok d A'
    | .exc C _ A' => .exc C A'
    | _ => .stuck
theorem z5n : finR (.nx env A) = .ok .non A := rfl
theorem z6r : finR (.rt d A) = .ok d A := rfl
theorem z3v : finR (.exc C env A) = .exc C A := rfl
theorem z1p : finR .stuck = .stuck := rfl
theorem z8q (h : l.length = n) : mkFn n k f l A = finR (f (l.map some ++ List.replicate (k - n) none) A) := by
  unfold mkFn; rw [if_pos h]; unfold finR; rfl
theorem z8k {e : Sl} {s t : Option D} : List.set (s :: e) 0 t = t :: e := rfl
theorem z7i {e : Sl} {s t : Option D} : List.set (s :: e) (n + 1) t = s :: List.set e n t := rfl
/-! operators -/
theorem z64 : oAdd (.int p) (.int q) A = .ok (.int (p + q)) A := rfl
theorem z6v (h : l.length + l1.length ≤ 16000000) : oAdd (.tup l) (.tup l1) A = .ok (.tup (l ++ l1)) A := by
  unfold oAdd; simp only; rw [if_pos (z0f h)]
theorem z6t {s t : Str} (h : s.length + t.length ≤ 16000000) : oAdd (.str s) (.str t) A = .ok (.str (s ++ t)) A := by
  unfold oAdd; simp only; rw [if_pos (z0f h)]
theorem z5b : oSub (.int p) (.int q) A = .ok (.int (p - q)) A := rfl
theorem z6f (h : -18446744073709551616 < q ∧ q < 18446744073709551616) : oMul (.int p) (.int q) A = .ok (.int (p * q)) A := by
  unfold oMul; simp only; rw [if_pos (.inl (.inr ⟨by have := h.1; omega, by have := h.2; omega⟩))]
theorem z5l (h : -18446744073709551616 < p ∧ p < 18446744073709551616) : oMul (.int p) (.int q) A = .ok (.int (p * q)) A := by
  unfold oMul; simp only; rw [if_pos (.inl (.inl ⟨by have := h.1; omega, by have := h.2; omega⟩))]
theorem z6q (h : l.length ≤ 1000 ∧ -1000 ≤ q ∧ q ≤ 4000) : oMul (.tup l) (.int q) A = .ok (.tup (List.replicate q.toNat l).flatten) A := by
  unfold oMul; simp only; rw [if_pos h]
theorem log_small {q : Int} (h : 0 < q ∧ q < 18446744073709551616) : q.natAbs.log2 < 9000 := by
  have : q.natAbs < 2 ^ 64 := by omega
  by_cases z : q.natAbs = 0
  · rw [z]; decide
  · have := (Nat.log2_lt z).mpr this; omega
theorem z6w (h : 0 < q ∧ q < 18446744073709551616) : oDiv (.int p) (.int q) A = .ok (.int (p / q)) A := by
  unfold oDiv oII; simp only; rw [if_pos ⟨h.1, log_small h⟩]
theorem z5d (h : 0 < q) : oMod (.int p) (.int q) A = .ok (.int (p % q)) A := by
  unfold oMod oII; simp only; rw [if_pos h]
theorem z59 (h : 0 ≤ q ∧ q ≤ 1000000 ∧ p.natAbs < 18446744073709551616) : oPow (.int p) (.int q) A = .ok (.int (p ^ q.toNat)) A := by
  unfold oPow oII; simp only; rw [if_pos ⟨h.1, h.2.1, by have := h.2.2; omega⟩]
theorem z9b : oLt (.int p) (.int q) A = .ok (.bl (decide (p < q))) A := rfl
theorem z9d : oLe (.int p) (.int q) A = .ok (.bl (decide (p ≤ q))) A := rfl
theorem z98 : oGt (.int p) (.int q) A = .ok (.bl (decide (q < p))) A := rfl
theorem z7s : oGe (.int p) (.int q) A = .ok (.bl (decide (q ≤ p))) A := rfl
theorem z73 : oNeg (.int p) A = .ok (.int (-p)) A := rfl
theorem z3h : oMax2 (.int p) (.int q) A = .ok (.int (max p q)) A := by
  show RE.ok (D.int (if q > p then q else p)) A = _
  congr 2; omega
theorem z4q : oMin2 (.int p) (.int q) A = .ok (.int (min p q)) A := by
  show RE.ok (D.int (if q < p then q else p)) A = _
  congr 2; omega
theorem z3s : oMin3 (.int p) (.int q) (.int r) A = .ok (.int (min (min p q) r)) A := rfl
theorem z67 : oInt (.int p) A = .ok (.int p) A := rfl
theorem z5o {b : Bool} : oInt (.bl b) A = .ok (.int (if b then 1 else 0)) A := rfl
theorem z81 : oEq (.int p) (.int q) A = .ok (.bl (decide (p = q))) A := by
  unfold oEq oB eqA; simp [pyA, PyData.eqv]; rfl
theorem z8g : oNe (.int p) (.int q) A = .ok (.bl (!decide (p = q))) A := by
  unfold oNe oB eqA; simp [pyA, PyData.eqv]; rfl
theorem z32 {s t : Str} : oEq (.str s) (.str t) A = .ok (.bl (decide (s = t))) A := by
  unfold oEq oB eqA; simp [pyA, PyData.eqv]; rfl
theorem z4i {s t : Str} : oNe (.str s) (.str t) A = .ok (.bl (!decide (s = t))) A := by
  unfold oNe oB eqA; simp [pyA, PyData.eqv]; rfl
theorem z90 {s t : String} : oEq (dS s) (dS t) A = .ok (.bl (decide (s = t))) A := by
  unfold dS; rw [z32]; congr 3; exact propext fS_inj
theorem z9a {s t : String} : oNe (dS s) (dS t) A = .ok (.bl (!decide (s = t))) A := by
  unfold dS; rw [z4i]; congr 4; exact propext fS_inj
theorem eqA_of {b : Bool} (h : eqA A x y = some b) : oEq x y A = .ok (.bl b) A := by unfold oEq oB; rw [h]
theorem neA_of {b : Bool} (h : eqA A x y = some b) : oNe x y A = .ok (.bl (!b)) A := by unfold oNe oB; simp only [h]; rfl
theorem z4e : oIs x .non A = .ok (.bl (isNon x)) A := rfl
theorem z0k : oIsNot x .non A = .ok (.bl (!isNon x)) A := rfl
theorem z6s {b c : Bool} : oIs (.bl b) (.bl c) A = .ok (.bl (decide (b = c))) A := rfl
theorem z19 {b c : Bool} : oIsNot (.bl b) (.bl c) A = .ok (.bl (!decide (b = c))) A := rfl
theorem z0z : isNon .non = true := rfl
theorem z18 : isNon (.int p) = false := rfl
theorem z2p {b : Bool} : isNon (.bl b) = false := rfl
theorem z17 : isNon (.ref i) = false := rfl
theorem z0y : isNon (.tup l) = false := rfl
theorem z1m {s : Str} : isNon (.str s) = false := rfl
theorem z30 {s : String} : isNon (dS s) = false := rfl
theorem z1j : isNon (.exc C) = false := rfl
theorem z1k : oIsi os xs tb (.int p) (.ty "int") A = .ok (.bl true) A := rfl
theorem z0o : oIsi os xs tb (.int p) (.ty "bool") A = .ok (.bl false) A := rfl
theorem z1i {b : Bool} : oIsi os xs tb (.bl b) (.ty "int") A = .ok (.bl true) A := rfl
theorem z0m {b : Bool} : oIsi os xs tb (.bl b) (.ty "bool") A = .ok (.bl true) A := rfl
theorem z14 : oIsi os xs tb .non (.ty "int") A = .ok (.bl false) A := rfl
theorem z0g : oIsi os xs tb .non (.ty "bool") A = .ok (.bl false) A := rfl
theorem z1b : oIsi os xs tb .non (.ty "str") A = .ok (.bl false) A := rfl
theorem z06 : oIsi os xs tb .non (.ty "tuple") A = .ok (.bl false) A := rfl
theorem z0e : oIsi os xs tb .non (.ty "list") A = .ok (.bl false) A := rfl
theorem z1g {s : Str} : oIsi os xs tb (.str s) (.ty "int") A = .ok (.bl false) A := rfl
theorem z0a {s : Str} : oIsi os xs tb (.str s) (.ty "bool") A = .ok (.bl false) A := rfl
theorem z0t {s : Str} : oIsi os xs tb (.str s) (.ty "str") A = .ok (.bl true) A := rfl
theorem z05 {s : Str} : oIsi os xs tb (.str s) (.ty "tuple") A = .ok (.bl false) A := rfl
theorem z1q : oIsi os xs tb (.tup l) (.ty "int") A = .ok (.bl false) A := rfl
theorem z0b : oIsi os xs tb (.tup l) (.ty "bool") A = .ok (.bl false) A := rfl
theorem z04 : oIsi os xs tb (.tup l) (.ty "tuple") A = .ok (.bl true) A := rfl
theorem z0c : oIsi os xs tb (.tup l) (.ty "list") A = .ok (.bl false) A := rfl
theorem z0v : oIsi os xs tb (.tup l) (.ty "str") A = .ok (.bl false) A := rfl
theorem z02 : oIsi os xs tb (.int p) (.ty "tuple") A = .ok (.bl false) A := rfl
theorem z1l : oIsi os xs tb (.int p) (.ty "str") A = .ok (.bl false) A := rfl
theorem z0d : oIsi os xs tb (.int p) (.ty "list") A = .ok (.bl false) A := rfl
theorem z01 {b : Bool} : oIsi os xs tb (.bl b) (.ty "tuple") A = .ok (.bl false) A := rfl
theorem z1e {b : Bool} : oIsi os xs tb (.bl b) (.ty "str") A = .ok (.bl false) A := rfl
/-! the heap -/
theorem z1w : seqL A (.scr l) = some l := rfl
theorem z1u : seqL A (.tup l) = none := rfl
theorem z2c {s : Str} : seqL A (.str s) = none := rfl
theorem z72 : oLen (.tup l) A = .ok (.int l.length) A := rfl
theorem z6j {s : Str} (h : s.length ≤ 16000000) : oLen (.str s) A = .ok (.int s.length) A := by
  unfold oLen lenA; simp only [seqL, seqT]; rw [if_pos (z0f h)]
theorem z2k : oTuple (.tup l) A = .ok (.tup l) A := rfl
theorem z3d : oList (.tup l) A = .ok (.ref A.length) (A ++ [.lst l]) := rfl
theorem z7b {lo hi : Option Int} : oSl (.tup l) lo hi A = .ok (.tup (cutD l lo hi)) A := rfl
def fld_ (r : Option D) (A : Hs) : RE D := match r with
  | some d => .ok d A
  | none => .stuck
theorem z2y : fld_ (some d) A = .ok d A := rfl
theorem z8z {f : String} : eFld cs f a env A = (a env A).bind fun x A1 => fld_ (getFld cs f A1 x) A1 := rfl
theorem z9n {f : String} : sFl cs f o a env A = ofE env (a env A) fun d A1 => ofE env (o env A1) fun x A2 => ofH env (setFld cs A2 x f d) := by
  unfold sFl ofH; rfl
theorem z27 : ofH env (some A) = .nx env A := rfl
theorem z3t {f : String} {op : D → D → Hs → RE D} : sFlAug cs f op o a env A = ofE env (o env A) fun x A1 => ofE env (fld_ (getFld cs f A1 x) A1) fun v A1 => ofE env (a env A1) fun y A2 => ofE env (op v y A2) fun z A3 => ofH env (setFld cs A3 x f z) := by
  unfold sFlAug ofH
  congr
  funext x A1
  cases getFld cs f A1 x <;> rfl
theorem z1z {f : String} : putF f d [] = [(f, d)] := rfl
theorem z0p {f g : String} : putF f d ((g, x) :: fs) = if g = f then (g, d) :: fs else (g, x) :: putF f d fs := rfl
theorem z49 : oIAdd (.int p) (.int q) A = .ok (.int (p + q)) A := rfl
def meth_ (r : Option Fn) (k : Fn → RE D) : RE D := match r with
  | some f => k f
  | none => .stuck
theorem z0x {k : Fn → RE D} : meth_ (some F) k = k F := rfl
theorem z56 {m : String} {t : List (String × Fn)} : eMeth m t o as env A = (o env A).bind fun x A1 => meth_ (methOf m t A1 x) fun f => (as env A1).bind fun ds A2 => f (x :: ds) A2 := by
  unfold eMeth meth_; rfl
theorem z4z {m : String} {t : List (String × Fn)} : eMeth0 m t o as env A = (o env A).bind fun x A1 => meth_ (methOf m t A1 x) fun f => (as env A1).bind fun ds A2 => (f (x :: ds) A2).noX := by
  unfold eMeth0 meth_; rfl
theorem make_ok {ds : List D} (h : F (.ref A.length :: ds) (A ++ [.obj C []]) = .ok .non A1) : make C F ds A = .ok (.ref A.length) A1 := by unfold make; rw [h]
theorem z6p : eMake C F as env A = (as env A).bind fun ds A1 => make C F ds A1 := rfl
theorem z4k : eMake0 C F as env A = (as env A).bind fun ds A1 => (make C F ds A1).noX := rfl
theorem z96 : sPut o b a env A = ofE env (a env A) fun v A1 => ofE env (o env A1) fun x A2 => ofE env (b env A2) fun y A3 => ofH env (setIt A3 x y v) := rfl
theorem z3f {s : String} : keyOk false (dS s) = true := rfl
theorem z40 : keyOk false (.int p) = true := rfl
theorem z68 {s t : String} : keq (dS s) (dS t) = decide (s = t) := by
  show decide (fS s = fS t) = decide (s = t)
  simp only [fS_inj]
theorem z74 : keq (.int p) (.int q) = decide (p = q) := rfl
def augL_ (env : Sl) (r : Option D) (k : D → RS) : RS := match r with
  | some z => k z
  | none => .stuck
theorem z1o {k : D → RS} : augL_ env (some d) k = k d := rfl
theorem z31 {op : D → D → Hs → RE D} : sLAugP op o b a env A = ofE env (o env A) fun x A1 => ofE env (b env A1) fun y A2 => augL_ env (getN A2 x y) fun z => ofE env (a env A2) fun v A4 => ofE env (op z v A4) fun r A5 => if isLst A5 x then ofH env (setIt A5 x y r) else .stuck := by
  unfold sLAugP augL_; rfl
theorem z41 {op : D → D → Hs → RE D} : sDAugP op o b a env A = ofE env (o env A) fun x A1 => ofE env (b env A1) fun y A2 => ofE env (oDGet x y A2) fun z A3 => ofE env (a env A3) fun v A4 => ofE env (op z v A4) fun r A5 => if isLst A5 x then .stuck else ofH env (setIt A5 x y r) := rfl
/-! methods of lists -/
theorem z9w {o : D → List D → Hs → RE D} : eBL o a as env A = (a env A).bind fun x A1 => if (seqL A1 x).isSome then (as env A1).bind fun ds A2 => o x ds A2 else .stuck := rfl
theorem z93 {o : D → Hs → RE D} : eBL0 o a env A = (a env A).bind fun x A1 => if (seqL A1 x).isSome then o x A1 else .stuck := rfl
/-! walks -/
def ofW (env : Sl) (r : RE Wk) (k : Wk → Hs → RS) : RS := match r with
  | .ok w A => k w A
  | .exc C A => .exc C env A
  | .stuck => .stuck
theorem z5v {w : Wk} {k : Wk → Hs → RS} : ofW env (.ok w A) k = k w A := rfl
theorem z7q {w : Sl → Hs → RE Wk} {g : G} : sFor w g f env A = ofW env (w env A) fun k A1 => forL g f k.gd k.ds env A1 := by unfold sFor ofW; rfl
def wk_ (r : Option Wk) (A : Hs) : RE Wk := match r with
  | some k => .ok k A
  | none => .stuck
theorem z4s {w : Wk} : wk_ (some w) A = .ok w A := rfl
theorem zbc {f : Hs → D → Option Wk} : wOf f a env A = (a env A).bind fun x A1 => wk_ (f A1 x) A1 := by unfold wOf wk_; rfl
theorem z83 : wSeq a env A = (a env A).bind fun x A1 => wk_ (wkA A1 x) A1 := zbc
theorem zbh {f : List D → Option Wk} : wAs f as env A = (as env A).bind fun x A1 => wk_ (f x) A1 := by unfold wAs wk_; rfl
theorem z3a : wkA A (.tup l) = some ⟨l, tt⟩ := rfl
theorem z3y : wkA A (.scr l) = some ⟨l, tt⟩ := rfl
theorem z37 : wkE A (.scr l) = some ⟨enumL l, tt⟩ := rfl
theorem zab (h : -4611686018427387904 ≤ p ∧ p < 4611686018427387904) : rg1 [.int p] = some ⟨rgL 0 1 p.toNat, tt⟩ := by
  unfold rg1; simp only; rw [if_pos ⟨by have := h.1; omega, by have := h.2; omega⟩]
theorem zba (h : -4611686018427387904 ≤ p ∧ p < 4611686018427387904 ∧ -4611686018427387904 ≤ q ∧ q < 4611686018427387904) : rg2 [.int p, .int q] = some ⟨rgL p 1 (q - p).toNat, tt⟩ := by
  unfold rg2; simp only; rw [if_pos ⟨⟨by have := h.1; omega, by have := h.2.1; omega⟩, ⟨by have := h.2.2.1; omega, by have := h.2.2.2; omega⟩⟩]
theorem zaa (h : -1152921504606846976 ≤ p ∧ p < 1152921504606846976 ∧ -1152921504606846976 ≤ q ∧ q < 1152921504606846976 ∧ 0 < r ∧ r < 1000000) : rg3 [.int p, .int q, .int r] = some ⟨rgL p r (cnt p q r), tt⟩ := by
  unfold rg3; simp only; rw [if_pos ⟨by have := h.1; omega, by have := h.2.1; omega, by have := h.2.2.1; omega, by have := h.2.2.2.1; omega, h.2.2.2.2.1, h.2.2.2.2.2⟩]
theorem forL_nil {g : G} {gd : Hs → Prop} (h : gd A) : forL g f gd [] env A = .nx env A := by unfold forL; rw [if_pos h]
def turnR (r : RS) (k : S) : RS := match r with
  | .nx e A => k e A
  | .ct e A => k e A
  | .bk e A => .nx e A
  | r => r
theorem z4d {k : S} : turnR (.nx env A) k = k env A := rfl
theorem z47 {k : S} : turnR (.ct env A) k = k env A := rfl
theorem z45 {k : S} : turnR (.rt d A) k = .rt d A := rfl
theorem z42 {k : S} : turnR (.bk env A) k = .nx env A := rfl
theorem z24 {k : S} : turnR (.exc C env A) k = .exc C env A := rfl
theorem forL_cons {g : G} {gd : Hs → Prop} (h : gd A) (hg : g d env A = some e1) : forL g f gd (d :: l) env A = turnR (f e1 A) (forL g f gd l) := by
  rw [forL]; rw [if_pos h, hg]; rfl
/-- a for by what stays true -/
theorem for_inv {g : G} {gd : Hs → Prop} (I : Nat → Sl → Hs → Prop) (R : RS → Prop) {ds : List D} (h0 : I 0 env A) (hg : ∀ i e A, i ≤ ds.length → I i e A → gd A)
    (hs : ∀ i e A d, ds[i]? = some d → I i e A → ∃ e1, g d e A = some e1 ∧ ((∃ e2 A2, (f e1 A = .nx e2 A2 ∨ f e1 A = .ct e2 A2) ∧ I (i + 1) e2 A2) ∨ (∃ d2 A2, f e1 A = .rt d2 A2 ∧ R (.rt d2 A2)) ∨ (∃ e2 A2, f e1 A = .bk e2 A2 ∧ R (.nx e2 A2)) ∨ (∃ C e2 A2, f e1 A = .exc C e2 A2 ∧ R (.exc C e2 A2))))
    (hd : ∀ e A, I ds.length e A → R (.nx e A)) : R (forL g f gd ds env A) := by
  have main : ∀ (m : Nat) (e : Sl) (A : Hs), m ≤ ds.length → I m e A → R (forL g f gd (ds.drop m) e A) := by
    intro m
    generalize hk : ds.length - m = k
    induction k generalizing m with
    | zero =>
      intro e A hm hI
      have : m = ds.length := by omega
      subst this
      rw [List.drop_length, forL_nil (hg _ _ _ hm hI)]
      exact hd e A hI
    | succ k ih =>
      intro e A hm hI
      have hlt : m < ds.length := by omega
      rw [List.drop_eq_getElem_cons hlt]
      obtain ⟨e1, h1, h2⟩ := hs m e A ds[m] (by simp [hlt]) hI
      rw [forL_cons (hg _ _ _ hm hI) h1]
      rcases h2 with ⟨e2, A2, h2, h3⟩ | ⟨d2, A2, h2, h3⟩ | ⟨e2, A2, h2, h3⟩ | ⟨C, e2, A2, h2, h3⟩
      · rcases h2 with h2 | h2
        · rw [h2, z4d]; exact ih (m + 1) (by omega) e2 A2 (by omega) h3
        · rw [h2, z47]; exact ih (m + 1) (by omega) e2 A2 (by omega) h3
      · rw [h2]; exact h3
      · rw [h2]; exact h3
      · rw [h2]; exact h3
  have := main 0 env A (Nat.zero_le _) h0
  rwa [List.drop_zero] at this
/-- a while by what stays true and a number that falls -/
theorem wh_inv {t : Tt} (I : Nat → Sl → Hs → Prop) (R : RS → Prop) {n : Nat} (h0 : I n env A)
    (hs : ∀ n e A, I n e A → (∃ A1, t e A = .ok false A1 ∧ R (.nx e A1)) ∨ (∃ A1, t e A = .ok true A1 ∧ ((∃ e2 A2, (f e A1 = .nx e2 A2 ∨ f e A1 = .ct e2 A2) ∧ ∃ m, m < n ∧ I m e2 A2) ∨ (∃ d2 A2, f e A1 = .rt d2 A2 ∧ R (.rt d2 A2)) ∨ (∃ e2 A2, f e A1 = .bk e2 A2 ∧ R (.nx e2 A2)) ∨ (∃ C e2 A2, f e A1 = .exc C e2 A2 ∧ R (.exc C e2 A2))))) : R (sWh t f env A) := by
  induction n using Nat.strongRecOn generalizing env A with
  | _ n ih =>
    rw [sWh_turn]
    rcases hs n env A h0 with ⟨A1, h1, h2⟩ | ⟨A1, h1, h2⟩
    · rw [h1]; exact h2
    · rw [h1]
      simp only [ofT, if_true]
      rcases h2 with ⟨e2, A2, h2, m, hm, h3⟩ | ⟨d2, A2, h2, h3⟩ | ⟨e2, A2, h2, h3⟩ | ⟨C, e2, A2, h2, h3⟩
      · rcases h2 with h2 | h2
        · rw [h2]; exact ih m hm h3
        · rw [h2]; exact ih m hm h3
      · rw [h2]; exact h3
      · rw [h2]; exact h3
      · rw [h2]; exact h3
def lc_ (r : RE (List D)) : RE D := match r with
  | .ok l A2 => alloc A2 (.lst l)
  | _ => .stuck
theorem z7m : lc_ (.ok l A) = .ok (.ref A.length) (A ++ [.lst l]) := rfl
theorem zam {w : Sl → Hs → RE Wk} {g : G} {t : Tt} {vs : List Nat} : eLc w g t a vs env A = (w env A).bind fun k A1 => lc_ (lcL g t a k.gd (wipeS env vs) k.ds [] A1) := by unfold eLc lc_; rfl
/-- a comprehension whose parts leave the heap as it is -/
theorem lc_pure {g : G} {t : Tt} {gd : Hs → Prop} (p : D → Bool) (h : D → D) {ds acc : List D} (hgd : gd A) (hl : acc.length + ds.length < 16000000)
    (hs : ∀ d ∈ ds, ∃ e1, g d env A = some e1 ∧ t e1 A = .ok (p d) A ∧ (p d = true → a e1 A = .ok (h d) A)) : lcL g t a gd env ds acc A = .ok (acc ++ (ds.filter p).map h) A := by
  induction ds generalizing acc with
  | nil => rw [lcL, if_pos hgd]; simp
  | cons d ds ih =>
    obtain ⟨e1, h1, h2, h3⟩ := hs d List.mem_cons_self
    rw [lcL, if_pos hgd, h1]
    simp only [h2]
    cases q : p d with
    | false =>
      simp only
      rw [ih (by rw [List.length_cons] at hl; omega) fun d' hd => hs d' (List.mem_cons_of_mem _ hd), List.filter_cons, q]
      rfl
    | true =>
      simp only [h3 q]
      rw [if_pos (small_line' (by rw [List.length_cons] at hl; omega)), ih (by rw [List.length_cons] at hl; rw [List.length_append, List.length_singleton]; omega) fun d' hd => hs d' (List.mem_cons_of_mem _ hd), List.filter_cons, q]
      simp
end
end SM

/-! ## frames, equal data, slices -/
namespace SM
open PySem L2
section
variable {α β : Type} {A A1 A2 A3 : Hs} {env e1 e2 : Sl} {a b c o v : E} {as : As} {d d1 d2 x y z : D} {i j k n : Nat} {p q r : Int} {C : String} {f g : S} {F : Fn} {cs os xs : List String} {tb : List (String × String × Bool)} {l l1 l2 : List D} {fs : List (String × D)} {s s1 s2 : List Nat} {u u1 u2 : O}
/-- what a piece of code leaves alone -/
def Fr (s : List Nat) (A A1 : Hs) : Prop := A.length ≤ A1.length ∧ ∀ j, j < A.length → j ∉ s → A1[j]? = A[j]?
theorem Fr.refl : Fr s A A := ⟨Nat.le_refl _, fun _ _ _ => rfl⟩
theorem Fr.trans (h : Fr s A A1) (k : Fr s A1 A2) : Fr s A A2 := ⟨Nat.le_trans h.1 k.1, fun j hj hn => (k.2 j (Nat.lt_of_lt_of_le hj h.1) hn).trans (h.2 j hj hn)⟩
theorem Fr.mono (h : Fr s A A1) (hs : ∀ j ∈ s, j ∈ s2) : Fr s2 A A1 := ⟨h.1, fun j hj hn => h.2 j hj fun h3 => hn (hs j h3)⟩
theorem lt_of_get {α : Type} {A : List α} {u : α} (h : A[i]? = some u) : i < A.length := by
  rcases Nat.lt_or_ge i A.length with h1 | h1
  · exact h1
  · rw [List.getElem?_eq_none h1] at h; cases h
theorem Fr.get (h : Fr s A A1) (g : A[j]? = some u) (hn : j ∉ s) : A1[j]? = some u := (h.2 j (lt_of_get g) hn).trans g
theorem Fr.le (h : Fr s A A1) : A.length ≤ A1.length := h.1
theorem Fr.set (h : i ∈ s) : Fr s A (A.set i u) := ⟨by simp, fun j hj hn => List.getElem?_set_ne fun (e : i = j) => hn (e ▸ h)⟩
theorem Fr.push : Fr s A (A ++ [u]) := ⟨by simp, fun j hj hn => by rw [List.getElem?_append_left hj]⟩
theorem Fr.then_set (h : Fr s A A1) (hi : i ∈ s ∨ A.length ≤ i) : Fr s A (A1.set i u) := ⟨by simpa using h.1, fun j hj hn => by
  rw [List.getElem?_set_ne fun (e : i = j) => hi.elim (fun h2 => hn (e ▸ h2)) fun h2 => by omega]
  exact h.2 j hj hn⟩
theorem Fr.then_push (h : Fr s A A1) : Fr s A (A1 ++ [u]) := h.trans .push
theorem get_push (h : A[j]? = some u1) : (A ++ [u])[j]? = some u1 := (List.getElem?_append_left (lt_of_get h)).trans h
theorem z2h : (A.set i u).set i u1 = A.set i u1 := List.set_set ..
theorem z4a : (A.set i u).length = A.length := by simp
/-! data without a heap -/
def pd : Nat → D → Bool
  | _, .non => true
  | _, .bl _ => true
  | _, .int _ => true
  | _, .str _ => true
  | n + 1, .tup l => l.all (pd n)
  | n + 1, .scr l => l.all (pd n)
  | n + 1, .wt l => l.all (pd n)
  | _, _ => false
theorem pd_int : pd n (.int p) = true := by cases n <;> rfl
theorem pd_ints {ns : List Int} : (ns.map D.int).all (pd n) = true := by
  rw [List.all_eq_true]; intro d hd; obtain ⟨i, _, rfl⟩ := List.mem_map.mp hd; exact pd_int
theorem pd_py : ∀ {n : Nat} {d : D}, pd n d = true → ∃ p, p.plain = true ∧ ∀ A, pyA A n d = some p := by
  intro n
  induction n with
  | zero =>
    intro d h
    cases d with
    | non => exact ⟨.none, rfl, fun A => by simp [pyA]⟩
    | bl b => exact ⟨.bool b, rfl, fun A => by simp [pyA]⟩
    | int b => exact ⟨.int b, rfl, fun A => by simp [pyA]⟩
    | str b => exact ⟨.str b, rfl, fun A => by simp [pyA]⟩
    | _ => cases h
  | succ n ih =>
    have all : ∀ {l : List D}, l.all (pd n) = true → ∃ ps, PyData.plainAll ps = true ∧ ∀ A, allSome (l.map (pyA A n)) = some ps := by
      intro l
      induction l with
      | nil => intro _; exact ⟨[], rfl, fun A => rfl⟩
      | cons d l il =>
        intro h
        rw [List.all_cons, Bool.and_eq_true] at h
        obtain ⟨p, h0, h1⟩ := ih h.1
        obtain ⟨ps, h2, h3⟩ := il h.2
        refine ⟨p :: ps, by simp [PyData.plainAll, h0, h2], fun A => ?_⟩
        rw [List.map_cons, h1 A, allSome, h3 A]; rfl
    intro d h
    cases d with
    | tup l =>
      obtain ⟨ps, h1, h2⟩ := all h
      exact ⟨.tuple ps, by simpa [PyData.plain] using h1, fun A => by rw [pyA, h2 A]; rfl⟩
    | wt l =>
      obtain ⟨ps, h1, h2⟩ := all h
      exact ⟨.tuple ps, by simpa [PyData.plain] using h1, fun A => by rw [pyA, h2 A]; rfl⟩
    | scr l =>
      obtain ⟨ps, h1, h2⟩ := all h
      exact ⟨.list ps, by simpa [PyData.plain] using h1, fun A => by rw [pyA, h2 A]; rfl⟩
    | non => exact ⟨.none, rfl, fun A => by simp [pyA]⟩
    | bl b => exact ⟨.bool b, rfl, fun A => by simp [pyA]⟩
    | int b => exact ⟨.int b, rfl, fun A => by simp [pyA]⟩
    | str b => exact ⟨.str b, rfl, fun A => by simp [pyA]⟩
    | _ => cases h
theorem pd_all : ∀ {l : List D}, l.all (pd n) = true → ∃ ps, PyData.plainAll ps = true ∧ ∀ A, allSome (l.map (pyA A n)) = some ps := by
  intro l
  induction l with
  | nil => intro _; exact ⟨[], rfl, fun A => rfl⟩
  | cons d l il =>
    intro h
    rw [List.all_cons, Bool.and_eq_true] at h
    obtain ⟨p, h0, h1⟩ := pd_py h.1
    obtain ⟨ps, h2, h3⟩ := il h.2
    refine ⟨p :: ps, by simp [PyData.plainAll, h0, h2], fun A => ?_⟩
    rw [List.map_cons, h1 A, allSome, h3 A]; rfl
/-- two values that read the same -/
theorem eqA_same {P : PyData} (hp : P.plain = true) (h : pyA A 40 x = some P) (k : pyA A 40 y = some P) : eqA A x y = some true := by
  unfold eqA; rw [h, k]; simp only; rw [PySem.SeqAt.eqv_refl_plain _ hp]
theorem eqA_pd (h : pd 40 x = true) : eqA A x x = some true := by
  obtain ⟨P, h1, h2⟩ := pd_py h
  exact eqA_same h1 (h2 A) (h2 A)
theorem py_lst (h : A[i]? = some (.lst l)) : pyA A (n + 1) (.ref i) = (allSome (l.map (pyA A n))).map .list := by
  rw [pyA]; simp only [h]
theorem eqA_lst (h : A[i]? = some (.lst l)) (k : A[j]? = some (.lst l)) (hp : l.all (pd 39) = true) : eqA A (.ref i) (.ref j) = some true := by
  obtain ⟨ps, h1, h2⟩ := pd_all hp
  refine eqA_same (P := .list ps) (by simpa [PyData.plain] using h1) ?_ ?_
  · rw [py_lst h, h2 A]; rfl
  · rw [py_lst k, h2 A]; rfl
theorem oNe_pd (h : pd 40 x = true) : oNe x x A = .ok (.bl false) A := neA_of (eqA_pd h)
theorem oEq_lst (h : A[i]? = some (.lst l)) (k : A[j]? = some (.lst l)) (hp : l.all (pd 39) = true) : oEq (.ref i) (.ref j) A = .ok (.bl true) A := eqA_of (eqA_lst h k hp)
theorem oNe_lst (h : A[i]? = some (.lst l)) (k : A[j]? = some (.lst l)) (hp : l.all (pd 39) = true) : oNe (.ref i) (.ref j) A = .ok (.bl false) A := neA_of (eqA_lst h k hp)
theorem oNe_bb {b c : Bool} : oNe (.bl b) (.bl c) A = .ok (.bl (!decide (b = c))) A := by
  refine neA_of ?_
  unfold eqA; cases b <;> cases c <;> simp [pyA, PyData.eqv]
/-! slices -/
theorem sIx_some {n d : Nat} {v : Int} (h : 0 ≤ v) : HT.sIx n d (some v) = min v.toNat n := by
  obtain ⟨k, rfl⟩ := Int.eq_ofNat_of_zero_le h
  exact HT.sIx_nat n d k
theorem z5m {l : List α} : cutD l none none = l := by
  unfold cutD; rw [HT.sIx_none, HT.sIx_none]; simp
theorem z77 {l : List α} (h : 0 ≤ p) : cutD l none (some p) = l.take p.toNat := by
  unfold cutD; rw [HT.sIx_none, sIx_some h]
  rw [List.drop_zero, Nat.sub_zero, List.take_eq_take_iff]; omega
theorem z50 {l : List α} (h : 0 ≤ p) : cutD l (some p) none = l.drop p.toNat := by
  unfold cutD; rw [HT.sIx_none, sIx_some h]
  rcases Nat.le_total p.toNat l.length with q | q
  · rw [Nat.min_eq_left q, List.take_of_length_le (by rw [List.length_drop]; omega)]
  · rw [Nat.min_eq_right q, List.drop_of_length_le (Nat.le_refl _), List.drop_of_length_le q]; simp
theorem z71 {l : List α} (h : 0 ≤ p) (k : 0 ≤ q) : cutD l (some p) (some q) = (l.drop p.toNat).take (q.toNat - p.toNat) := by
  unfold cutD; rw [sIx_some h, sIx_some k]
  rcases Nat.le_total p.toNat l.length with r | r
  · rw [Nat.min_eq_left r, List.take_eq_take_iff, List.length_drop]; omega
  · rw [Nat.min_eq_right r, List.drop_of_length_le (Nat.le_refl _), List.drop_of_length_le r]; simp
theorem z66 {l : List α} (h : 0 ≤ p) : atI l p = l[p.toNat]? := by
  unfold atI ixN
  rw [if_pos h]
  by_cases k : p < l.length
  · rw [if_pos k]; rfl
  · rw [if_neg k, List.getElem?_eq_none (by omega)]; rfl
theorem ixN_nat (h : 0 ≤ p) (k : p < (n : Int)) : ixN n p = some p.toNat := by
  unfold ixN; rw [if_pos h, if_pos k]
theorem mem_rgL {lo c : Int} {n : Nat} (h : d ∈ rgL lo c n) : ∃ i : Nat, i < n ∧ d = .int (lo + i * c) := by
  unfold rgL at h; obtain ⟨i, hi, rfl⟩ := List.mem_map.mp h; exact ⟨i, List.mem_range.mp hi, rfl⟩
end
end SM

/-! ## the same, as rules that only compute (the heap's places are looked up in the term) -/
namespace SM
open PySem L2
section
variable {α β : Type} {A A1 A2 A3 : Hs} {env e1 e2 : Sl} {a b c o v : E} {as : As} {d d1 d2 x y z w : D} {i j k n : Nat} {p q r : Int} {C m : String} {f g : S} {F : Fn} {cs os xs : List String} {tb : List (String × String × Bool)} {l l1 l2 : List D} {fs : List (String × D)} {u u1 u2 : O} {lo hi : Option Int} {t lk : Bool} {kv : List (D × D)}
def sq_ : Option O → Option (List D)
  | some (.lst l) => some l
  | _ => none
theorem z9p : sq_ (some (.lst l)) = some l := rfl
theorem z5c : seqL A (.ref i) = sq_ A[i]? := by unfold seqL sq_; rfl
theorem z4o : lstAt A (.ref i) = (sq_ A[i]?).map fun l => (i, l) := by
  unfold lstAt sq_
  rcases h : A[i]? with _ | u
  · simp only [h]; rfl
  · cases u <;> simp only [h] <;> rfl
theorem z7w {α β : Type} {f : α → β} {x : α} : (some x).map f = some (f x) := rfl
def ob_ : Option O → Option (String × List (String × D))
  | some (.obj C fs) => some (C, fs)
  | _ => none
theorem zb7 : ob_ (some (.obj C fs)) = some (C, fs) := rfl
theorem z3z : objAt A (.ref i) = ob_ A[i]? := by unfold objAt ob_; rfl
def gf_ (cs : List String) (f : String) : Option (String × List (String × D)) → Option D
  | some (C, fs) => if C ∈ cs then fs.lookup f else none
  | none => none
theorem zat {f : String} : gf_ cs f (some (C, fs)) = if C ∈ cs then fs.lookup f else none := rfl
theorem z2i {f : String} : getFld cs f A x = gf_ cs f (objAt A x) := by unfold getFld gf_; rfl
def sf_ (cs : List String) (A : Hs) (i : Nat) (f : String) (d : D) : Option (String × List (String × D)) → Option Hs
  | some (C, fs) => if C ∈ cs ∧ fs.length < 999 then some (A.set i (.obj C (putF f d fs))) else none
  | none => none
theorem zb4 {f : String} : sf_ cs A i f d (some (C, fs)) = if C ∈ cs ∧ fs.length < 999 then some (A.set i (.obj C (putF f d fs))) else none := rfl
theorem z2z {f : String} : setFld cs A (.ref i) f d = sf_ cs A i f d (ob_ A[i]?) := by
  unfold setFld
  rcases h : A[i]? with _ | u
  · simp only [h]; rfl
  · cases u <;> simp only [h] <;> rfl
def mo_ (m : String) (t : List (String × Fn)) : Option (String × List (String × D)) → Option Fn
  | some (C, fs) => if (fs.lookup m).isSome = true then none else t.lookup C
  | none => none
theorem za2 {t : List (String × Fn)} : mo_ m t (some (C, fs)) = if (fs.lookup m).isSome = true then none else t.lookup C := rfl
theorem z2n {t : List (String × Fn)} : methOf m t A x = mo_ m t (objAt A x) := by
  unfold methOf mo_; rfl
theorem z20 {β : Type} {f : String} : List.lookup f ([] : List (String × β)) = none := rfl
theorem z0u {β : Type} {f g : String} {x : β} {r : List (String × β)} : List.lookup f ((g, x) :: r) = if f = g then some x else List.lookup f r := by
  by_cases h : f = g
  · rw [if_pos h]; subst h; simp
  · rw [if_neg h, List.lookup, beq_false_of_ne h]
def at_ (A : Hs) : Option D → RE D
  | some d => .ok d A
  | none => .stuck
theorem z9u : at_ A (some d) = .ok d A := rfl
def ln_ (A : Hs) : Option O → RE D
  | some (.lst l) => .ok (.int l.length) A
  | some (.dic false false l) => .ok (.int l.length) A
  | _ => .stuck
theorem zb8 : ln_ A (some (.lst l)) = .ok (.int l.length) A := rfl
theorem zad : ln_ A (some (.dic false false kv)) = .ok (.int kv.length) A := rfl
theorem z70 : oLen (.ref i) A = ln_ A A[i]? := by
  unfold oLen lenA; rw [z5c]
  simp only [seqT]
  rcases A[i]? with _ | u
  · rfl
  · cases u with
    | lst l => rfl
    | obj C f => rfl
    | dic t lk kv => cases t <;> cases lk <;> rfl
theorem z1t : oLen (.scr l) A = .ok (.int l.length) A := rfl
def ix_ (A : Hs) (p : Int) : Option (List D) → RE D
  | some l => at_ A (atI l p)
  | none => .stuck
theorem za1 : ix_ A p (some l) = at_ A (atI l p) := rfl
theorem z7v : oIx (.ref i) (.int p) A = ix_ A p (sq_ A[i]?) := by
  unfold oIx; simp only [z5c]
  rcases h : sq_ A[i]? with _ | l
  · rfl
  · show (match atI l p with | some d => RE.ok d A | none => .stuck) = at_ A (atI l p)
    cases atI l p <;> rfl
theorem z38 : oIx (.scr l) (.int p) A = at_ A (atI l p) := by
  unfold oIx; simp only [seqL]; unfold at_; cases atI l p <;> rfl
theorem z3o : oIx (.tup l) (.int p) A = at_ A (atI l p) := by
  unfold oIx seqT; simp only [z1u]; unfold at_; cases atI l p <;> rfl
def nw_ (A : Hs) : Option (List D) → RE D
  | some l => .ok (.ref A.length) (A ++ [.lst l])
  | none => .stuck
theorem zbf : nw_ A (some l) = .ok (.ref A.length) (A ++ [.lst l]) := rfl
theorem z8b : oSl (.ref i) lo hi A = nw_ A ((sq_ A[i]?).map fun l => cutD l lo hi) := by
  unfold oSl; rw [z5c]; cases sq_ A[i]? <;> rfl
theorem z48 : oSl (.scr l) lo hi A = .ok (.ref A.length) (A ++ [.lst (cutD l lo hi)]) := rfl
theorem z44 : oList (.ref i) A = nw_ A (sq_ A[i]?) := by
  unfold oList; rw [z5c]; cases sq_ A[i]? <;> rfl
theorem z11 : oList (.scr l) A = .ok (.ref A.length) (A ++ [.lst l]) := rfl
theorem z6m : oRev (.ref i) A = nw_ A ((sq_ A[i]?).map List.reverse) := by
  unfold oRev; rw [z5c]; cases sq_ A[i]? <;> rfl
def tp_ (A : Hs) : Option (List D) → RE D
  | some l => .ok (.tup l) A
  | none => .stuck
theorem zav : tp_ A (some l) = .ok (.tup l) A := rfl
theorem z2w : oTuple (.ref i) A = tp_ A (sq_ A[i]?) := by
  unfold oTuple; rw [z5c]; cases sq_ A[i]? <;> rfl
theorem z0i : oTuple (.scr l) A = .ok (.tup l) A := rfl
def ap_ (A : Hs) (i : Nat) (l1 : List D) : Option (List D) → RE D
  | some l => if l.length + l1.length ≤ sizeLine then .ok .non (A.set i (.lst (l ++ l1))) else .stuck
  | none => .stuck
theorem zau (h : l.length + l1.length ≤ 16000000) : ap_ A i l1 (some l) = .ok .non (A.set i (.lst (l ++ l1))) := if_pos (z0f h)
theorem z15 : oAppend (.ref i) [d] A = ap_ A i [d] (sq_ A[i]?) := by
  unfold oAppend; rw [z4o]
  rcases sq_ A[i]? with _ | l
  · rfl
  · simp only [z7w, ap_, List.length_singleton]; rfl
theorem z0n : oExtend (.ref i) [.tup l1] A = ap_ A i l1 (sq_ A[i]?) := by
  unfold oExtend; rw [z4o]
  rcases sq_ A[i]? with _ | l
  · rfl
  · simp only [z7w, lstAt]; rfl
def ex_ (A : Hs) (i : Nat) (r : Option (List D)) : Option (List D) → RE D
  | some l1 => ap_ A i l1 r
  | none => .stuck
theorem zaf {r : Option (List D)} : ex_ A i r (some l1) = ap_ A i l1 r := rfl
theorem z0j : oExtend (.ref i) [.ref j] A = ex_ A i (sq_ A[i]?) (sq_ A[j]?) := by
  unfold oExtend
  rcases h : sq_ A[i]? with _ | l
  · rcases h2 : sq_ A[j]? with _ | l1 <;> simp only [z4o, h, Option.map] <;> rfl
  · rcases h2 : sq_ A[j]? with _ | l1 <;> simp only [z4o, h, h2, Option.map] <;> rfl
def cl_ (A : Hs) (i : Nat) : Option (List D) → RE D
  | some _ => .ok .non (A.set i (.lst []))
  | none => .stuck
theorem z9m : cl_ A i (some l) = .ok .non (A.set i (.lst [])) := rfl
theorem z2g : oClear (.ref i) A = cl_ A i (sq_ A[i]?) := by
  unfold oClear; rw [z4o]; cases sq_ A[i]? <;> rfl
def si_ (A : Hs) (i : Nat) (y v : D) (u : Option O) : Option Hs := match u with
    | some (.lst l) => match y with
      | .int k => match ixN l.length k with
        | some n => some (A.set i (.lst (l.set n v)))
        | none => none
      | _ => none
    | some (.dic t false l) => if keyOk t y && decide (l.length < sizeLine) then some (A.set i (.dic t false (kput l y v))) else none
    | _ => none
theorem z3j : setIt A (.ref i) y z = si_ A i y z A[i]? := rfl
theorem z9t (h : 0 ≤ p ∧ p < (l.length : Int)) : si_ A i (.int p) z (some (.lst l)) = some (A.set i (.lst (l.set p.toNat z))) := by
  unfold si_; simp only [ixN_nat h.1 h.2]
theorem z9j (h : kv.length < 16000000) : si_ A i y z (some (.dic t false kv)) = if keyOk t y = true then some (A.set i (.dic t false (kput kv y z))) else none := by
  unfold si_; simp only [decide_eq_true (small_line' h), Bool.and_true]
def gn_ (p : Int) : Option (List D) → Option D
  | some l => if 0 ≤ p then l[p.toNat]? else none
  | none => none
theorem zag : gn_ p (some l) = if 0 ≤ p then l[p.toNat]? else none := rfl
theorem z6a : getN A (.ref i) (.int p) = gn_ p (sq_ A[i]?) := by
  unfold getN; rw [z5c]; cases sq_ A[i]? <;> rfl
def il_ : Option O → Bool
  | some (.lst _) => true
  | _ => false
theorem z9r : il_ (some (.lst l)) = true := rfl
theorem zb9 : il_ (some (.dic t lk kv)) = false := rfl
theorem z3m : isLst A (.ref i) = il_ A[i]? := by unfold isLst il_; rfl
def dg_ (A : Hs) (y : D) : Option O → RE D
  | some (.dic t _ kv) => if keyOk t y = true then at_ A (kget kv y) else .stuck
  | _ => .stuck
theorem zas : dg_ A y (some (.dic t lk kv)) = if keyOk t y = true then at_ A (kget kv y) else .stuck := rfl
theorem z4w : oDGet (.ref i) y A = dg_ A y A[i]? := by
  unfold oDGet dicAt
  rcases h : A[i]? with _ | u
  · simp only [h]; rfl
  · cases u with
    | dic t lk kv => simp only [h, dg_]; unfold at_; split <;> first | rfl | (cases kget kv y <;> rfl)
    | _ => simp only [h]; rfl
def wl_ (A : Hs) (i : Nat) : Option O → Option Wk
  | some (.lst l) => some ⟨l, fun A' => A'[i]? = some (.lst l)⟩
  | _ => none
theorem z9i : wl_ A i (some (.lst l)) = some ⟨l, fun A' => A'[i]? = some (.lst l)⟩ := rfl
theorem z8n : wkA A (.ref i) = wl_ A i A[i]? := by
  unfold wkA wkL wl_
  rcases h : A[i]? with _ | u
  · simp only [h]
  · cases u <;> simp only [h]
def we_ (A : Hs) (i : Nat) : Option O → Option Wk
  | some (.lst l) => some ⟨enumL l, fun A' => A'[i]? = some (.lst l)⟩
  | _ => none
theorem za7 : we_ A i (some (.lst l)) = some ⟨enumL l, fun A' => A'[i]? = some (.lst l)⟩ := rfl
theorem z7x : wkE A (.ref i) = we_ A i A[i]? := by
  unfold wkE wkL we_
  rcases h : A[i]? with _ | u
  · simp only [h]; rfl
  · cases u <;> simp only [h] <;> rfl
/-! lists of truths, numbers -/
def al_ (A : Hs) : Option (List Bool) → RE D
  | some bs => .ok (.bl (bs.all id)) A
  | none => .stuck
theorem za4 {bs : List Bool} : al_ A (some bs) = .ok (.bl (bs.all id)) A := rfl
theorem z5q : oAll x A = al_ A ((seqL A x).bind boolsOf) := by unfold oAll al_; rfl
def sm_ (A : Hs) : Option (List Int) → RE D
  | some bs => .ok (.int bs.sum) A
  | none => .stuck
theorem zb0 {ns : List Int} : sm_ A (some ns) = .ok (.int ns.sum) A := rfl
theorem z5h : oSum x A = sm_ A ((seqL A x).bind intsOf) := by unfold oSum sm_; rfl
theorem z3x {α β : Type} {f : α → Option β} {x : α} : (some x).bind f = f x := rfl
/-! places -/
theorem zaz (h : i < A.length) : (A.set i u)[i]? = some u := List.getElem?_set_self h
theorem z4b (h : i ≠ j) : (A.set i u)[j]? = A[j]? := List.getElem?_set_ne h
theorem z82 (h : j < A.length) : (A ++ [u])[j]? = A[j]? := List.getElem?_append_left h
theorem zar : (A ++ [u])[A.length]? = some u := by simp
theorem z7e (h : j = A.length) : (A ++ [u])[j]? = some u := by subst h; simp
theorem z22 : (A ++ [u]).length = A.length + 1 := by simp
theorem z2f : kget [] y = none := rfl
theorem z0w : kget ((x, z) :: kv) y = if keq x y = true then some z else kget kv y := by rw [kget]
theorem zak : il_ (some (.obj C fs)) = false := rfl
theorem z8a : (Wk.mk l tt).gd = tt := rfl
theorem z9e {gd : Hs → Prop} : (Wk.mk l gd).ds = l := rfl
theorem z80 {gd : Hs → Prop} : (Wk.mk l gd).gd = gd := rfl
theorem tt_ : tt A := trivial
theorem z23 : wipeS env [] = env := rfl
theorem z1n {vs : List Nat} : wipeS env (i :: vs) = (wipeS env vs).set i none := by rw [wipeS]
/-- a result, by what holds of it -/
def Rk {α : Type} (r : RE α) (P : α → Hs → Prop) : Prop := match r with
  | .ok v A => P v A
  | _ => False
theorem z94 {α : Type} {x : α} {P : α → Hs → Prop} : Rk (.ok x A) P = P x A := rfl
theorem Rk.ex {α : Type} {r : RE α} {P : α → Hs → Prop} (h : Rk r P) : ∃ v A1, r = .ok v A1 ∧ P v A1 := by
  cases r with
  | ok v A1 => exact ⟨v, A1, rfl, h⟩
  | _ => exact h.elim
theorem Rk.of {α : Type} {r : RE α} {P : α → Hs → Prop} {x : α} (e : r = .ok x A) (h : P x A) : Rk r P := by rw [e]; exact h
theorem Rk.mono {α : Type} {r : RE α} {P P2 : α → Hs → Prop} (h : Rk r P) (k : ∀ v A, P v A → P2 v A) : Rk r P2 := by
  obtain ⟨v, A1, e, p⟩ := h.ex
  exact .of e (k v A1 p)
theorem Rk.make {P : D → Hs → Prop} {ds : List D} (h : Rk (F (.ref A.length :: ds) (A ++ [.obj C []])) fun v A1 => v = .non ∧ P (.ref A.length) A1) : Rk (make C F ds A) P := by
  obtain ⟨v, A1, e, rfl, p⟩ := h.ex
  exact .of (make_ok e) p
/-- a call in the goal, by what is known of it -/
theorem Rk.call {α : Type} {r : RE α} {P : α → Hs → Prop} (Q : RE α → Prop) (h : Rk r P) (k : ∀ v A1, P v A1 → Q (.ok v A1)) : Q r := by
  obtain ⟨v, A1, e, p⟩ := h.ex
  rw [e]; exact k v A1 p
/-- one turn of a loop: J where it goes on, R where the loop ends -/
def Trn (J : Sl → Hs → Prop) (R : RS → Prop) (r : RS) : Prop := match r with
  | .nx e A => J e A
  | .ct e A => J e A
  | .rt d A => R (.rt d A)
  | .bk e A => R (.nx e A)
  | .exc C e A => R (.exc C e A)
  | .stuck => False
theorem z9f {J : Sl → Hs → Prop} {R : RS → Prop} : Trn J R (.nx env A) = J env A := rfl
theorem z7h {J : Sl → Hs → Prop} {R : RS → Prop} : Trn J R (.ct env A) = J env A := rfl
theorem z91 {J : Sl → Hs → Prop} {R : RS → Prop} : Trn J R (.rt d A) = R (.rt d A) := rfl
theorem z87 {J : Sl → Hs → Prop} {R : RS → Prop} : Trn J R (.bk env A) = R (.nx env A) := rfl
theorem z61 {J : Sl → Hs → Prop} {R : RS → Prop} : Trn J R (.exc C env A) = R (.exc C env A) := rfl
def Tst (s : Hs → Prop) (k : Hs → Prop) (c : Bool) (A : Hs) : Prop := match c with
  | true => s A
  | false => k A
theorem z8x {s k : Hs → Prop} : Tst s k true A = s A := rfl
theorem z8j {s k : Hs → Prop} : Tst s k false A = k A := rfl
theorem z99 {s k : Hs → Prop} {c : Prop} [Decidable c] : Tst s k (decide c) A = if c then s A else k A := by
  by_cases h : c
  · simp [h, Tst]
  · simp [h, Tst]
theorem wh_go {t : Tt} (I : Nat → Sl → Hs → Prop) (R : RS → Prop) {n : Nat} (h0 : I n env A)
    (hs : ∀ n e A, I n e A → Rk (t e A) (Tst (fun A1 => Trn (fun e2 A2 => ∃ m, m < n ∧ I m e2 A2) R (f e A1)) fun A1 => R (.nx e A1))) : R (sWh t f env A) := by
  refine wh_inv I R h0 fun n e A hI => ?_
  obtain ⟨c, A1, h1, h2⟩ := (hs n e A hI).ex
  cases c with
  | false => exact .inl ⟨A1, h1, h2⟩
  | true =>
    refine .inr ⟨A1, h1, ?_⟩
    change Trn _ _ _ at h2
    cases q : f e A1 with
    | nx e2 A2 => rw [q] at h2; exact .inl ⟨e2, A2, .inl rfl, h2⟩
    | ct e2 A2 => rw [q] at h2; exact .inl ⟨e2, A2, .inr rfl, h2⟩
    | rt d2 A2 => rw [q] at h2; exact .inr (.inl ⟨d2, A2, rfl, h2⟩)
    | bk e2 A2 => rw [q] at h2; exact .inr (.inr (.inl ⟨e2, A2, rfl, h2⟩))
    | exc C e2 A2 => rw [q] at h2; exact .inr (.inr (.inr ⟨C, e2, A2, rfl, h2⟩))
    | stuck => rw [q] at h2; exact h2.elim
def Got (r : Option Sl) (P : Sl → Prop) : Prop := match r with
  | some e => P e
  | none => False
theorem z7o {P : Sl → Prop} : Got (some env) P = P env := rfl
theorem for_go {g : G} {gd : Hs → Prop} (I : Nat → Sl → Hs → Prop) (R : RS → Prop) {ds : List D} (h0 : I 0 env A) (hg : ∀ i e A, i ≤ ds.length → I i e A → gd A)
    (hs : ∀ i e A d, ds[i]? = some d → I i e A → Got (g d e A) fun e1 => Trn (I (i + 1)) R (f e1 A))
    (hd : ∀ e A, I ds.length e A → R (.nx e A)) : R (forL g f gd ds env A) := by
  refine for_inv I R h0 hg (fun i e A d hd hI => ?_) hd
  have h2 := hs i e A d hd hI
  cases q0 : g d e A with
  | none => rw [q0] at h2; exact h2.elim
  | some e1 =>
    rw [q0, z7o] at h2
    refine ⟨e1, rfl, ?_⟩
    cases q : f e1 A with
    | nx e2 A2 => rw [q] at h2; exact .inl ⟨e2, A2, .inl rfl, h2⟩
    | ct e2 A2 => rw [q] at h2; exact .inl ⟨e2, A2, .inr rfl, h2⟩
    | rt d2 A2 => rw [q] at h2; exact .inr (.inl ⟨d2, A2, rfl, h2⟩)
    | bk e2 A2 => rw [q] at h2; exact .inr (.inr (.inl ⟨e2, A2, rfl, h2⟩))
    | exc C e2 A2 => rw [q] at h2; exact .inr (.inr (.inr ⟨C, e2, A2, rfl, h2⟩))
    | stuck => rw [q] at h2; exact h2.elim
/-- a comprehension of pure parts over what its walk gives, as simp shows it -/
theorem lc_go {g : G} {t : Tt} {gd : Hs → Prop} (p : D → Bool) (h : D → D) {ds : List D} (hgd : gd A) (hl : ds.length < 16000000)
    (hs : ∀ d ∈ ds, Got (g d env A) fun e1 => Rk (t e1 A) fun c A1 => c = p d ∧ A1 = A ∧ (c = true → Rk (a e1 A) fun v A2 => v = h d ∧ A2 = A)) : lcL g t a gd env ds [] A = .ok ((ds.filter p).map h) A := by
  refine lc_pure p h hgd (by simpa using hl) fun d hd => ?_
  have h2 := hs d hd
  cases q0 : g d env A with
  | none => rw [q0] at h2; exact h2.elim
  | some e1 =>
    rw [q0, z7o] at h2
    obtain ⟨c, A1, e, rfl, rfl, k⟩ := h2.ex
    refine ⟨e1, rfl, e, fun hp => ?_⟩
    obtain ⟨v, A2, e3, rfl, rfl⟩ := (k hp).ex
    exact e3
end
end SM

/-! ## enumerate over a tuple -/
namespace SM
open PySem L2 PySem.Spec PyProof.Rows
theorem meets_enumerate_newB1 {v : Value} {o : Obj} {H : Heap → Prop} (B : Begins v o H) :
    Meets (Builtin.«enumerate.__new__» ⟨[.type "enumerate", v], []⟩) (fun _ R s => H s.heap ∧
      R (.ok (.ret (.ref (s.heap.push o).objs.size))) { s with heap := (s.heap.push o).push { cls := .type "enumerate", data := .fields #[.none, .bool false, .ref s.heap.objs.size, rawInt 0, .none, .none] } }) :=
  .of_wp fun prog w A R s h => by
    obtain ⟨hp, g, d, tk, os⟩ := s; obtain ⟨h1, h⟩ := h
    have hsub := sub_enumerate
    have q1 : ∀ {A' : Around} {E : Value → Shared → Prop} {Q : Value → Shared → Prop}, Q (.ref hp.objs.size) ⟨hp.push o, g, d, tk, os⟩ → wpAny (model prog w) A' (pyIter v) Q E ⟨hp, g, d, tk, os⟩ :=
      fun q => B.iter prog w _ _ ⟨hp, g, d, tk, os⟩ _ h1 q
    wp_walk using q1
    refine wpAny_stack_any fun st => wpAny_pure ?_
    split
    · rename_i c _ _ _ _ _
      cases (c == Value.type "enumerate")
      · wp_walk using q1
        exact ⟨_, rfl, h⟩
      · wp_walk using q1
        exact ⟨_, rfl, h⟩
    · wp_walk using q1
      exact ⟨_, rfl, h⟩
section
variable {prog : Program} {w : World} {A : Around} {E : Value → Shared → Prop} {s : Shared}
theorem enum_begins1 {v : Value} {o : Obj} {H : Heap → Prop} {Q : Value → Shared → Prop} (B : Begins v o H) (h1 : H s.heap)
    (h : ∀ h', IsEnum h' (s.heap.objs.size + 1) s.heap.objs.size 0 .none → h'.get? s.heap.objs.size = some o → h'.objs.size = s.heap.objs.size + 2 →
      (∀ b o, s.heap.get? b = some o → h'.get? b = some o) → Q (.ref (s.heap.objs.size + 1)) { s with heap := h' }) :
    wpAny (model prog w) A (call (.type "enumerate") [v]) Q E s := by
  refine callType_new F.called_enumerate (by decide) (F.typeCall_enumerate_1 _) (F.newCall_enumerate_1 _) (fun obj => F.args_object_init_2 obj _) F.entry_enumerate_new
    (meets_enumerate_newB1 B) ⟨h1, ?_⟩
  have hz : (s.heap.push o).objs.size = s.heap.objs.size + 1 := Heap.size_push ..
  show _ ∧ _
  rw [hz]
  have he : IsEnum ((s.heap.push o).push { cls := .type "enumerate", data := .fields #[.none, .bool false, .ref s.heap.objs.size, rawInt 0, .none, .none] }) (s.heap.objs.size + 1) s.heap.objs.size 0 .none := by
    have := Heap.get?_push_size (s.heap.push o) (o := { cls := .type "enumerate", data := .fields #[.none, .bool false, .ref s.heap.objs.size, rawInt 0, .none, .none] }) rfl
    rw [hz] at this; exact this
  refine ⟨⟨_, he, rfl⟩, h _ he (Heap.get?_push_of_some _ (Heap.get?_push_size _ B.free)) (by rw [Heap.size_push, hz]) fun b o x => Heap.get?_push_of_some _ (Heap.get?_push_of_some _ x)⟩
end
/-- the tuple at a, each item in a new pair -/
def IteT (K : PySem.W.Frag) (a : Addr) : It :=
  ⟨fun i H => ∃ (xs : List V) (x : V), SqT K H a xs ∧ xs[i]? = some x, fun i H v H' => ∃ T x, v = .ref T ∧ H T = none ∧ H' = upd H T (.tup [.int (i : Nat), x]) ∧ ∀ xs, SqT K H a xs → xs[i]? = some x, fun i H => ∃ xs : List V, SqT K H a xs ∧ xs.length ≤ i⟩
theorem turn_enumT {P : Program} {w : World} {K : PySem.W.Frag} {elts : List Expr} {kk : Nat} {tpos : Pos} (a e it : Addr) :
    Turn P w K (.Tuple elts kk tpos) (IteT K a) [e, it] e (fun i h => (∃ old, IsEnum h e it ((i : Nat) : Int) old) ∧ h.IsTupleIter it a i ∧ e ≠ it) where
  mem := by simp
  obj := fun i h st b hb => by
    obtain ⟨⟨old, he⟩, ⟨o, ho, hc, hd⟩, _⟩ := st
    have e' : b = e ∨ b = it := by simpa using hb
    rcases e' with z | z
    · rw [z]; exact ⟨_, he, fun v q => nomatch q⟩
    · rw [z]; exact ⟨o, ho, fun v q => by rw [hd] at q; cases q⟩
  keep := fun i h h' st k => let ⟨⟨old, he⟩, hi, hne⟩ := st; ⟨⟨old, k e (by simp) _ he⟩, hi.at fun o q => k it (by simp) o q, hne⟩
  item := by
    intro X hP hw hK hc i pins s σ H E I hf st hg
    subst hP hw hK
    obtain ⟨⟨old, he⟩, hit, hne⟩ := st
    obtain ⟨xs, x, hq, hx⟩ := hg
    obtain ⟨its, rv, p, hz⟩ := I.tuple hq
    obtain ⟨u, hu, ru⟩ := rv.get hx
    have hel : e < s.heap.objs.size := Heap.lt_size he
    have hil : it < s.heap.objs.size := by obtain ⟨_, q, _⟩ := hit; exact Heap.lt_size q
    have hpT : s.heap.IsTuple a its.toArray := p
    have hai : a ≠ it := fun z => by
      subst z
      obtain ⟨o, ho, hc, hd⟩ := hit
      obtain ⟨o2, ho2, hc2, _⟩ := hpT
      rw [ho] at ho2; cases ho2
      rw [hc] at hc2; simp at hc2
    have hae : a ≠ e := fun z => by
      subst z
      obtain ⟨o2, ho2, hc2, _⟩ := hpT
      rw [he] at ho2; cases ho2
      simp at hc2
    have hlt : i < its.toArray.size := by
      rcases Nat.lt_or_ge i its.length with q | q
      · simpa using q
      · rw [List.getElem?_eq_none q] at hu; cases hu
    refine wpAny_pyNext_enum_itemD (A := X.A) (Draws.tuple (A := X.A.in1) (I.ok.hd hc) it a hai its.toArray) he ⟨hit, hpT⟩ hlt hne (by simp; exact ⟨hne, fun z => hae z.symm⟩) fun u' h' tk hP ho hst hT hsz hk => ?_
    obtain rfl : u' = u := by
      have : its.toArray[i]? = some u := by simpa using hu
      rw [this] at hP; cases hP; rfl
    refine ⟨_, rfl, wpAny_letOwnedTupleGo_enum (s := { s with heap := h', toks := tk + 1 }) ho fun h'' he' sb => ?_⟩
    have hT2 : h''.get? s.heap.objs.size = some { cls := .type "tuple", data := .seq #[.int i tk, u'] } := (sb.2 _ (Nat.ne_of_gt hel)).trans hT
    have new : ObjOk X.prog X.w (upd H s.heap.objs.size (.tup [.int (i : Nat), x])) h'' s.heap.objs.size (.tup [.int (i : Nat), x]) :=
      ⟨by show 2 ≤ sizeLine; decide, [.int i tk, u'], .cons ⟨_, rfl⟩ (.cons ru .nil), ⟨_, hT2, rfl, _, rfl⟩⟩
    have I1 : Inv X pins σ (upd H s.heap.objs.size (.tup [.int (i : Nat), x])) { s with heap := h'', toks := tk + 1 } :=
      I.turnedNew (ch := [e, it]) (fun b ob hb q => (sb.2 b (fun z => hb (by simp [z]))).trans (hk b ob (fun z => hb (by simp [z])) (fun z => hb (by simp [z])) q)) hf (Nat.le_refl _) new
    refine ⟨.ref s.heap.objs.size, _, I1, rfl, ⟨_, x, rfl, I.hok.fresh (Nat.le_refl _), rfl, fun ys hy => by rw [I.tuple_inj hy hq]; exact hx⟩, ⟨⟨u', ?_⟩, hst.1.at fun o q => (sb.2 it (Ne.symm hne)).trans q, hne⟩, fun b hb => ?_⟩
    · have e1 : ((i + 1 : Nat) : Int) = (i : Int) + 1 := by omega
      rw [e1]; exact he'
    · have hb' : b < s.heap.objs.size := by
        have e' : b = e ∨ b = it := by simpa using hb
        rcases e' with z | z
        · rw [z]; exact hel
        · rw [z]; exact hil
      rw [upd_ne (Nat.ne_of_lt hb')]
      exact (hf b hb).1
  done := by
    intro X hP hw hK hc i pins s σ H E I hf st hg
    subst hP hw hK
    obtain ⟨⟨old, he⟩, hit, hne⟩ := st
    obtain ⟨xs, hq, hx⟩ := hg
    obtain ⟨its, rv, p, hz⟩ := I.tuple hq
    obtain ⟨f0, f1, f2, f3, f4, f5⟩ := hf it (by simp)
    have hl := rv.length
    have hpT : s.heap.IsTuple a its.toArray := p
    have hT : s.TypeIs (.ref e) "enumerate" := ⟨_, he, rfl⟩
    unfold pyNext
    refine wpAny_bind (wpAny_attempt (wpAny_callSpecial?_slot (name := Str.ofString "__next__") hT F.slot_enumerate_next
      (wpAny_call_entry F.slot_enumerate_next hT F.entry_enumerate_next ?_ (F.args_enumerate_next_1 _))))
    show wpAny _ _ (field (.ref e) 2 >>= _) _ _ _
    refine wpAny_bind (wpAny_field he rfl (x := .ref it) rfl ?_)
    refine wpAny_bind (wpAny_nextOf_tuple_end (I.ok.hd hc) hit hpT (by simp; omega) fun h' x he' hx' => ?_)
    obtain ⟨o, ho, hc⟩ := hx'
    refine wpAny_bind (wpAny_isInstance (T := "StopIteration") (b := true) ⟨o, ho, hc⟩ isSubtype_stop ?_)
    exact wpAny_pure ⟨rfl, I.turned (t' := s.toks) (fun b o hb q => he' b o hb q) f0 f1 f3 f4 f5⟩
  self := fun A i s Q E st h => let ⟨⟨_, he⟩, _⟩ := st; wpAny_pyIter_enum he h
def iEnumT (K : PySem.W.Frag) (ta : TA) : TI := fun σ H R => ta σ H fun vs H1 => ∃ a xs, vs = [.ref a] ∧ SqT K H1 a xs ∧ R (IteT K a) H1
theorem pi_enumT {X : Cx} {e : Expr} {ta : TA} {p pos tpos : Pos} {elts : List Expr} {kk : Nat} (hg : Gl X "enumerate") (hm : X.mg "enumerate" = none) (ha : PA X [e] ta) (hs : starEach [e] X.env = [(false, eval e X.env)] := by rfl) :
    PI X (.Tuple elts kk tpos) (.Call (.Name "enumerate" p) [e] [] pos) (iEnumT X.K ta) := by
  refine ⟨fun pins s σ H R I h => ?_⟩
  refine PyProof.Rows.Call_ (ld_blt I hg hm boot_enumerate (PyProof.Rows.callWith_type1 (thn (ha.run pos pins s σ H _ I h) fun us s1 ⟨vs, H1, I1, r1, q1⟩ => ?_) hs rfl))
  obtain ⟨a, xs, ex, hq, q⟩ := q1
  subst ex
  cases r1 with
  | cons r rr =>
    cases rr
    cases r
    obtain ⟨its, rv, p', hz⟩ := I1.tuple hq
    have hpT : s1.heap.IsTuple a its.toArray := p'
    refine enum_begins1 (begins_tuple a its.toArray) hpT fun h' he hit hsz hk => wpAny_pyIter_enum he ?_
    have I2 : Inv X pins σ H1 { s1 with heap := h' } := I1.kept (t' := s1.toks) hk
    refine ⟨s1.heap.objs.size + 1, [s1.heap.objs.size + 1, s1.heap.objs.size], _, _, H1, rfl, I2, turn_enumT a (s1.heap.objs.size + 1) s1.heap.objs.size, ⟨⟨.none, he⟩, ⟨_, hit, rfl, rfl⟩, Nat.succ_ne_self _⟩, fun b hb => ?_, q⟩
    have e' : b = s1.heap.objs.size + 1 ∨ b = s1.heap.objs.size := by simpa using hb
    have hle : s1.heap.objs.size ≤ b := by
      rcases e' with z | z
      · rw [z]; exact Nat.le_add_right _ _
      · rw [z]; exact Nat.le_refl _
    exact I1.fpOk hle (I1.hok.fresh hle)
theorem PI.or {X : Cx} {tg e : Expr} {i1 i2 : TI} (h1 : PI X tg e i1) (h2 : PI X tg e i2) : PI X tg e (fun σ H R => i1 σ H R ∨ i2 σ H R) :=
  ⟨fun pins s σ H R I h => h.elim (h1.run pins s σ H R I) (h2.run pins s σ H R I)⟩
section
variable {K : PySem.W.Frag} {ca : CaT} {W : WX} {te : TE} {a : E}
theorem walk_enumT {a : Addr} {vs : List V} : Walk (IteT K a) vs.length (fun H => SqT K H a vs) (fun i H v H' => ∃ T x, v = .ref T ∧ H T = none ∧ H' = upd H T (.tup [.int (i : Nat), x]) ∧ ∀ xs, SqT K H a xs → xs[i]? = some x) :=
  ⟨fun i _ hi q => ⟨vs, vs[i]'hi, q, by simp [hi]⟩, fun _ q => ⟨vs, q, Nat.le_refl _⟩, fun _ _ _ _ _ _ y => y⟩
def wkET (A : Hs) (x : D) : Option Wk := (wkT A x).map fun k => ⟨enumL k.ds, k.gd⟩
theorem sw_enumT (h : SimE K ca W te a) : SimI K ca W (iEnumT K (tCons te tNil)) (wOf wkET a) := fun F m A σ H env Q R S p => wOf_bind h R S p fun F1 m1 A1 H1 x d kk R1 r hk p1 => by
  have main : ∀ {aa : Addr} {vs : List V} {l : List D}, SqT K F1 aa vs → RepL K ca F1 m1 vs l → kk = ⟨enumL l, tt⟩ → x = .ref aa → ∃ a xs, [x] = [.ref a] ∧ SqT K H1 a xs ∧ Q (IteT K a) H1 := fun {aa vs l} s rs e ex => by
    subst e; subst ex
    refine ⟨aa, vs, rfl, R1.fh.t s, p1 _ F1 m1 H1 R1 Stp.refl ⟨fun H => SqT K H aa vs, _, by rw [show (Wk.mk (enumL l) tt).ds.length = vs.length from enumL_len.trans rs.length.symm]; exact walk_enumT, fun F2 m2 A2 H2 hg R2 g2 => R2.fh.t (g2.ff.t s), fun i' d' x' F2 m2 A2 H2 H3 e hg R2 g2 y => .inr (.inl ?_)⟩⟩
    obtain ⟨T, z, y1, y2, y3, y4⟩ := y
    obtain ⟨dx, q1, q2⟩ := enumL_get e
    obtain ⟨w, w1, w2⟩ := rs.get q1
    have := y4 _ (R2.fh.t (g2.ff.t s))
    rw [w1] at this; cases this
    exact ⟨T, _, _, q2, y1, y2, y3, .cons (.int _) (.cons (w2.mono g2.ff g2.mm) .nil)⟩
  cases r with
  | tup s rs => cases hk; exact main (.inl (.inl s)) rs rfl rfl
  | wt s rs => cases hk; exact main s rs rfl rfl
  | _ => cases hk
def wkEA (A : Hs) (x : D) : Option Wk := match x with
  | .tup _ => wkET A x
  | .wt _ => wkET A x
  | _ => wkE A x
def iEnumA (K : PySem.W.Frag) (ta : TA) : TI := fun σ H R => iEnum K ta σ H R ∨ iEnumT K ta σ H R
theorem sw_enumA (h : SimE K ca W te a) : SimI K ca W (iEnumA K (tCons te tNil)) (wOf wkEA a) := SimI.pick (sw_enum h) (sw_enumT h) (wOf_pick (f := wkEA) fun A x => by cases x <;> first | exact .inl rfl | exact .inr rfl)
theorem pi_enumA {X : Cx} {e : Expr} {ta : TA} {p pos tpos : Pos} {elts : List Expr} {kk : Nat} (hg : Gl X "enumerate") (hm : X.mg "enumerate" = none) (ha : PA X [e] ta) (hs : starEach [e] X.env = [(false, eval e X.env)] := by rfl) :
    PI X (.Tuple elts kk tpos) (.Call (.Name "enumerate" p) [e] [] pos) (iEnumA X.K ta) := PI.or (pi_enum hg hm ha hs) (pi_enumT hg hm ha hs)
theorem z2u {A : Hs} {i : Nat} : wkEA A (.ref i) = we_ A i A[i]? := z7x
theorem z29 {A : Hs} {l : List D} : wkEA A (.tup l) = some ⟨enumL l, tt⟩ := rfl
theorem z1y {A : Hs} {l : List D} : wkEA A (.scr l) = some ⟨enumL l, tt⟩ := rfl
end
end SM

/-! ## d.pop(k), d.pop(k, e) -/
namespace SM
open PySem L2
open DL (Ex ExK)
section
variable {K : PySem.W.Frag} {ca : CaT} {F F1 F2 H H1 H2 : Hp} {m m1 m2 : List Addr} {A A1 A2 : Hs} {σ : L2.St} {env : Sl} {W : WX} {Q : VK}
variable {to ti ta tb tc te tz : TE} {a b c e : E} {i : Nat} {d : D} {ts : TA} {as : As} {x y : V} {dx dy : D}
def oDPop (x y : D) (A : Hs) : RE D := match x with
  | .ref i => match A[i]? with
    | some (.dic false false l) => match keyK y, kget l y with
      | some _, some d => .ok d (A.set i (.dic false false (kdel l y)))
      | _, _ => .stuck
    | _ => .stuck
  | _ => .stuck
theorem dk_at {l : List (D × D)} {t : Nat} (R : Rl K ca F m A H) (rx : Rep K ca F m x (.ref t)) (hA : A[t]? = some (.dic false false l)) : ∃ a kvs, x = .ref a ∧ m[t]? = some a ∧ H a = some (.dK kvs) ∧ KvR K ca F m kD kvs l := by
  obtain ⟨a, e, ha, r⟩ := R.at hA rx
  obtain ⟨kvs, h1, h2⟩ := r
  exact ⟨a, kvs, e, ha, h1, h2⟩
theorem kV_of {kk : Key} (r : Rep K ca F m y (kD kk)) : y = kV kk := by
  cases kk with
  | inl i => cases r; rfl
  | inr x => cases r; rfl
def ePop1 (a b : E) : E := fun env A => (a env A).bind fun x A1 => if isDic A1 x then (b env A1).bind fun y A2 => oDPop x y A2 else if (seqL A1 x).isSome then ((aCons b aNil) env A1).bind fun ds A2 => oPopAt x ds A2 else .stuck
/-- with a way out -/
def oDPop2 (x y z : D) (A : Hs) : RE D := match x with
  | .ref i => match A[i]? with
    | some (.dic false false l) => match keyK y with
      | some _ => match kget l y with
        | some d => .ok d (A.set i (.dic false false (kdel l y)))
        | none => .ok z A
      | _ => .stuck
    | _ => .stuck
  | _ => .stuck
def eDPop2 (a b c : E) : E := fun env A => (a env A).bind fun x A1 => if isDic A1 x then (b env A1).bind fun y A2 => (c env A2).bind fun z A3 => oDPop2 x y z A3 else .stuck
end
section
variable {A : Hs} {env : Sl} {a b c : E} {i : Nat} {x y z d : D} {kv : List (D × D)} {l : List D} {fs : List (String × D)} {C : String} {t lk : Bool} {n : Nat}
def isd_ : Option O → Bool
  | some (.dic _ _ _) => true
  | _ => false
theorem z8l : isd_ (some (.dic t lk kv)) = true := rfl
theorem z8h : isd_ (some (.lst l)) = false := rfl
theorem z4n : isDic A (.ref i) = isd_ A[i]? := by
  unfold isDic dicAt
  rcases h : A[i]? with _ | u
  · simp only [h]; rfl
  · cases u <;> simp only [h] <;> rfl
theorem z10 : isDic A (.scr l) = false := rfl
theorem z6z : ePop1 a b env A = (a env A).bind fun x A1 => if isDic A1 x = true then (b env A1).bind fun y A2 => oDPop x y A2 else if (seqL A1 x).isSome = true then ((aCons b aNil) env A1).bind fun ds A2 => oPopAt x ds A2 else .stuck := rfl
theorem z4y : eDPop2 a b c env A = (a env A).bind fun x A1 => if isDic A1 x = true then (b env A1).bind fun y A2 => (c env A2).bind fun z A3 => oDPop2 x y z A3 else .stuck := rfl
def dp_ (A : Hs) (i : Nat) (y : D) (kv : List (D × D)) : Option D → RE D
  | some d => if (keyK y).isSome = true then .ok d (A.set i (.dic false false (kdel kv y))) else .stuck
  | none => .stuck
theorem zao : dp_ A i y kv (some d) = if (keyK y).isSome = true then .ok d (A.set i (.dic false false (kdel kv y))) else .stuck := rfl
def dpo_ (A : Hs) (i : Nat) (y : D) : Option O → RE D
  | some (.dic false false kv) => dp_ A i y kv (kget kv y)
  | _ => .stuck
theorem z97 : dpo_ A i y (some (.dic false false kv)) = dp_ A i y kv (kget kv y) := rfl
theorem z3u : oDPop (.ref i) y A = dpo_ A i y A[i]? := by
  unfold oDPop dpo_ dp_
  rcases h : A[i]? with _ | u
  · simp only [h]
  · cases u with
    | dic t lk kv => cases t <;> cases lk <;> simp only [h] <;> (cases keyK y <;> cases kget kv y <;> rfl)
    | _ => simp only [h]
theorem z5e {p : Int} : keyK (.int p) = some (.inl p) := rfl
theorem z63 {s : Str} : keyK (.str s) = some (.inr s) := rfl
theorem z4h {s : String} : keyK (dS s) = some (.inr (fS s)) := rfl
/-- y in a list's, tuple's items -/
def inl_ (A : Hs) (y : D) (l : List D) (neg : Bool) : RE D := match pyA A 40 y, allSome (l.map (pyA A 39)) with
  | some p, some ps => .ok (.bl (if neg then !(ps.any fun z => PyData.eqv z p) else ps.any fun z => PyData.eqv z p)) A
  | _, _ => .stuck
def in_ (A : Hs) (y : D) (neg : Bool) : Option O → RE D
  | some (.dic t _ kv) => if keyOk t y = true then .ok (.bl (if neg then !(kget kv y).isSome else (kget kv y).isSome)) A else .stuck
  | some (.lst l) => inl_ A y l neg
  | _ => .stuck
theorem zb3 {neg : Bool} : in_ A y neg (some (.dic t lk kv)) = if keyOk t y = true then .ok (.bl (if neg then !(kget kv y).isSome else (kget kv y).isSome)) A else .stuck := rfl
theorem zbi {neg : Bool} : in_ A y neg (some (.lst l)) = inl_ A y l neg := rfl
theorem inData_l (h : pyA A 40 x = (allSome (l.map (pyA A 39))).map PyData.list ∨ pyA A 40 x = (allSome (l.map (pyA A 39))).map PyData.tuple) : inData A y x = match pyA A 40 y, allSome (l.map (pyA A 39)) with
  | some p, some ps => some (ps.any fun z => PyData.eqv z p)
  | _, _ => none := by
  unfold inData
  rcases h with h | h <;> rw [h] <;> (cases pyA A 40 y <;> cases allSome (l.map (pyA A 39)) <;> rfl)
theorem z86 : oIn y (.ref i) A = in_ A y false A[i]? := by
  unfold oIn oB inA
  rcases h : A[i]? with _ | u
  · have : pyA A 40 (.ref i) = none := by rw [pyA]; simp only [h]
    simp only [dicAt, h, inData, this]; cases pyA A 40 y <;> rfl
  · cases u with
    | dic t lk kv => simp only [dicAt, h, inDic, zb3]; cases keyOk t y <;> simp [Option.map]
    | lst l =>
      have := inData_l (A := A) (x := .ref i) (y := y) (l := l) (.inl (py_lst h))
      simp only [dicAt, h, this, zbi, inl_]
      cases pyA A 40 y <;> cases allSome (l.map (pyA A 39)) <;> rfl
    | obj C f =>
      have : pyA A 40 (.ref i) = none := by rw [pyA]; simp only [h]
      simp only [dicAt, h, inData, this]; cases pyA A 40 y <;> rfl
theorem z2m : oNotIn y (.ref i) A = in_ A y true A[i]? := by
  unfold oNotIn oB inA
  rcases h : A[i]? with _ | u
  · have : pyA A 40 (.ref i) = none := by rw [pyA]; simp only [h]
    simp only [dicAt, h, inData, this]; cases pyA A 40 y <;> rfl
  · cases u with
    | dic t lk kv => simp only [dicAt, h, inDic, zb3]; cases keyOk t y <;> simp [Option.map]
    | lst l =>
      have := inData_l (A := A) (x := .ref i) (y := y) (l := l) (.inl (py_lst h))
      simp only [dicAt, h, this, zbi, inl_]
      cases pyA A 40 y <;> cases allSome (l.map (pyA A 39)) <;> rfl
    | obj C f =>
      have : pyA A 40 (.ref i) = none := by rw [pyA]; simp only [h]
      simp only [dicAt, h, inData, this]; cases pyA A 40 y <;> rfl
theorem z8e : oIn y (.tup l) A = inl_ A y l false := by
  have := inData_l (A := A) (x := .tup l) (y := y) (l := l) (.inr (by rw [pyA]))
  unfold oIn oB inA
  simp only [dicAt, this, inl_]
  cases pyA A 40 y <;> cases allSome (l.map (pyA A 39)) <;> rfl
theorem z1s : oNotIn y (.tup l) A = inl_ A y l true := by
  have := inData_l (A := A) (x := .tup l) (y := y) (l := l) (.inr (by rw [pyA]))
  unfold oNotIn oB inA
  simp only [dicAt, this, inl_]
  cases pyA A 40 y <;> cases allSome (l.map (pyA A 39)) <;> rfl
theorem py_ints {ns : List Int} : allSome ((ns.map D.int).map (pyA A n)) = some (ns.map PyData.int) := by
  induction ns with
  | nil => rfl
  | cons b r ih => rw [List.map_cons, List.map_cons, show pyA A n (.int b) = some (.int b) by cases n <;> simp [pyA], allSome, ih]; rfl
theorem z2v {ns : List Int} {p : Int} {neg : Bool} : inl_ A (.int p) (ns.map D.int) neg = .ok (.bl (if neg then !decide (p ∈ ns) else decide (p ∈ ns))) A := by
  unfold inl_
  rw [py_ints, show pyA A 40 (.int p) = some (.int p) by simp [pyA]]
  have : ((ns.map PyData.int).any fun z => PyData.eqv z (.int p)) = decide (p ∈ ns) := by
    rw [List.any_map]
    induction ns with
    | nil => rfl
    | cons b r ih =>
      rw [List.any_cons, ih]
      simp [PyData.eqv]
      congr 1
      rw [Bool.eq_iff_iff, beq_iff_eq, decide_eq_true_eq]; exact eq_comm
  simp only [this]
end
end SM

/-! ## more equations -/
namespace SM
open PySem L2
section
variable {A A1 A2 : Hs} {env : Sl} {a b c : E} {x y z d : D} {l : List D} {os xs : List String} {tb : List (String × String × Bool)} {s : String}
theorem z0s : oIsi os xs tb (dS s) (.ty "str") A = .ok (.bl true) A := rfl
theorem z1d : oIsi os xs tb (dS s) (.ty "int") A = .ok (.bl false) A := rfl
theorem z0l : oIsi os xs tb (dS s) (.ty "bool") A = .ok (.bl false) A := rfl
theorem z07 : oIsi os xs tb (dS s) (.ty "tuple") A = .ok (.bl false) A := rfl
/-- a comprehension by what stays true of what it has made -/
theorem lc_run {g : G} {t : Tt} {gd : Hs → Prop} (P : Nat → List D → Hs → Prop) {ds : List D} (h0 : P 0 [] A) (hl : ds.length < 16000000) (hg : ∀ i l A, P i l A → gd A)
    (hs : ∀ i d, ds[i]? = some d → ∀ l A, P i l A → Got (g d env A) fun e1 => Rk (t e1 A) (Tst (fun A1 => Rk (a e1 A1) fun v A2 => P (i + 1) (l ++ [v]) A2) fun A1 => P (i + 1) l A1)) : Rk (lcL g t a gd env ds [] A) (P ds.length) := by
  have main : ∀ (n i : Nat) (acc : List D) (A : Hs), n + i = ds.length → P i acc A → acc.length ≤ i → Rk (lcL g t a gd env (ds.drop i) acc A) (P ds.length) := by
    intro n
    induction n with
    | zero =>
      intro i acc A hi h0 hle
      have : i = ds.length := by omega
      subst this
      rw [List.drop_length, lcL, if_pos (hg _ _ _ h0)]; exact h0
    | succ n ih =>
      intro i acc A hi h0 hle
      have hlt : i < ds.length := by omega
      have h2 := hs i ds[i] (by simp [hlt]) acc A h0
      rw [List.drop_eq_getElem_cons hlt]
      cases q0 : g ds[i] env A with
      | none => rw [q0] at h2; exact h2.elim
      | some e1 =>
        rw [q0, z7o] at h2
        obtain ⟨c, A1, e, h3⟩ := h2.ex
        rw [lcL, if_pos (hg _ _ _ h0), q0]
        simp only [e]
        cases c with
        | false => exact ih (i + 1) acc A1 (by omega) h3 (by omega)
        | true =>
          obtain ⟨v, A2, e2, h4⟩ := Rk.ex h3
          simp only [e2]
          rw [if_pos (small_line' (by omega))]
          exact ih (i + 1) _ A2 (by omega) h4 (by rw [List.length_append, List.length_singleton]; omega)
  have := main ds.length 0 [] A rfl h0 (Nat.le_refl _)
  rwa [List.drop_zero] at this
def kset_ (y v : D) (kv : List (D × D)) : List (D × D) := kv.map fun p => if keq p.1 y then (p.1, v) else p
theorem z2j {v : D} : kset_ y v [] = [] := rfl
theorem z1c {v : D} {kv : List (D × D)} : kset_ y v ((x, z) :: kv) = (if keq x y = true then (x, v) else (x, z)) :: kset_ y v kv := rfl
theorem z1v : khas [] y = false := rfl
theorem z12 {kv : List (D × D)} : khas ((x, z) :: kv) y = if keq x y = true then true else khas kv y := by
  unfold khas; rw [List.any_cons]; cases keq x y <;> rfl
theorem z2q {v : D} : kput [] y v = [(y, v)] := rfl
theorem z1f {v : D} {kv : List (D × D)} : kput ((x, z) :: kv) y v = if khas ((x, z) :: kv) y = true then kset_ y v ((x, z) :: kv) else ((x, z) :: kv) ++ [(y, v)] := rfl
theorem z8w : dNil env A = .ok [] A := rfl
theorem z5j {k v : E} {r : Dps} : dCons k v r env A = (k env A).bind fun x A1 => (v env A1).bind fun y A2 => (r env A2).bind fun ps A3 => .ok ((x, y) :: ps) A3 := rfl
def dsp_ (A : Hs) (ps : List (D × D)) : RE D := if (ps.all fun p => (keyK p.1).isSome) && decide (ps.length ≤ 15) then alloc A (.dic false false (kmerge [] ps)) else .stuck
theorem z6n {d : Dps} : eDisp d env A = (d env A).bind fun ps A1 => dsp_ A1 ps := rfl
theorem z5p {ps : List (D × D)} (h : (ps.all fun p => (keyK p.1).isSome) = true) (hl : ps.length ≤ 15) : dsp_ A ps = .ok (.ref A.length) (A ++ [.dic false false (kmerge [] ps)]) := by
  unfold dsp_; rw [h, decide_eq_true hl]; rfl
theorem z0h {l : List (D × D)} : kmerge l [] = l := by rw [kmerge]
theorem z00 {l r : List (D × D)} {v : D} : kmerge l ((x, v) :: r) = kmerge (kput l x v) r := by rw [kmerge]
theorem lc_rk {r : RE (List D)} {P : D → Hs → Prop} (h : Rk r fun l A => P (.ref A.length) (A ++ [.lst l])) : Rk (lc_ r) P := by
  obtain ⟨l, A1, e, p⟩ := h.ex
  rw [e]; exact p
end
end SM

/-! ## min of four -/
namespace PySem
open Sem (wp)
section
variable {prog : Program} {w : World} {A : Around} {E : Value → Shared → Prop} {s : Shared}
end
end PySem
namespace SM
open PySem L2
section
variable {K : PySem.W.Frag} {ca : CaT}
def c4 (f : D → D → D → D → Hs → RE D) : List D → Hs → RE D := fun ds A => match ds with
  | [d, e, g, h] => f d e g h A
  | _ => .stuck
def oMin4 (x y z w : D) (A : Hs) : RE D := match x, y, z, w with
  | .int i, .int j, .int k, .int l => .ok (.int (min (min (min i j) k) l)) A
  | _, _, _, _ => .stuck
end
theorem c4_ {A : Hs} {d d1 d2 d3 : D} {f : D → D → D → D → Hs → RE D} : c4 f [d, d1, d2, d3] A = f d d1 d2 d3 A := rfl
theorem z4l {A : Hs} {p q r s : Int} : oMin4 (.int p) (.int q) (.int r) (.int s) A = .ok (.int (min (min (min p q) r) s)) A := rfl
def ad_ (A : Hs) : Option (List D) → Option (List D) → RE D
  | some l, some k => if l.length + k.length ≤ sizeLine then .ok (.ref A.length) (A ++ [.lst (l ++ k)]) else .stuck
  | _, _ => .stuck
theorem zbd {A : Hs} {l k : List D} (h : l.length + k.length ≤ 16000000) : ad_ A (some l) (some k) = .ok (.ref A.length) (A ++ [.lst (l ++ k)]) := by
  show (if l.length + k.length ≤ sizeLine then _ else _) = _
  rw [if_pos (z0f h)]
theorem z6b {A : Hs} {i j : Nat} : oAdd (.ref i) (.ref j) A = ad_ A (sq_ A[i]?) (sq_ A[j]?) := by
  unfold oAdd ad_ sq_
  simp only
  rcases A[i]? with _ | u
  · rfl
  · cases u with
    | lst l =>
      rcases A[j]? with _ | v
      · rfl
      · cases v <;> rfl
    | _ => rfl
/-- a statement that goes on, by what holds of it -/
def Nx (r : RS) (P : Sl → Hs → Prop) : Prop := match r with
  | .nx e A => P e A
  | _ => False
theorem z7k {e : Sl} {A : Hs} {P : Sl → Hs → Prop} : Nx (.nx e A) P = P e A := rfl
theorem Nx.call {r : RS} {P : Sl → Hs → Prop} (Q : RS → Prop) (h : Nx r P) (k : ∀ e A, P e A → Q (.nx e A)) : Q r := by
  cases r with
  | nx e A => exact k e A h
  | _ => exact h.elim
theorem rep_nS {n : Nat} : List.replicate (n + 1) (none : Option D) = none :: List.replicate n none := rfl
theorem rep_n0 : List.replicate 0 (none : Option D) = [] := rfl
end SM

/-! ## list.index of flat items -/
namespace SM
open PySem L2
open DL (Ex ExK)
def fV : D → Option V
  | .non => some .non
  | .bl b => some (.bl b)
  | .int i => some (.int i)
  | .str s => some (.str s)
  | _ => none
def fVs : List D → Option (List V)
  | [] => some []
  | d :: r => match fV d, fVs r with
    | some v, some vs => some (v :: vs)
    | _, _ => none
section
variable {K : PySem.W.Frag} {ca : CaT} {F : Hp} {m : List Addr}
end
/-- the first place of y -/
def idxV (y : V) : List V → Option Nat
  | [] => none
  | z :: r => if eqV z y = true then some 0 else (idxV y r).map (· + 1)
def oIndex (x : D) (ds : List D) (A : Hs) : RE D := match (seqL A x).bind fVs, ds with
  | some ws, [d] => match fV d with
    | some y => match idxV y ws with
      | some j => .ok (.int (j : Nat)) A
      | none => .stuck
    | none => .stuck
  | _, _ => .stuck
section
variable {K : PySem.W.Frag} {ca : CaT}
end
/-! equations -/
section
variable {A : Hs} {x y d : D} {i : Nat} {l : List D}
def ix3 (A : Hs) (y : V) : Option (List V) → RE D
  | some ws => at_ A ((idxV y ws).map fun j => .int (j : Nat))
  | none => .stuck
theorem z2b {b : Bool} : oIndex (.ref i) [.bl b] A = ix3 A (.bl b) ((sq_ A[i]?).bind fVs) := by
  unfold oIndex ix3; rw [z5c]
  cases (sq_ A[i]?).bind fVs with
  | none => rfl
  | some ws => simp only [fV]; cases idxV (V.bl b) ws <;> rfl
theorem z25 {n : Int} : oIndex (.ref i) [.int n] A = ix3 A (.int n) ((sq_ A[i]?).bind fVs) := by
  unfold oIndex ix3; rw [z5c]
  cases (sq_ A[i]?).bind fVs with
  | none => rfl
  | some ws => simp only [fV]; cases idxV (V.int n) ws <;> rfl
theorem z8s {y : V} {ws : List V} : ix3 A y (some ws) = at_ A ((idxV y ws).map fun j => .int (j : Nat)) := rfl
theorem z43 : fVs [] = some [] := rfl
theorem z7y {b : Bool} {r : List D} : fVs (.bl b :: r) = (fVs r).map (V.bl b :: ·) := by
  conv => lhs; unfold fVs
  simp only [fV]; cases fVs r <;> rfl
theorem z7r {b : Int} {r : List D} : fVs (.int b :: r) = (fVs r).map (V.int b :: ·) := by
  conv => lhs; unfold fVs
  simp only [fV]; cases fVs r <;> rfl
theorem z21 {y : V} : idxV y [] = none := rfl
theorem z69 {b c : Bool} {r : List V} : idxV (.bl c) (.bl b :: r) = if b = c then some 0 else (idxV (.bl c) r).map (· + 1) := by
  rw [idxV]; cases b <;> cases c <;> rfl
end
/-! try, count -/
section
variable {A A1 : Hs} {env e1 : Sl} {d : D} {i j : Nat} {C : String} {cts : List String} {b s : S}
def tryK_ (cts : List String) (i j : Nat) (r : RS) : RS := match r with
  | .exc C env1 A1 => if C ∈ cts then .nx (((env1.set i (some (.exc C))).set j (some (.exc C))).set i none) A1 else .stuck
  | r => r
theorem z79 : sTryK cts i j b env A = tryK_ cts i j (b env A) := rfl
theorem z4p : tryK_ cts i j (.nx env A) = .nx env A := rfl
theorem z3p : tryK_ cts i j (.rt d A) = .rt d A := rfl
theorem z2o (h : C ∈ cts) : tryK_ cts i j (.exc C env A) = .nx (((env.set i (some (.exc C))).set j (some (.exc C))).set i none) A := if_pos h
def tryO_ (cts : List String) (s : S) (r : RS) : RS := match r with
  | .exc C env1 A1 => if C ∈ cts then s env1 A1 else .stuck
  | r => r
theorem z52 : sTryO cts b s env A = tryO_ cts s (b env A) := rfl
theorem z4c : tryO_ cts s (.nx env A) = .nx env A := rfl
theorem z4f : tryO_ cts s (.rt d A) = .rt d A := rfl
theorem z1x (h : C ∈ cts) : tryO_ cts s (.exc C env A) = s env A := if_pos h
def cn_ (A : Hs) (c : Bool) : Option (List Bool) → RE D
  | some bs => .ok (.int (bs.count c : Nat)) A
  | none => .stuck
theorem z2a {c : Bool} : oCount (.ref i) [.bl c] A = cn_ A c ((sq_ A[i]?).bind boolsOf) := by
  unfold oCount; rw [z5c]; cases (sq_ A[i]?).bind boolsOf <;> rfl
theorem za3 {c : Bool} {bs : List Bool} : cn_ A c (some bs) = .ok (.int (bs.count c : Nat)) A := rfl
theorem z60 : boolsOf [] = some [] := rfl
theorem z4m {c : Bool} {r : List D} : boolsOf (.bl c :: r) = (boolsOf r).map (c :: ·) := rfl
theorem z3q {c : Bool} : List.count c [] = 0 := rfl
theorem z1r {c b : Bool} {r : List Bool} : List.count c (b :: r) = List.count c r + (if b = c then 1 else 0) := by
  rw [List.count_cons]; cases b <;> cases c <;> rfl
end
/-! a, b, c = x, y, z -/
def sPar3 (i j l : Nat) (as : As) : S := fun env A => match as env A with
  | .ok [x, y, z] A1 => .nx (((env.set i (some x)).set j (some y)).set l (some z)) A1
  | .exc C A1 => .exc C env A1
  | _ => .stuck
section
variable {K : PySem.W.Frag} {ca : CaT} {W : WX} {i j l : Nat} {as : As} {ts : TA} {A : Hs} {env : Sl} {x y z : D}
def par3_ (env : Sl) (i j l : Nat) (r : RE (List D)) : RS := match r with
  | .ok [x, y, z] A1 => .nx (((env.set i (some x)).set j (some y)).set l (some z)) A1
  | .exc C A1 => .exc C env A1
  | _ => .stuck
theorem z5x : sPar3 i j l as env A = par3_ env i j l (as env A) := rfl
theorem z46 : par3_ env i j l (.ok [x, y, z] A) = .nx (((env.set i (some x)).set j (some y)).set l (some z)) A := rfl
end
/-- o.f where a block stands -/
theorem pe_fldK {X : Cx} {K : PySem.W.Frag} {e : Expr} {f : Str} {pos : Pos} {ta : TE} (hK : X.K = K) (he : PE X e ta) (hb : attributeBase e f X.env (eval e X.env) = eval e X.env) : PE X (.Attribute e f pos) (tFld K ta f) := by
  subst hK; exact pe_fld he hb
/-! tuple(range(n)) -/
def eTupRg (a : E) : E := fun env A => (a env A).bind fun x A1 => match x with
  | .int n => if 0 ≤ n ∧ n ≤ 16777216 then .ok (.tup (rgL 0 1 n.toNat)) A1 else .stuck
  | _ => .stuck
section
variable {K : PySem.W.Frag} {ca : CaT} {W : WX} {te : TE} {a : E} {A : Hs} {n : Int}
def tupRg_ (A : Hs) : D → RE D
  | .int n => if 0 ≤ n ∧ n ≤ 16777216 then .ok (.tup (rgL 0 1 n.toNat)) A else .stuck
  | _ => .stuck
theorem z33 {env : Sl} : eTupRg a env A = (a env A).bind fun x A1 => tupRg_ A1 x := by
  unfold eTupRg tupRg_; rfl
theorem z39 (h : 0 ≤ n ∧ n ≤ 16777216) : tupRg_ A (.int n) = .ok (.tup (rgL 0 1 n.toNat)) A := if_pos h
end
/-- a def that has a second name -/
theorem Dx.of2 {P : Program} {w : World} {K : PySem.W.Frag} {mg : Str → Option Value} {base : Heap} {k : Nat} {x x0 qn : Str} {st : Stmt} {fa : Addr} {fd : FuncData} {ps : List Str} {sp : Sp} (h : FnOk P w K mg base (L2.CX P w) k fa fd ps sp) (F : Fun K x0 qn st fa fd) (hm : mg x = some (.ref fa)) (b : Binds K fd ps []) : DL.Dx P w K mg base k x sp := ⟨fa, fd, ps, h, hm, F.kp, b⟩
end SM

/-! ## defs with defaults -/
namespace L2
open PySem PySem.Spec PyProof.Rows
section
variable {X : Cx} {CX : CXT} {k : Nat} {f C : Addr} {fd : FuncData} {ps : List Str} {sp : Sp} {E : St → XK} {x : Str} {p pos : Pos} {e : Expr} {es : List Expr} {t : TA} {ds : List Value} {dvs : List V}
end
end L2
namespace DL
open PySem L2
/-- a class whose __init__ is called with its defaults dvs -/
structure MxD (P : Program) (w : World) (K : PySem.W.Frag) (mg : Str → Option Value) (base : Heap) (k : Nat) (x : Str) (C : Addr) (sp : Sp) (dvs : List V) : Prop where
  ex : ∃ (f : Addr) (fd : FuncData) (ps : List Str) (ds : List Value), Mk K C f ∧ FnOk P w K mg base (L2.CX P w) k f fd ps sp ∧ mg x = some (.ref C) ∧ Binds K fd ps ds ∧ Vals dvs ds
theorem MxD.of {P : Program} {w : World} {K : PySem.W.Frag} {mg : Str → Option Value} {base : Heap} {k : Nat} {x : Str} {C fa : Addr} {fd : FuncData} {ps : List Str} {sp : Sp} {dvs : List V} (M : Mk K C fa) (h : FnOk P w K mg base (L2.CX P w) k fa fd ps sp) (hm : mg x = some (.ref C)) (b : ∃ ds, Vals dvs ds ∧ Binds K fd ps ds) : MxD P w K mg base k x C sp dvs := by
  obtain ⟨ds, v, b⟩ := b
  exact ⟨fa, fd, ps, ds, M, h, hm, b, v⟩
theorem MxD.full {P : Program} {w : World} {K : PySem.W.Frag} {mg : Str → Option Value} {base : Heap} {k : Nat} {x : Str} {C : Addr} {sp : Sp} (h : MxD P w K mg base k x C sp []) : Mx P w K mg base k x C sp := by
  obtain ⟨fa, fd, ps, ds, M, h, hm, b, v⟩ := h.ex
  cases v
  exact ⟨fa, fd, ps, M, h, hm, b⟩
section
variable {X : Cx} {W : WX} {k j : Nat} {x : Str} {C : Addr} {sp : Sp} {p pos : Pos} {e : Expr} {es : List Expr} {t : TA} {dvs : List V}
end
end DL
namespace SM
open PySem L2
open DL (Ex ExK)
section
variable {K : PySem.W.Frag} {ca : CaT} {W : WX} {as : As} {ts : TA} {C : String} {f : Fn} {A : Hs} {env : Sl} {l : List D}
def eMakeD (C : String) (f : Fn) (dd : List D) (as : As) : E := fun env A => (as env A).bind fun ds A1 => make C f (ds ++ dd) A1
def eMakeD0 (C : String) (f : Fn) (dd : List D) (as : As) : E := fun env A => (as env A).bind fun ds A1 => (make C f (ds ++ dd) A1).noX
theorem z3l {dd : List D} : eMakeD C f dd as env A = (as env A).bind fun ds A1 => make C f (ds ++ dd) A1 := rfl
theorem z2e {dd : List D} : eMakeD0 C f dd as env A = (as env A).bind fun ds A1 => (make C f (ds ++ dd) A1).noX := rfl
end
section
variable {P : Program} {w : World} {K : PySem.W.Frag} {mg : Str → Option Value} {base : Heap} {ca : CaT} {x qn : Str} {st : Stmt} {fa : Addr} {fd : FuncData} {N ps : List Str} {k : Nat}
end
end SM

/-! ## t[::e] of a tuple, e = 1 or -1 -/
namespace SM
open PySem L2 PySem.Spec PyProof.Rows
section
variable {prog : Program} {w : World} {A : Around} {E : Value → Shared → Prop} {s : Shared}
end
section
open DL (Ex ExK)
variable {K : PySem.W.Frag} {ca : CaT} {W : WX} {ta tb : TE} {a b : E}
def oStT (x y : D) (A : Hs) : RE D := match seqT x with
  | some l => match y with
    | .int i => if i = 1 then .ok x A else if i = -1 then .ok (.tup l.reverse) A else .stuck
    | _ => .stuck
  | _ => .stuck
theorem z78 {l : List D} {A : Hs} : oStT (.tup l) (.int 1) A = .ok (.tup l) A := rfl
theorem z6e {l : List D} {A : Hs} : oStT (.tup l) (.int (-1)) A = .ok (.tup l.reverse) A := rfl
end
end SM

/-! ## text * 0, text * 1 -/
namespace L2
open PySem PySem.Spec PyProof.Rows
end L2
namespace SM
open PySem L2
open DL (Ex ExK)
section
variable {K : PySem.W.Frag} {ca : CaT}
def oMulS (x y : D) (A : Hs) : RE D := match x, y with
  | .str s, .int i => if i = 1 then .ok (.str s) A else if i = 0 then .ok (.str Str.empty) A else .stuck
  | _, _ => .stuck
end
theorem z3b {A : Hs} {s : String} : oMulS (dS s) (.int 1) A = .ok (dS s) A := rfl
theorem z4r {A : Hs} {s : String} : oMulS (dS s) (.int 0) A = .ok (dS "") A := rfl
section
variable {A : Hs} {env : Sl} {o a e : E} {i : Nat} {x y z d : D} {kv : List (D × D)} {t lk : Bool}
theorem z75 : eGet2 o a e env A = (o env A).bind fun x A1 => if isDic A1 x = true then (a env A1).bind fun y A2 => (e env A2).bind fun z A3 => ofO A3 (getD A3 x y z) else .stuck := rfl
def gD_ (y z : D) : Option O → Option D
  | some (.dic t _ kv) => if keyOk t y = true then some ((kget kv y).getD z) else none
  | _ => none
theorem z6g : getD A (.ref i) y z = gD_ y z A[i]? := by
  unfold getD gD_ dicAt
  rcases h : A[i]? with _ | u
  · simp only [h]
  · cases u <;> simp only [h]
theorem zb6 : gD_ y z (some (.dic t lk kv)) = if keyOk t y = true then some ((kget kv y).getD z) else none := rfl
theorem z8f {α : Type} {d : α} : ofO A (some d) = .ok d A := rfl
end
def oL_ (r : RE D) (x : D) (A : Hs) : Option (List D) → RE D
  | some l => if l.isEmpty = true then r else .ok x A
  | none => .stuck
theorem z9h {A : Hs} {env : Sl} {a b : E} : eOrL a b env A = (a env A).bind fun x A1 => oL_ (b env A1) x A1 (seqL A1 x) := by
  unfold eOrL
  cases a env A with
  | ok x A1 =>
    simp only [RE.bind]
    cases seqL A1 x <;> rfl
  | exc _ _ => rfl
  | stuck => rfl
theorem zan {r : RE D} {x : D} {A : Hs} {l : List D} : oL_ r x A (some l) = if l.isEmpty = true then r else .ok x A := rfl
/-! len(set(xs)) of ints -/
def eLenSet (a : E) : E := fun env A => (a env A).bind fun x A1 => match (seqL A1 x).bind intsOf with
  | some ns => if ns.length ≤ 4000 then .ok (.int (L2.unlike ns : Nat)) A1 else .stuck
  | none => .stuck
def lnS_ (A : Hs) : Option (List Int) → RE D
  | some ns => if ns.length ≤ 4000 then .ok (.int (L2.unlike ns : Nat)) A else .stuck
  | none => .stuck
theorem z28 {a : E} {env : Sl} {A : Hs} : eLenSet a env A = (a env A).bind fun x A1 => lnS_ A1 ((seqL A1 x).bind intsOf) := by
  unfold eLenSet lnS_; rfl
theorem z9g {A : Hs} {ns : List Int} (h : ns.length ≤ 4000) : lnS_ A (some ns) = .ok (.int (L2.unlike ns : Nat)) A := if_pos h
/-- a def that is called by no run -/
theorem Dx.never {P : Program} {w : World} {K : PySem.W.Frag} {mg : Str → Option Value} {base : Heap} {ca : CaT} {k : Nat} {x x0 qn : Str} {st : Stmt} {fa : Addr} {fd : FuncData} {ps : List Str} (F : Fun K x0 qn st fa fd) (hm : mg x = some (.ref fa)) (b : Binds K fd ps []) : DL.Dx P w K mg base k x (SpF K ca fun _ _ => .stuck) := by
  refine ⟨fa, fd, ps, ⟨fun vs H Q E h => ?_, fun A outer s H args us vs Q E _ _ _ _ h => ?_⟩, hm, F.kp, b⟩
  · obtain ⟨_, _, _, _, _, _, p⟩ := h; exact p.elim
  · obtain ⟨_, _, _, _, _, _, p⟩ := h; exact p.elim
end SM

/-! ## z.join(xs).replace(y, w), int(text) -/
namespace DL
open PySem L2 PySem.Spec PyProof.Rows
section
variable {X : Cx} {e : Expr} {te : TE} {x y z : Str} {j k i : Nat} {c c0 c1 ap1 p1 apos pos : Pos}
end
def rIntT : List V → Hp → VK → Prop := fun xs H Q => rInt1 xs H Q ∨ ∃ a n, xs = [.str a] ∧ PySem.intText? a = some n ∧ a.length ≤ 640 ∧ Q (.int n) H
def rStrI : List V → Hp → VK → Prop := fun xs H Q => ∃ i, xs = [V.int i] ∧ i.natAbs.log2 < 1920 ∧ Q (.str (toString i)) H
end DL
namespace SM
open PySem L2
open DL (rJoin rIntT rStrI)
section
variable {K : PySem.W.Frag} {ca : CaT} {F H H1 : Hp} {m : List Addr} {A A1 : Hs} {σ : L2.St} {env : Sl} {W : WX} {Q : VK}
variable {to : TE} {o : E}
def rpl (y z : Str) (A : Hs) : D → RE D
  | .str x => if x.length + (x.length + 1) * z.length ≤ 16777216 then .ok (.str (Txt.replace x y z)) A else .stuck
  | _ => .stuck
def eRepl (y z : Str) (o : E) : E := fun env A => (o env A).bind fun x A1 => rpl y z A1 x
def oIntT (x : D) (A : Hs) : RE D := match x with
  | .int i => .ok (.int i) A
  | .bl b => .ok (.int (if b then 1 else 0)) A
  | .str a => if a.length ≤ 640 then match PySem.intText? a with
    | some n => .ok (.int n) A
    | none => .stuck
    else .stuck
  | _ => .stuck
/-- not by rfl alone: else the kernel may unfold the whole def that is called -/
theorem z9c {α β : Type} {a : α} {A : Hs} {f : α → Hs → RE β} : (RE.ok a A).bind f = f a A := id rfl
theorem zac {e : Sl} {A : Hs} {f : S} : seqR (.nx e A) f = f e A := id rfl
theorem z8r {a b : S} : sSeq a b env A = seqR (a env A) b := id rfl
theorem z6k {y z : Str} : eRepl y z o env A = (o env A).bind fun x A1 => rpl y z A1 x := rfl
theorem z3n {p : Int} : oIntT (.int p) A = .ok (.int p) A := rfl
theorem z34 {b : Bool} : oIntT (.bl b) A = .ok (.int (if b then 1 else 0)) A := rfl
end
/-- a module's own tuple of ints -/
def KTpl (K : PySem.W.Frag) (a : Addr) (ns : List Int) : Prop := ∃ (o : Obj) (its : Array Value) (n : Nat), K.lookup a = some o ∧ o.cls = .type "tuple" ∧ o.data = .seq its n ∧ its.size ≤ sizeLine ∧ Vals (ns.map V.int) its.toList
theorem repL_ints {K : PySem.W.Frag} {ca : CaT} {F : Hp} {m : List Addr} : ∀ ns : List Int, RepL K ca F m (ns.map V.int) (ns.map D.int)
  | [] => .nil
  | n :: ns => .cons (.int n) (repL_ints ns)
theorem KTpl.rep {K : PySem.W.Frag} {ca : CaT} {a : Addr} {ns : List Int} (h : KTpl K a ns) (F : Hp) (m : List Addr) : Rep K ca F m (.ref a) (.wt (ns.map D.int)) := .wt (.inr h) (repL_ints ns)
end SM

/-! ## dicts walked: locked while a loop runs; their keys, values, pairs; dict(x); sorted(ints) -/
namespace SM
open PySem L2
open DL (Ex ExK)
section
variable {K : PySem.W.Frag} {ca : CaT} {F F1 F2 H H1 H2 : Hp} {m m1 m2 : List Addr} {A A1 A2 : Hs} {σ : L2.St} {env : Sl} {W : WX} {i : Nat} {u : HO} {t : Bool} {l : List (D × D)}
theorem Rl.put1 {a : Addr} {o' : O} (R : Rl K ca F m A H) (ha : m[i]? = some a) (r : ORep K ca F m (upd H a u) a o') : Rl K ca F m (A.set i o') (upd H a u) := by
  have hm : a ∈ m := List.mem_of_getElem? ha
  have fa := R.fr a hm
  obtain ⟨w0, e0, o0⟩ := R.ordy ha
  refine ⟨R.fh.right fa, by simp [R.len], R.nd, R.fr, fun j o b h1 h2 => ?_, tabs_upd R.tb e0 o0, R.ft⟩
  by_cases q : i = j
  · subst q
    rw [ha] at h2; cases h2
    rw [List.getElem?_set] at h1
    split at h1
    · split at h1
      · cases h1; exact r
      · cases h1
    · rename_i z; exact absurd rfl z
  · rw [List.getElem?_set_ne q] at h1
    have nb : b ≠ a := fun z => q (by
      subst z
      exact (List.getElem?_inj (List.getElem?_eq_some_iff.mp ha).1 R.nd).mp (ha.trans h2.symm))
    exact (R.ob j o b h1 h2).mono (Ex.refl _) (Pre.refl _) fun w hw => by rw [upd_ne nb]; exact hw
/-- a dict's object is there -/
theorem Rl.dic (R : Rl K ca F m A H) (h : A[i]? = some (.dic t false l)) : ∃ a u, m[i]? = some a ∧ H a = some u ∧ Mut (some u) ∧ (∀ od w, u ≠ .frz od w) ∧ ∀ od, ORep K ca F m (upd H a (.frz od u)) a (.dic t true l) := by
  have l0 : i < m.length := by rw [R.len]; exact (List.getElem?_eq_some_iff.mp h).1
  have ha : m[i]? = some m[i] := List.getElem?_eq_getElem l0
  have r := R.ob i _ m[i] h ha
  cases t with
  | false =>
    obtain ⟨kvs, h1, h2⟩ := r
    exact ⟨m[i], .dK kvs, ha, h1, trivial, fun od w z => (by cases z), fun od => ⟨kvs, ⟨od, upd_same⟩, h2⟩⟩
  | true =>
    obtain ⟨kvs, h1, h2⟩ := r
    exact ⟨m[i], .dT kvs, ha, h1, trivial, fun od w z => (by cases z), fun od => ⟨kvs, ⟨od, upd_same⟩, h2⟩⟩
theorem Rl.lock (R : Rl K ca F m A H) (h : A[i]? = some (.dic t false l)) : ∃ a u, H a = some u ∧ Mut (some u) ∧ ∀ od, (Rl K ca F m (A.set i (.dic t true l)) (upd H a (.frz od u)) ∧ Stp F m H F m (upd H a (.frz od u))) ∧
    ∀ F' m' A' H' l' t', Rl K ca F' m' A' H' → Stp F m (upd H a (.frz od u)) F' m' H' → A'[i]? = some (.dic t' true l') → H' a = some (.frz od u) ∧ Rl K ca F' m' (A'.set i (.dic t' false l')) (upd H' a u) ∧ Stp F m H F' m' (upd H' a u) := by
  obtain ⟨a, u, ha, hu, mu, nz, hr⟩ := R.dic h
  have hm : a ∈ m := List.mem_of_getElem? ha
  refine ⟨a, u, hu, mu, fun od => ⟨R.put ha (fun od' w z => by rw [hu] at z; cases z; exact nz _ _ rfl) (hr od), fun F' m' A' H' l' t' R' g' hA' => ?_⟩⟩
  have hfz : H' a = some (.frz od u) := g'.fz a od u upd_same
  have ha' : m'[i]? = some a := g'.mm.get ha
  have r := R'.ob i _ a hA' ha'
  have new : ORep K ca F' m' (upd H' a u) a (.dic t' false l') := by
    cases t' with
    | false =>
      obtain ⟨kvs, ⟨od', x⟩, h2⟩ := r
      rw [hfz] at x
      cases x
      exact ⟨kvs, upd_same, h2⟩
    | true =>
      obtain ⟨kvs, ⟨od', x⟩, h2⟩ := r
      rw [hfz] at x
      cases x
      exact ⟨kvs, upd_same, h2⟩
  refine ⟨hfz, R'.put1 ha' new, ⟨g'.ff, g'.mm, fun b w hb n nt => ?_, fun b hb => ?_, fun b hb => ?_, fun b hb => ?_, fun b o w hb => ?_⟩⟩
  · have nb : b ≠ a := fun z => n (by rw [z]; exact hm)
    rw [upd_ne nb]
    exact g'.kp b w (by rw [upd_ne nb]; exact hb) n nt
  · rcases g'.gn b hb with q | q | q
    · exact .inl q
    · by_cases z : b = a
      · rw [z] at q; exact (q.no upd_same trivial).elim
      · exact .inr (.inl (q.back fun u hu => by rw [upd_ne z]; exact hu))
    · exact .inr (.inr q)
  · rcases g'.gm b hb with q | q
    · exact .inl q
    · by_cases z : b = a
      · rw [z]; exact .inl hm
      · exact .inr (q.back fun u hu => by rw [upd_ne z]; exact hu)
  · by_cases q : b = a
    · rw [q] at hb
      obtain ⟨w1, e1, o1⟩ := new.ordy
      exact (hb.no e1 o1).elim
    · exact (g'.th b (hb.back fun u hu => by rw [upd_ne q]; exact hu)).back fun u hu => by rw [upd_ne q]; exact hu
  · have nb : b ≠ a := fun z => by rw [z, hu] at hb; cases hb; exact nz _ _ rfl
    rw [upd_ne nb]
    exact g'.fz b o w (by rw [upd_ne nb]; exact hb)
end
def pkR : RE D → Option Nat
  | .ok (.ref i) _ => some i
  | _ => none
/-- unlocked again -/
def un1 {β : Type} (k : Hs → β) (s : β) (A : Hs) (i : Nat) : Option O → β
  | some (.dic t true l) => k (A.set i (.dic t false l))
  | _ => s
def ulR (i : Nat) : RS → RS
  | .nx e A => un1 (fun B => .nx e B) .stuck A i A[i]?
  | .bk e A => un1 (fun B => .bk e B) .stuck A i A[i]?
  | .ct e A => un1 (fun B => .ct e B) .stuck A i A[i]?
  | .rt d A => un1 (fun B => .rt d B) .stuck A i A[i]?
  | .exc C e A => .exc C e A
  | .stuck => .stuck
def lk2 (f : S) (env : Sl) (A : Hs) (i : Nat) : Option O → RS
  | some (.dic t false l) => ulR i (f env (A.set i (.dic t true l)))
  | _ => .stuck
def lk1 (f : S) (env : Sl) (A : Hs) : Option Nat → RS
  | some i => lk2 f env A i A[i]?
  | none => .stuck
def sLk (x : E) (f : S) : S := fun env A => lk1 f env A (pkR (x env A))
def ulE (i : Nat) : RE D → RE D
  | .ok d A => un1 (fun B => .ok d B) .stuck A i A[i]?
  | .exc C A => .exc C A
  | .stuck => .stuck
def lkE2 (f : E) (env : Sl) (A : Hs) (i : Nat) : Option O → RE D
  | some (.dic t false l) => ulE i (f env (A.set i (.dic t true l)))
  | _ => .stuck
def lkE1 (f : E) (env : Sl) (A : Hs) : Option Nat → RE D
  | some i => lkE2 f env A i A[i]?
  | none => .stuck
def eLk (x : E) (f : E) : E := fun env A => lkE1 f env A (pkR (x env A))
section
variable {K : PySem.W.Frag} {ca : CaT} {W : WX}
theorem un1_inv {β : Type} {k : Hs → β} {s : β} {A : Hs} {i : Nat} (P : β → Prop) (h : P (un1 k s A i A[i]?)) (hs : ¬ P s) : ∃ t l, A[i]? = some (.dic t true l) ∧ P (k (A.set i (.dic t false l))) := by
  cases hA : A[i]? with
  | none => rw [hA] at h; exact absurd h hs
  | some o =>
    rw [hA] at h
    cases o with
    | dic t lk l =>
      cases lk with
      | true => exact ⟨t, l, rfl, h⟩
      | false => exact absurd h hs
    | lst l => exact absurd h hs
    | obj C fs => exact absurd h hs
theorem se_lk {t : TE} {f x : E} (h : SimE K ca W t f) : SimE K ca W (tLockE t) (eLk x f) := fun F m A σ H env Q R S p => by
  unfold eLk at p
  cases q : pkR (x env A) with
  | none => rw [q] at p; exact p.elim
  | some i =>
    rw [q] at p
    have p : Po K ca (Rep K ca) F m H W σ Q (lkE2 f env A i A[i]?) := p
    cases hA : A[i]? with
    | none => rw [hA] at p; exact p.elim
    | some o =>
      rw [hA] at p
      cases o with
      | lst l => exact p.elim
      | obj C fs => exact p.elim
      | dic tt_ lk l =>
        cases lk with
        | true => exact p.elim
        | false =>
          obtain ⟨a, u, hu, mu, hl⟩ := R.lock hA
          refine ⟨a, u, hu, mu, fun od => ?_⟩
          obtain ⟨⟨R1, g1⟩, hul⟩ := hl od
          refine h F m _ σ _ env _ R1 (S.stp g1) ?_
          have p : Po K ca (Rep K ca) F m H W σ Q (ulE i (f env (A.set i (.dic tt_ true l)))) := p
          cases z : f env (A.set i (.dic tt_ true l)) with
          | ok d A2 =>
            rw [z] at p
            obtain ⟨t', l', hA2, p⟩ := un1_inv (fun r => Po K ca (Rep K ca) F m H W σ Q r) p (fun z => z)
            exact fun v F' m' H' R' g' S' => ⟨(hul F' m' A2 H' l' t' R' g' hA2).1, p v F' m' _ (hul F' m' A2 H' l' t' R' g' hA2).2.1 (hul F' m' A2 H' l' t' R' g' hA2).2.2 S'⟩
          | exc C A2 =>
            rw [z] at p
            exact fun F' m' H' R' g' => p F' m' H' R' (g1.trans g')
          | stuck => rw [z] at p; exact p.elim
end
/-! what is walked -/
def wd_ (A : Hs) (i : Nat) (f : Bool → List (D × D) → Option (List D)) : Option O → Option Wk
  | some (.dic t true l) => (f t l).map fun ds => ⟨ds, fun A' => A'[i]? = some (.dic t true l)⟩
  | _ => none
def wdA (f : Bool → List (D × D) → Option (List D)) (A : Hs) : D → Option Wk
  | .ref i => wd_ A i f A[i]?
  | _ => none
def wkK : Hs → D → Option Wk := wdA fun _ l => some (l.map Prod.fst)
def wkV : Hs → D → Option Wk := wdA fun t l => if t = false then some (l.map Prod.snd) else none
def wkI : Hs → D → Option Wk := wdA fun t l => if t = false then some (l.map fun p => .tup [p.1, p.2]) else none
section
variable {K : PySem.W.Frag} {ca : CaT} {F F1 F2 H H1 H2 : Hp} {m m1 m2 : List Addr} {A A1 A2 : Hs} {W : WX} {te : TE} {a : E}
theorem rep_kD (k : Key) : Rep K ca F m (kV k) (kD k) := by
  cases k with
  | inl i => exact .int i
  | inr x => exact .str x
theorem KvR.at_ {κ δ : Type} {kd : κ → δ} : ∀ {kvs : List (κ × V)} {l : List (δ × D)}, KvR K ca F m kd kvs l → ∀ {i : Nat} {k : κ} {v : V}, kvs[i]? = some (k, v) → ∃ d, l[i]? = some (kd k, d) ∧ Rep K ca F m v d
  | _, _, .nil, i, k, v, h => by simp at h
  | _, _, .cons r t, i, k, v, h => by
    cases i with
    | zero =>
      rw [List.getElem?_cons_zero] at h ⊢
      cases h
      exact ⟨_, rfl, r⟩
    | succ i =>
      rw [List.getElem?_cons_succ] at h ⊢
      exact KvR.at_ t h
/-- a locked dict -/
theorem dic_lk {v : V} {i : Nat} {t : Bool} {l : List (D × D)} (R : Rl K ca F m A H) (r : Rep K ca F m v (.ref i)) (h : A[i]? = some (.dic t true l)) : ∃ a, v = .ref a ∧ m[i]? = some a ∧ ((t = false ∧ ∃ kvs od, H a = some (.frz od (.dK kvs)) ∧ KvR K ca F m kD kvs l) ∨ (t = true ∧ ∃ kvs od, H a = some (.frz od (.dT kvs)) ∧ KvR K ca F m kT kvs l)) := by
  obtain ⟨a, e, ha, r⟩ := R.at h r
  cases t with
  | false => obtain ⟨kvs, ⟨od, x⟩, y⟩ := r; exact ⟨a, e, ha, .inl ⟨rfl, kvs, od, x, y⟩⟩
  | true => obtain ⟨kvs, ⟨od, x⟩, y⟩ := r; exact ⟨a, e, ha, .inr ⟨rfl, kvs, od, x, y⟩⟩
theorem wd_inv {f : Bool → List (D × D) → Option (List D)} {x : D} {kk : Wk} (h : wdA f A x = some kk) : ∃ i t l ds, x = .ref i ∧ A[i]? = some (.dic t true l) ∧ f t l = some ds ∧ kk = ⟨ds, fun A' => A'[i]? = some (.dic t true l)⟩ := by
  cases x with
  | ref i =>
    have h : wd_ A i f A[i]? = some kk := h
    cases q : A[i]? with
    | none => rw [q] at h; cases h
    | some o =>
      rw [q] at h
      cases o with
      | dic t lk l =>
        cases lk with
        | false => cases h
        | true =>
          obtain ⟨ds, h1, h2⟩ := Option.map_eq_some_iff.mp h
          exact ⟨i, t, l, ds, rfl, q, h1, h2.symm⟩
      | lst l => cases h
      | obj C fs => cases h
  | _ => cases h
theorem repL_kT : ∀ ks : List Key, RepL K ca F m (ks.map kV) (ks.map kD)
  | [] => .nil
  | k :: ks => .cons (rep_kD k) (repL_kT ks)
end
/-! dict(xs), sorted(xs) -/
def pairsD : List D → Option (List (D × D))
  | [] => some []
  | .tup [k, v] :: r => if (keyK k).isSome = true then (pairsD r).map ((k, v) :: ·) else none
  | _ => none
def oDict (x : D) (A : Hs) : RE D := match x with
  | .ref i => match A[i]? with
    | some (.dic false _ l) => alloc A (.dic false false l)
    | some (.lst l) => match pairsD l with
      | some ps => alloc A (.dic false false (kmerge [] ps))
      | none => .stuck
    | _ => .stuck
  | _ => .stuck
def srt (l : List Int) : List Int := l.mergeSort fun a b => decide (a ≤ b)
def oSorted (x : D) (A : Hs) : RE D := match (seqL A x).bind intsOf with
  | some ns => alloc A (.lst ((srt ns).map D.int))
  | none => .stuck
section
variable {K : PySem.W.Frag} {ca : CaT} {F F1 F2 H H1 H2 : Hp} {m m1 m2 : List Addr} {A A1 A2 : Hs} {W : WX} {te : TE} {a : E}
theorem pairs_rep (R : Rl K ca F m A H) : ∀ {vs : List V} {l : List D} {qs : List (D × D)}, RepL K ca F m vs l → pairsD l = some qs → ∃ (ps : List Addr) (kvs : List (Key × V)), vs = ps.map V.ref ∧ Paired (fun p kv => SqT K H p [kV kv.1, kv.2]) ps kvs ∧ KvR K ca F m kD kvs qs
  | _, _, _, .nil, h => by
    cases h
    exact ⟨[], [], rfl, .nil, .nil⟩
  | _, _, _, .cons (d := d) r rs, h => by
    unfold pairsD at h
    split at h
    · rename_i e; cases e
    · rename_i k v l e
      cases e
      split at h
      · rename_i hk
        obtain ⟨qs', h1, rfl⟩ := Option.map_eq_some_iff.mp h
        obtain ⟨ps, kvs, e1, e2, e3⟩ := pairs_rep R rs h1
        obtain ⟨kk, hk⟩ := Option.isSome_iff_exists.mp hk
        have e := keyK_kD hk
        have e : k = kD kk := e
        subst e
        cases r with
        | tup s rr =>
          cases rr with
          | cons r1 rr =>
            cases rr with
            | cons r2 rr =>
              cases rr
              rename_i x1 x2
              have ex : x1 = kV kk := by cases kk with
                | inl i => cases r1; rfl
                | inr x => cases r1; rfl
              subst ex
              refine ⟨_ :: ps, (kk, x2) :: kvs, by rw [e1]; rfl, .cons (.inl (.inl (R.fh _ _ s))) e2, .cons r2 e3⟩
      · cases h
    · cases h
end
/-! for plain proofs -/
section
variable {A B : Hs} {i : Nat} {e env : Sl} {d : D} {t : Bool} {l : List (D × D)} {f : S} {x g : E} {β : Type} {k : Hs → β} {s : β} {C : String}
theorem z9o : sLk x f env A = lk1 f env A (pkR (x env A)) := rfl
theorem za9 : eLk x g env A = lkE1 g env A (pkR (x env A)) := rfl
theorem z5f : pkR (.ok (.ref i) A) = some i := rfl
theorem z7z : lk1 f env A (some i) = lk2 f env A i A[i]? := rfl
theorem z62 : lkE1 g env A (some i) = lkE2 g env A i A[i]? := rfl
theorem z7g : lk2 f env A i (some (.dic t false l)) = ulR i (f env (A.set i (.dic t true l))) := id rfl
theorem z65 : lkE2 g env A i (some (.dic t false l)) = ulE i (g env (A.set i (.dic t true l))) := id rfl
theorem z5a : ulR i (.nx e A) = un1 (fun B => .nx e B) .stuck A i A[i]? := rfl
theorem z76 : ulR i (.bk e A) = un1 (fun B => .bk e B) .stuck A i A[i]? := rfl
theorem z51 : ulR i (.ct e A) = un1 (fun B => .ct e B) .stuck A i A[i]? := rfl
theorem z6x : ulR i (.rt d A) = un1 (fun B => .rt d B) .stuck A i A[i]? := rfl
theorem z4g : ulR i (.exc C e A) = .exc C e A := rfl
theorem z5u : ulE i (.ok d A) = un1 (fun B => .ok d B) .stuck A i A[i]? := rfl
theorem z4v : ulE i (.exc C A) = .exc C A := rfl
theorem z8o : un1 k s A i (some (.dic t true l)) = k (A.set i (.dic t false l)) := rfl
theorem z8t : wkK A (.ref i) = wd_ A i (fun _ l => some (l.map Prod.fst)) A[i]? := rfl
theorem z7u : wkV A (.ref i) = wd_ A i (fun t l => if t = false then some (l.map Prod.snd) else none) A[i]? := rfl
theorem z8i : wkI A (.ref i) = wd_ A i (fun t l => if t = false then some (l.map fun p => .tup [p.1, p.2]) else none) A[i]? := rfl
theorem z9x {f : Bool → List (D × D) → Option (List D)} : wd_ A i f (some (.dic t true l)) = (f t l).map fun ds => ⟨ds, fun A' => A'[i]? = some (.dic t true l)⟩ := rfl
def od_ (A : Hs) : Option O → RE D
  | some (.dic false _ l) => .ok (.ref A.length) (A ++ [.dic false false l])
  | some (.lst l) => match pairsD l with
    | some ps => .ok (.ref A.length) (A ++ [.dic false false (kmerge [] ps)])
    | none => .stuck
  | _ => .stuck
theorem z3e : oDict (.ref i) A = od_ A A[i]? := by
  unfold oDict od_
  cases h : A[i]? with
  | none => simp only [h]
  | some o =>
    simp only [h]
    cases o with
    | dic t lk l => cases t <;> rfl
    | lst l => cases pairsD l <;> rfl
    | obj C fs => rfl
theorem zay {lk : Bool} : od_ A (some (.dic false lk l)) = .ok (.ref A.length) (A ++ [.dic false false l]) := rfl
def os_ (A : Hs) : Option (List Int) → RE D
  | some ns => .ok (.ref A.length) (A ++ [.lst ((srt ns).map D.int)])
  | none => .stuck
theorem z1h : oSorted x_ A = os_ A ((seqL A x_).bind intsOf) := by
  unfold oSorted os_
  cases (seqL A x_).bind intsOf <;> rfl
theorem z9y {ns : List Int} : os_ A (some ns) = .ok (.ref A.length) (A ++ [.lst ((srt ns).map D.int)]) := rfl
end
end SM

/-! ## a lambda handed to a def that tries it: told = work(), an error is kept by a name -/
namespace SM
open PySem PySem.Spec PyProof.Rows L2
open DL (Ex ExK)
/-- what a def's end hands back where nothing may be let out -/
def retS : RS → RE D
  | .nx _ A => .ok .non A
  | .rt d A => .ok d A
  | _ => .stuck
/-- slots: 0 what is tried, 1 what it told, 2 what was caught, 3 the handler's name -/
def trK (cts : List String) (frest : S) : RE D → RE D
  | .ok d A1 => retS (frest [none, some d, some .non, none] A1)
  | .exc C A1 => if C ∈ cts then retS (frest [none, none, some (.exc C), none] A1) else .stuck
  | .stuck => .stuck
def eTried (cts : List String) (frest : S) (th : E) : E := fun env A => trK cts frest (th env A)
section
variable {K : PySem.W.Frag} {ca : CaT} {F F1 F2 H H1 H2 : Hp} {m m1 m2 : List Addr} {A A1 A2 : Hs} {σ : L2.St} {env : Sl} {W : WX}
theorem Po.any {α β : Type} {Rr : Hp → List Addr → β → α → Prop} {Q : β → Hp → Prop} {r : RE α} {σ' : L2.St} {W' : WX} (h : Po K ca Rr F m H W σ Q r) (hx : ∀ C A, r ≠ .exc C A) : Po K ca Rr F m H W' σ' Q r := by
  cases r with
  | ok a A' => exact h
  | exc C A' => exact absurd rfl (hx C A')
  | stuck => exact h
end
section
variable {P : Program} {w : World} {K : PySem.W.Frag} {mg : Str → Option Value} {base : Heap} {k : Nat} {x qn : Str} {st : Stmt} {fa : Addr} {fd : FuncData} {N ps : List Str} {ca : CaT}
end
/-! ### the end -/
/-- no table is seen -/
def noT (H : Hp) : Hp := fun b => match H b with
  | some (.tbl _) => none
  | o => o
theorem noT_some {H : Hp} {b : Addr} {u : HO} (h : noT H b = some u) : H b = some u ∧ ∀ ps, u ≠ .tbl ps := by
  unfold noT at h
  split at h
  · cases h
  · rename_i n
    exact ⟨h, fun ps z => n ps (by rw [h, z])⟩
theorem noT_of {H : Hp} {b : Addr} {u : HO} (h : H b = some u) (n : ∀ ps, u ≠ .tbl ps) : noT H b = some u := by
  unfold noT
  split
  · rename_i ps z; rw [h] at z; exact absurd (Option.some.inj z) (n ps)
  · exact h
theorem SqL.noT {K : PySem.W.Frag} {H : Hp} {a : Addr} {xs : List V} (h : SqL K H a xs) : SqL K (noT H) a xs := by
  rcases h with (h | ⟨o, h⟩) | h
  · exact .inl (.inl (noT_of h (by intro _ z; cases z)))
  · exact .inl (.inr ⟨o, noT_of h (by intro _ z; cases z)⟩)
  · exact .inr h
theorem Rl.start {K : PySem.W.Frag} {ca : CaT} {H : Hp} (h : ∀ p ∈ ca.T, H p.1 = some (.tbl #[])) : Rl K ca (SM.noT H) [] [] H :=
  ⟨fun a o h => (noT_some h).1, rfl, List.nodup_nil, fun a h => by simp at h, fun i o a h => by simp at h, fun p hp => LamX.TabS.nil (h p hp), fun a ps h => (noT_some h).2 ps rfl⟩
end SM
/-! ### the script and a list -/
namespace L2
open PySem PySem.Spec PyProof.Rows
end L2
namespace SM
open PySem PySem.Spec PyProof.Rows L2
open DL (Ex ExK)
def oAddS (x y : D) (A : Hs) : RE D := match x, y with
  | .scr l, .ref j => match A[j]? with
    | some (.lst k) => if l.length + k.length ≤ sizeLine then alloc A (.lst (l ++ k)) else .stuck
    | _ => .stuck
  | _, _ => .stuck
theorem z6h {A : Hs} {l k : List D} {j : Nat} (h : A[j]? = some (.lst k)) (hl : l.length + k.length ≤ 16000000) : oAddS (.scr l) (.ref j) A = .ok (.ref A.length) (A ++ [.lst (l ++ k)]) := by
  unfold oAddS; simp only [h]; rw [if_pos (z0f hl)]; rfl
/-! ### equations for the plain proofs -/
theorem z3r {cts : List String} {fr : S} {th : E} {env : Sl} {A : Hs} : eTried cts fr th env A = trK cts fr (th env A) := id rfl
theorem z6y {cts : List String} {fr : S} {d : D} {A1 : Hs} : trK cts fr (.ok d A1) = retS (fr [none, some d, some .non, none] A1) := id rfl
theorem z3w {cts : List String} {fr : S} {C : String} {A1 : Hs} (h : C ∈ cts) : trK cts fr (.exc C A1) = retS (fr [none, none, some (.exc C), none] A1) := by
  show (if C ∈ cts then _ else _) = _
  rw [if_pos h]
theorem z3g {d : D} {A : Hs} : retS (.rt d A) = .ok d A := id rfl
theorem z3i {env : Sl} {A : Hs} : retS (.nx env A) = .ok .non A := id rfl
end SM

/-! ## min, max, sorted of data (ints, truths, texts, tuples of these); min, max with a default; max of a dict's keys -/
namespace L2
open PySem PySem.Spec PyProof.Rows PySem.W
/-- the place of the first of the least (gt: of the greatest) -/
def bix (gt : Bool) (ds : List PyData) : Nat := argBest (fun i j => if gt = true then dataLt (ds.getD j .none) (ds.getD i .none) else dataLt (ds.getD i .none) (ds.getD j .none)) (ds.length - 1)
def rBest (K : PySem.W.Frag) (gt : Bool) : List V → Hp → VK → Prop := fun vs H Q => ∃ (a : Addr) (xs : List V) (ds : List PyData), vs = [.ref a] ∧ SqL K H a xs ∧ DpAll K H xs ds ∧ AlikeAll ds ∧ PyData.depthAll ds ≤ 60 ∧ 0 < ds.length ∧ ∀ v, xs[bix gt ds]? = some v → Q v H
theorem Vals.at_ {xs : List V} {us : List Value} (r : Vals xs us) : ∀ {i : Nat} {u : Value}, us[i]? = some u → ∃ x, xs[i]? = some x ∧ RelV x u := by
  induction r with
  | nil => intro i u h; simp at h
  | cons h t ih =>
    intro i u e
    cases i with
    | zero => rw [List.getElem?_cons_zero] at e ⊢; cases e; exact ⟨_, rfl, h⟩
    | succ i => rw [List.getElem?_cons_succ] at e ⊢; exact ih e
theorem call_minD {X : Cx} (hu : X.A.units + 65 < cLine) (hc : X.calm = true) : CallR X (.builtin "min") (rBest X.K false) := by
  intro pins s σ H vs us Q I r h
  obtain ⟨a, xs, ds, rfl, hs, hd, ha, hdp, hl, q⟩ := h
  obtain ⟨its, rv, hl2, _⟩ := I.list hs
  obtain ⟨as, hr⟩ := Dp.readsAll I ds xs its hd rv
  rw [Vals.ref1 r]
  have hn : its.toArray.size = ds.length := readsAll_len hr
  refine call_min_walkH (iter_listW (A := X.A.in1) (I.ok.hd hc) hl2.isList fun s₂ e W st hfp hw hk => ?_)
  refine ⟨_, _, _, _, _, _, _, s.heap, _, rfl, W, st, hfp, by omega, hw, hk, cmpIn_lt (A := X.A.in1) hr ha (by show X.A.units + 1 + _ < _; omega), fun v s' hP m => ?_⟩
  obtain ⟨h', tk, rfl, hk'⟩ := moved_old e rfl m
  rw [hn] at hP
  have hP : its[argBest (fun i j => dataLt (ds.getD i .none) (ds.getD j .none)) (ds.length - 1)]? = some v := by simpa using hP
  obtain ⟨x, hx, rx⟩ := Vals.at_ rv hP
  exact ⟨x, H, I.kept hk', rx, q x (by unfold bix; simpa using hx)⟩
/-- max(d, default=z), d a dict with int keys -/
def rMaxKDf : List V → List V → Hp → VK → Prop := fun vs zs H Q => ∃ (a : Addr) (kvs : List (Key × V)) (is : List Int) (z : V), vs = [.ref a] ∧ zs = [z] ∧ H a = some (.dK kvs) ∧ kvs.map (·.1) = is.map Sum.inl ∧
  (is = [] → Q z H) ∧ (is ≠ [] → ∀ m, m ∈ is → (∀ j ∈ is, j ≤ m) → Q (.int m) H)
theorem call_maxKDf {X : Cx} (hc : X.calm = true) : CallRK X (.builtin "max") [Str.ofString "default"] rMaxKDf := by
  intro pins s σ H xs zs us ws Q I r rz h
  obtain ⟨a, kvs, is, z, rfl, rfl, ha, hv, q0, q⟩ := h
  rw [Vals.ref1 r]
  obtain ⟨w1, rfl, rw1⟩ := vals1 rz
  obtain ⟨_, hsys, vs, rel, dof⟩ := dk_of I.hok ha
  obtain ⟨ep, dat⟩ := dof.dictAt
  obtain ⟨ob, es, ho, hex, hdat, hko, hpr, hnd⟩ := id dat
  have hlt : a < s.heap.objs.size := Heap.lt_size ho
  have hkeys : vs.map (·.1) = is.map Sum.inl := (KV.keys rel).symm.trans hv
  have hlv : vs.length = is.length := by
    have e1 := congrArg List.length hkeys
    rw [List.length_map, List.length_map] at e1
    exact e1
  have hval : ∀ (i : Nat) (v : Value), (∃ k x, vs[i]? = some (k, x) ∧ (mixKind X.prog X.w).is k v = true) → ∃ t, v = Value.int (is.getD i 0) t := fun i v ⟨k, x, hk, hkey⟩ => by
    have e1 : (vs.map (·.1))[i]? = some k := by rw [List.getElem?_map, hk] <;> rfl
    rw [hkeys, List.getElem?_map] at e1
    obtain ⟨j, hj, e2⟩ := Option.map_eq_some_iff.mp e1
    subst e2
    have hi : Value.isInt j v = true := hkey
    obtain ⟨t, e3⟩ := Value.isInt_shape (k := j) (v := v) hi
    refine ⟨t, ?_⟩
    rw [e3, List.getD_eq_getElem?_getD, hj] <;> rfl
  have W := (Walks.dictKeys (knd := mixKind X.prog X.w) (prog := X.prog) (w := X.w) (A := X.A.in1) (I.ok.hd hc) s.heap.objs.size a (Nat.ne_of_lt hlt) vs ep).toS
  refine call_max_walkD (d := w1) (wpAny_pyIter_dict (knd := mixKind X.prog X.w) hsys dat ?_)
  refine ⟨_, _, _, _, _, _, _, s.heap, (fun i j => decide (is.getD i 0 > is.getD j 0)), rfl, W,
    ⟨⟨_, Heap.get?_push_size _ rfl, rfl, rfl⟩, dat.keep fun b u e => Heap.get?_push_of_some _ e⟩, fun b hb => ?_, fun b o e hb => ?_, fun b o e => Heap.get?_push_of_some _ e, fun hz s' m => ?_, fun hp => ⟨?_, fun v s' hP m => ?_⟩⟩
  · show b < (s.heap.push _).objs.size
    rw [Heap.size_push]
    rcases List.mem_cons.mp hb with e | hb
    · rw [e]
      exact Nat.lt_succ_self _
    · rw [List.mem_singleton.mp hb]
      exact Nat.lt_succ_of_lt hlt
  · exact absurd (Heap.lt_size e) ((List.mem_singleton.mp hb) ▸ Nat.lt_irrefl _)
  · obtain ⟨h', tk, rfl, hk'⟩ := moved_old rfl rfl m
    exact ⟨z, H, I.kept hk', rw1, q0 (List.eq_nil_of_length_eq_zero (by omega))⟩
  · intro i j vi vj s2 Q2 E2 hk hi hj hq
    obtain ⟨t1, rfl⟩ := hval i vi hi
    obtain ⟨t2, rfl⟩ := hval j vj hj
    exact CmpOf.ints_gt (fun i => is.getD i 0) hval i j _ _ s2 Q2 E2 hi hj hq
  · obtain ⟨h', tk, rfl, hk'⟩ := moved_old rfl rfl m
    obtain ⟨t, rfl⟩ := hval _ v hP
    obtain ⟨b1, b2⟩ := argBest_gt (fun i => is.getD i 0) (vs.length - 1)
    refine ⟨.int _, H, I.kept hk', ⟨t, rfl⟩, q (fun z => by rw [z] at hlv; rw [hlv] at hp; exact Nat.lt_irrefl _ hp) _ ?_ fun j hj => ?_⟩
    · have hb : argBest (fun i j => decide (is.getD i 0 > is.getD j 0)) (vs.length - 1) < is.length := by omega
      rw [List.getD_eq_getElem?_getD, List.getElem?_eq_getElem hb]
      exact List.getElem_mem hb
    · obtain ⟨i, hi, e⟩ := List.mem_iff_getElem.mp hj
      have e2 : is.getD i 0 = j := by rw [List.getD_eq_getElem?_getD, List.getElem?_eq_getElem hi, ← e] <;> rfl
      rw [← e2]
      exact b2 i (by omega)
theorem call_minU {X : Cx} {K : PySem.W.Frag} (hu : X.A.units + 65 < cLine) (hc : X.calm = true) (e : X.K = K := by rfl) : CallR X (.builtin "min") (rBest K false) := by subst e; exact call_minD hu hc
end L2
namespace SM
open PySem L2
open DL (Ex ExK)
def alikeB (ds : List PyData) : Bool := ds.all fun x => ds.all fun y => PySem.W.alike x y
def nonone : PyData → Bool
  | .none => false
  | _ => true
theorem alikeB_all {ds : List PyData} (h : alikeB ds = true) : PySem.W.AllAlike ds := fun d hd d' hd' => (List.all_eq_true.mp (List.all_eq_true.mp h d hd)) d' hd'
theorem alikeB_of {ds : List PyData} (h : alikeB ds = true) (k : ds.all nonone = true) : PySem.W.AlikeAll ds := ⟨fun x hx y hy => alikeB_all h x hx y hy, fun x hx e => by
  have := List.all_eq_true.mp k x hx
  rw [e] at this; cases this⟩
def pyAll (A : Hs) (l : List D) : Option (List PyData) := allSome (l.map (pyA A 40))
def oBest (gt : Bool) (x : D) (A : Hs) : RE D := match seqL A x with
  | some l => match pyAll A l with
    | some ds => if alikeB ds = true ∧ ds.all nonone = true ∧ 0 < ds.length then match l[bix gt ds]? with
      | some d => .ok d A
      | none => .stuck
      else .stuck
    | none => .stuck
  | none => .stuck
def mx : List Int → Int
  | [] => 0
  | [a] => a
  | a :: r => if mx r ≤ a then a else mx r
theorem mx_ok : ∀ {l : List Int}, l ≠ [] → mx l ∈ l ∧ ∀ j ∈ l, j ≤ mx l
  | [], h => absurd rfl h
  | [a], _ => ⟨List.mem_singleton_self a, fun j hj => by rw [List.mem_singleton] at hj; rw [hj]; exact Int.le_refl _⟩
  | a :: b :: r, _ => by
    obtain ⟨h1, h2⟩ := mx_ok (l := b :: r) (by simp)
    unfold mx
    split
    · rename_i q
      exact ⟨List.mem_cons_self, fun j hj => by
        rcases List.mem_cons.mp hj with e | hj
        · rw [e]; exact Int.le_refl _
        · exact Int.le_trans (h2 j hj) q⟩
    · rename_i q
      exact ⟨List.mem_cons_of_mem _ h1, fun j hj => by
        rcases List.mem_cons.mp hj with e | hj
        · rw [e]; omega
        · exact h2 j hj⟩
theorem mx_eq {l : List Int} {m : Int} (h : m ∈ l) (k : ∀ j ∈ l, j ≤ m) : m = mx l := by
  obtain ⟨h1, h2⟩ := mx_ok (l := l) (fun e => by rw [e] at h; cases h)
  have := k _ h1
  have := h2 _ h
  omega
def oMaxKDf (x z : D) (A : Hs) : RE D := match x with
  | .ref i => match A[i]? with
    | some (.dic false false l) => match intsOf (l.map Prod.fst) with
      | some [] => .ok z A
      | some ns => .ok (.int (mx ns)) A
      | none => .stuck
    | _ => .stuck
  | _ => .stuck
/-- a built-in called with one argument and one keyword -/
def eCK (f : D → D → Hs → RE D) (a b : E) : E := fun env A => (a env A).bind fun x A1 => (b env A1).bind fun y A2 => f x y A2
section
variable {K : PySem.W.Frag} {ca : CaT} {F F1 F2 H H1 H2 : Hp} {m m1 m2 : List Addr} {A A1 A2 : Hs} {W : WX} {ta tb : TE} {a b : E}
theorem py_all (R : Rl K ca F m A H) {vs : List V} {l : List D} {ds : List PyData} (h : RepL K ca F m vs l) (k : pyAll A l = some ds) : DpAll K H vs ds ∧ PyData.depthAll ds ≤ 60 := by
  obtain ⟨h1, _, h3⟩ := dp_all R (fun r e => dp_of R r e) h k
  exact ⟨h1, by omega⟩
theorem cs_best {gt : Bool} : CbS K ca (rBest K gt) (c1 (oBest gt)) := cs_1 fun F m A H x dx W σ Q R rx p => by
  unfold oBest at p
  split at p
  · rename_i l hl
    split at p
    · rename_i ds hd
      split at p
      · rename_i hc
        split at p
        · rename_i d hx
          obtain ⟨ad, vs, e, h3, h4⟩ := seqL_at R rx hl
          subst e
          obtain ⟨h5, h6⟩ := py_all R h4 hd
          refine ⟨ad, vs, ds, rfl, h3, h5, alikeB_of hc.1 hc.2.1, h6, hc.2.2, fun v hv => ?_⟩
          obtain ⟨v', e1, e2⟩ := h4.get hx
          rw [hv] at e1; cases e1
          exact po_ok R e2 p
        · exact p.elim
      · exact p.elim
    · exact p.elim
  · exact p.elim
theorem se_ck {r : List V → List V → Hp → VK → Prop} {o : D → D → Hs → RE D} (h : ∀ F m A H x y dx dy W σ Q, Rl K ca F m A H → Rep K ca F m x dx → Rep K ca F m y dy → Po K ca (Rep K ca) F m H W σ Q (o dx dy A) → r [x] [y] H Q) (ha : SimE K ca W ta a) (hb : SimE K ca W tb b) : SimE K ca W (tCKw r (tCons ta tNil) (tCons tb tNil)) (eCK o a b) := fun F m A σ H env Q R S p =>
  ha.bind R S p fun F1 m1 A1 H1 x dx R1 g1 S1 rx p1 => hb.bind R1 S1 p1 fun F2 m2 A2 H2 y dy R2 g2 S2 ry p2 => h F2 m2 A2 H2 x y dx dy W σ Q R2 (rx.mono g2.ff g2.mm) ry p2
theorem kvR_keys {κ δ : Type} {kd : κ → δ} : ∀ {kvs : List (κ × V)} {l : List (δ × D)}, KvR K ca F m kd kvs l → l.map Prod.fst = kvs.map fun p => kd p.1
  | _, _, .nil => rfl
  | _, _, .cons _ r => by rw [List.map_cons, List.map_cons, kvR_keys r]
theorem keys_ints : ∀ {ks : List Key} {ns : List Int}, ks.map kD = ns.map D.int → ks = ns.map Sum.inl
  | [], [], _ => rfl
  | [], _ :: _, h => by cases h
  | _ :: _, [], h => by cases h
  | k :: ks, n :: ns, h => by
    rw [List.map_cons, List.map_cons] at h
    injection h with h1 h2
    rw [List.map_cons, keys_ints h2]
    cases k with
    | inl i => cases h1; rfl
    | inr x => cases h1
theorem ck_maxKDf : ∀ F m A H x y dx dy W σ Q, Rl K ca F m A H → Rep K ca F m x dx → Rep K ca F m y dy → Po K ca (Rep K ca) F m H W σ Q (oMaxKDf dx dy A) → rMaxKDf [x] [y] H Q := fun F m A H x y dx dy W σ Q R rx ry p => by
  unfold oMaxKDf at p
  split at p
  · rename_i i
    split at p
    · rename_i l hA
      obtain ⟨ad, e, ha, kvs, h1, h2⟩ := R.at hA rx
      subst e
      have hk := kvR_keys h2
      split at p
      · rename_i hi
        have e2 := intsOf_eq hi
        rw [hk] at e2
        have e3 := keys_ints (ks := kvs.map Prod.fst) (ns := []) (by rw [List.map_map]; exact e2)
        exact ⟨ad, kvs, [], y, rfl, rfl, h1, e3, fun _ => po_ok R ry p, fun z => absurd rfl z⟩
      · rename_i ns hne hi
        have e2 := intsOf_eq hi
        rw [hk] at e2
        have e3 := keys_ints (ks := kvs.map Prod.fst) (ns := ns) (by rw [List.map_map]; exact e2)
        exact ⟨ad, kvs, ns, y, rfl, rfl, h1, e3, fun z => absurd z (by rintro rfl; exact hne rfl), fun _ mm h5 h6 => by rw [mx_eq h5 h6]; exact po_ok R (.int _) p⟩
      · exact p.elim
    · exact p.elim
  · exact p.elim
end
end SM

/-! ## dicts with tuple keys: values(), items(), pop; setdefault; what no run reaches -/
namespace L2
open PySem PySem.Spec PyProof.Rows
section
variable {X : Cx} {pins : List (Addr × Obj)} {σ : St} {H : Hp} {s : Shared} {d : Addr} {o : Obj}
theorem Inv.frzT2 {kvs : List (List Key × V)} (I : Inv X pins σ H s) (h : H d = some (.frz o (.dT kvs))) :
    (d == sysModules) = false ∧ s.heap.get? d = some o ∧ o.ExactDict ∧ ∃ (es : Array DictEntry) (ep : Nat), o.data = .dict es ep ∧ es.size = kvs.length ∧
      ∀ (i : Nat) (k : List Key) (v : V), kvs[i]? = some (k, v) → ∃ (en : DictEntry) (q : Addr), es[i]? = some en ∧ en.key = .ref q ∧ H q = some (.tup (k.map kV)) ∧ RelV v en.val := by
  obtain ⟨hd, z, hs, xs, pr, o', es, ep, ho, hx, hdt, he, _⟩ := I.hok d _ h
  rw [hd] at ho
  cases ho
  refine ⟨hs, hd, hx, es, ep, hdt, ?_, fun i k v e => ?_⟩
  · have l1 : es.size = xs.length := size_of_entries he
    have l2 : kvs.length = xs.length := Paired.length pr
    omega
  · obtain ⟨b, hb, e1, e2, e3⟩ := paired_get pr e
    have q := entry_at he i
    rw [hb] at q
    exact ⟨_, b.2.1, q, rfl, e2, e3⟩
end
/-- the values -/
def Itdt (d : Addr) (o : Obj) (kvs : List (List Key × V)) : It :=
  ⟨fun i H => H d = some (.frz o (.dT kvs)) ∧ i < kvs.length, fun i H x H' => H' = H ∧ ∃ k, kvs[i]? = some (k, x), fun i H => H d = some (.frz o (.dT kvs)) ∧ kvs.length ≤ i⟩
/-- the pairs, each a new tuple -/
def Itit (d : Addr) (o : Obj) (kvs : List (List Key × V)) : It :=
  ⟨fun i H => H d = some (.frz o (.dT kvs)) ∧ i < kvs.length, fun i H x H' => ∃ T k v q, kvs[i]? = some (k, v) ∧ x = .ref T ∧ H q = some (.tup (k.map kV)) ∧ H T = none ∧ H' = upd H T (.tup [.ref q, v]), fun i H => H d = some (.frz o (.dT kvs)) ∧ kvs.length ≤ i⟩
section
variable {P : Program} {w : World} {K : PySem.W.Frag} {tg : Expr} {d : Addr} {o : Obj} {es : Array DictEntry} {ep : Nat}
theorem raw_of {h : Heap} (hgd : h.get? d = some o) (hx : o.ExactDict) (hod : o.data = .dict es ep) : h.DictRaw d es ep := ⟨o, hgd, hx, hod⟩
theorem turn_valsT {kvs : List (List Key × V)} (it : Addr) (hod : o.data = .dict es ep) : Turn P w K tg (Itdt d o kvs) [it] it (fun i h => h.IsValIter it d i kvs.length ep) where
  mem := by simp
  obj := fun i h st b hb => by
    have e : b = it := by simpa using hb
    subst e
    obtain ⟨oi, e, c, dd⟩ := st
    exact ⟨oi, e, fun v z => by rw [dd] at z; cases z⟩
  keep := fun i h h' st k => st.at fun oi e => k it (by simp) oi e
  item := by
    intro X hP hw hK hc i pins s σ H E I hf st hg
    subst hP hw hK
    obtain ⟨hd, hi⟩ := hg
    obtain ⟨f0, f1, f2, f3, f4, f5⟩ := hf it (by simp)
    obtain ⟨hs, hgd, hx, es', ep', hdt, hsz, ent⟩ := I.frzT2 hd
    obtain ⟨rfl, rfl⟩ := dict_ep hod hdt
    obtain ⟨⟨k, v⟩, hkv⟩ : ∃ p, kvs[i]? = some p := ⟨kvs[i], List.getElem?_eq_getElem hi⟩
    obtain ⟨en, q, hen, hkey, hq, rv⟩ := ent i k v hkv
    have hlt : i < es'.size := by omega
    have e1 : es'[i] = en := by
      rw [Array.getElem?_eq_getElem hlt] at hen
      exact Option.some.inj hen
    rw [← hsz] at st
    refine wpAny_pyNext_values_item_raw st (raw_of hgd hx hdt) hlt fun h' st' sb => ?_
    have I1 : Inv X pins σ H { s with heap := h' } := I.turned (t' := s.toks) (fun b ob hb e => (sb.2 b hb).trans e) f0 f1 f3 f4 f5
    obtain ⟨oi, e, c, dd⟩ := id st'
    refine ⟨_, rfl, go_of (s := { s with heap := h' }) e c dd (by decide) ⟨v, H, I1, by rw [e1]; exact rv, ⟨rfl, k, hkv⟩, ?_, fun b hb => (hf b hb).1⟩⟩
    show h'.IsValIter it d (i + 1) kvs.length _
    rw [← hsz]
    exact st'
  done := by
    intro X hP hw hK hc i pins s σ H E I hf st hg
    subst hP hw hK
    obtain ⟨hd, hi⟩ := hg
    obtain ⟨f0, f1, f2, f3, f4, f5⟩ := hf it (by simp)
    obtain ⟨hs, hgd, hx, es', ep', hdt, hsz, ent⟩ := I.frzT2 hd
    obtain ⟨rfl, rfl⟩ := dict_ep hod hdt
    rw [← hsz] at st
    exact wpAny_pyNext_values_end_raw (I.ok.hd hc) st (raw_of hgd hx hdt) (by omega) fun h' eb => ⟨rfl, I.turned (t' := s.toks) (fun b ob hb e => eb b ob hb e) f0 f1 f3 f4 f5⟩
  self := fun A i s Q E st h => wpAny_pyIter_valiter st h
theorem turn_itemsT {kvs : List (List Key × V)} {elts : List Expr} {kk : Nat} {tpos : Pos} (it : Addr) (hod : o.data = .dict es ep) :
    Turn P w K (.Tuple elts kk tpos) (Itit d o kvs) [it] it (fun i h => ∃ ok ov, IsItemIter h it d i kvs.length ep ok ov) where
  mem := by simp
  obj := fun i h st b hb => by
    have e : b = it := by simpa using hb
    subst e
    obtain ⟨ok, ov, e⟩ := st
    exact ⟨_, e, fun v z => nomatch z⟩
  keep := fun i h h' st k => let ⟨ok, ov, e⟩ := st; ⟨ok, ov, k it (by simp) _ e⟩
  item := by
    intro X hP hw hK hc i pins s σ H E I hf st hg
    subst hP hw hK
    obtain ⟨hd, hi⟩ := hg
    obtain ⟨hs, hgd, hx, es', ep', hdt, hsz, ent⟩ := I.frzT2 hd
    obtain ⟨rfl, rfl⟩ := dict_ep hod hdt
    obtain ⟨⟨k, v⟩, hkv⟩ : ∃ p, kvs[i]? = some p := ⟨kvs[i], List.getElem?_eq_getElem hi⟩
    obtain ⟨en, q, hen, hkey, hq, rv⟩ := ent i k v hkv
    have hlt0 : i < es'.size := by omega
    have e1 : es'[i] = en := by
      rw [Array.getElem?_eq_getElem hlt0] at hen
      exact Option.some.inj hen
    obtain ⟨ok, ov, he⟩ := st
    rw [← hsz] at he
    have hlt : it < s.heap.objs.size := Heap.lt_size he
    refine wpAny_pyNext_items_item_raw he (raw_of hgd hx hdt) hlt0 fun h' ho hT hz hk => ?_
    refine ⟨_, rfl, wpAny_letOwnedTupleGo_items (s := { s with heap := h' }) ho fun h'' he' sb => ?_⟩
    rw [e1] at hT he'
    have hT2 : h''.get? s.heap.objs.size = some { cls := .type "tuple", data := .seq #[en.key, en.val] } := (sb.2 _ (Nat.ne_of_gt hlt)).trans hT
    have new : ObjOk X.prog X.w (upd H s.heap.objs.size (.tup [.ref q, v])) h'' s.heap.objs.size (.tup [.ref q, v]) :=
      ⟨by show 2 ≤ sizeLine; decide, [en.key, en.val], .cons (show RelV (.ref q) en.key from hkey) (.cons rv .nil), ⟨_, hT2, rfl, _, rfl⟩⟩
    have I1 : Inv X pins σ (upd H s.heap.objs.size (.tup [.ref q, v])) { s with heap := h'' } :=
      I.turnedNew (t' := s.toks) (ch := [it]) (fun b ob hb e => (sb.2 b (by simpa using hb)).trans (hk b ob (by simpa using hb) e)) hf (Nat.le_refl _) new
    refine ⟨.ref s.heap.objs.size, _, I1, rfl, ⟨_, k, v, q, hkv, rfl, hq, I.hok.fresh (Nat.le_refl _), rfl⟩, ⟨en.key, en.val, ?_⟩, fun b hb => ?_⟩
    · rw [← hsz]; exact he'
    · have e : b = it := by simpa using hb
      rw [e, upd_ne (Nat.ne_of_lt hlt)]
      exact (hf it (by simp)).1
  done := by
    intro X hP hw hK hc i pins s σ H E I hf st hg
    subst hP hw hK
    obtain ⟨hd, hi⟩ := hg
    obtain ⟨f0, f1, f2, f3, f4, f5⟩ := hf it (by simp)
    obtain ⟨hs, hgd, hx, es', ep', hdt, hsz, ent⟩ := I.frzT2 hd
    obtain ⟨rfl, rfl⟩ := dict_ep hod hdt
    obtain ⟨ok, ov, he⟩ := st
    rw [← hsz] at he
    exact wpAny_pyNext_items_end_raw (I.ok.hd hc) he (raw_of hgd hx hdt) (by omega) fun h' eb => ⟨rfl, I.turned (t' := s.toks) (fun b ob hb e => eb b ob hb e) f0 f1 f3 f4 f5⟩
  self := fun A i s Q E st h => let ⟨_, _, e⟩ := st; PySem.W.kcp_self e h
end
def iValsT (td : TE) : TI := fun σ H R => td σ H fun x H1 => ∃ d o kvs, x = .ref d ∧ H1 d = some (.frz o (.dT kvs)) ∧ R (Itdt d o kvs) H1
def iItemsT (td : TE) : TI := fun σ H R => td σ H fun x H1 => ∃ d o kvs, x = .ref d ∧ H1 d = some (.frz o (.dT kvs)) ∧ R (Itit d o kvs) H1
theorem DictRaw.typeIs' {s : Shared} {d : Addr} {es : Array DictEntry} {ep : Nat} (x : s.heap.DictRaw d es ep) : s.TypeIs (.ref d) "dict" := let ⟨o, ho, hc, _⟩ := x; ⟨o, ho, hc.1⟩
theorem DictRaw.push' {h : Heap} {d : Addr} {es : Array DictEntry} {ep : Nat} (x : h.DictRaw d es ep) (u : Obj) : (h.push u).DictRaw d es ep := let ⟨o, ho, r⟩ := x; ⟨o, Heap.get?_push_of_some _ ho, r⟩
section
variable {X : Cx} {tg e : Expr} {td : TE} {apos cpos : Pos}
theorem pi_valuesT (he : PE X e td) (hbase : attributeBase e "values" X.env (eval e X.env) = eval e X.env := by rfl) (hline : (apos.endLine == cpos.line) = true := by rfl) : PI X tg (.Call (.Attribute e "values" apos) [] [] cpos) (iValsT td) := by
  refine ⟨fun pins s σ H R I h => ?_⟩
  refine wpAny_Call_method (T := "dict") (id := "dict.values") hbase rfl hline F.plainAttrs_dict F.slot_dict_values F.type_dict_values (thn (he.run pins s σ H _ I h) fun u s1 ⟨x, H1, I1, rx, d, o, kvs, ex, hd, q⟩ => ?_)
  subst ex
  obtain rfl : u = Value.ref d := rx
  obtain ⟨hs, hgd, hx, es, ep, hdt, hsz, ent⟩ := I1.frzT2 hd
  have hm : s1.heap.DictRaw d es ep := raw_of hgd hx hdt
  refine ⟨DictRaw.typeIs' hm, fun a e => ?_, ?_⟩
  · cases e; exact ⟨o, hgd, hx.2.1⟩
  have I2 : Inv X pins σ H1 { s1 with heap := s1.heap.push { cls := .type "dict_values", data := .fields #[.ref d] } } := I1.kept (t' := s1.toks) fun b ob q => Heap.get?_push_of_some _ q
  have fin : wpAny (model X.prog X.w) X.A (pyIter (.ref s1.heap.objs.size)) (PIE X pins σ tg R) X.xe { s1 with heap := s1.heap.push { cls := .type "dict_values", data := .fields #[.ref d] } } := by
    refine wpAny_pyIter_values_raw (d := d) ⟨_, Heap.get?_push_size _ rfl, rfl, rfl⟩ (DictRaw.push' hm _) (pi_one (tk := s1.toks) I2 _ (turn_valsT _ hdt) ⟨_, Heap.get?_push_size _ rfl, rfl, ?_⟩ q)
    rw [hsz] <;> rfl
  show wpAny _ _ (callWith cpos (.builtin "dict.values") [.ref d] [] []) _ X.xe s1
  exact method_meetsIn F.slot_dict_values F.entry_dict_values rfl (PySem.evalArgs_none ⟨rfl, DictRaw.typeIs' hm, F.args_dict_values_1 _, _, meets_dict_values_raw d hs, ⟨es, ep, hm⟩, fin⟩)
theorem pi_itemsT {elts : List Expr} {kk : Nat} {tpos : Pos} (he : PE X e td) (hbase : attributeBase e "items" X.env (eval e X.env) = eval e X.env := by rfl) (hline : (apos.endLine == cpos.line) = true := by rfl) :
    PI X (.Tuple elts kk tpos) (.Call (.Attribute e "items" apos) [] [] cpos) (iItemsT td) := by
  refine ⟨fun pins s σ H R I h => ?_⟩
  refine wpAny_Call_method (T := "dict") (id := "dict.items") hbase rfl hline F.plainAttrs_dict F.slot_dict_items F.type_dict_items (thn (he.run pins s σ H _ I h) fun u s1 ⟨x, H1, I1, rx, d, o, kvs, ex, hd, q⟩ => ?_)
  subst ex
  obtain rfl : u = Value.ref d := rx
  obtain ⟨hs, hgd, hx, es, ep, hdt, hsz, ent⟩ := I1.frzT2 hd
  have hm : s1.heap.DictRaw d es ep := raw_of hgd hx hdt
  refine ⟨DictRaw.typeIs' hm, fun a e => ?_, ?_⟩
  · cases e; exact ⟨o, hgd, hx.2.1⟩
  have I2 : Inv X pins σ H1 { s1 with heap := s1.heap.push { cls := .type "dict_items", data := .fields #[.ref d] } } := I1.kept (t' := s1.toks) fun b ob q => Heap.get?_push_of_some _ q
  have fin : wpAny (model X.prog X.w) X.A (pyIter (.ref s1.heap.objs.size)) (PIE X pins σ (.Tuple elts kk tpos) R) X.xe { s1 with heap := s1.heap.push { cls := .type "dict_items", data := .fields #[.ref d] } } := by
    refine wpAny_pyIter_items_raw (d := d) ⟨_, Heap.get?_push_size _ rfl, rfl, rfl⟩ (DictRaw.push' hm _) (pi_one (tk := s1.toks) I2 _ (turn_itemsT _ hdt) ⟨.none, .none, ?_⟩ q)
    rw [hsz]
    exact Heap.get?_push_size _ rfl
  show wpAny _ _ (callWith cpos (.builtin "dict.items") [.ref d] [] []) _ X.xe s1
  exact method_meetsIn F.slot_dict_items F.entry_dict_items rfl (PySem.evalArgs_none ⟨rfl, DictRaw.typeIs' hm, F.args_dict_items_1 _, _, meets_dict_items_raw d hs, ⟨es, ep, hm⟩, fin⟩)
end
end L2
namespace DT
open PySem PySem.W PySem.Calls PyProof.Rows PyProof.V PySem.Spec
section
variable {K : Type} [DecidableEq K] {prog : Program} {w : World} {knd : HeapKind prog w K} {A : Around} {E : Value → Shared → Prop} {s : Shared}
theorem meetsPop1 {d b : Addr} {k : K} (hd : (d == sysModules) = false) :
    MeetsIn prog w (Builtin.«dict.pop» ⟨[.ref d, .ref b], []⟩) (fun A R s => ∃ xs, knd.room A.in1 ∧ knd.is s.heap k b ∧ s.heap.DictOfH knd d xs ∧ xs.length ≤ sizeLine ∧
      atKey xs k ≠ none ∧
      ∀ p, atKey xs k = some p → ∀ h' tk, h'.DictOfH knd d (dropH xs k) → Heap.SameBut d s.heap h' → R (.ok (.ret p.2)) { s with heap := h', toks := tk }) :=
  .of_wp fun A R s ⟨xs, hu, hkey, hm, hsz, hsm, hsome⟩ => by
    obtain ⟨o, es, ep, ho, hc, hdat, he, his, hn⟩ := id hm
    have hes : es.size = xs.length := size_of_entries he
    have hpart : (keyPart (Value.ref b)).isSome = false := rfl
    unfold Builtin.«dict.pop»
    refine wpAny_bind ?_
    unfold Builtin.Dict.keyAndDefault
    refine wpAny_bind (wpAny_notOrdered_dict hm.typeIs ?_)
    show wpAny _ _ (pure (d, Value.ref b, none)) _ _ s
    refine wpAny_pure ?_
    simp only [hpart, Bool.false_eq_true, if_false]
    refine wpAny_bind (wpAny_dictEntries ho hdat (wpAny_bind (wpAny_pure ?_)))
    cases hem : es.isEmpty with
    | true =>
      have h0 : xs = [] := by
        have z : es.size = 0 := by simpa using hem
        exact List.length_eq_zero_iff.mp (by omega)
      exact absurd (by rw [h0]; rfl) hsm
    | false =>
      simp only [Bool.false_eq_true, if_false]
      refine wpAny_bind (takeH hu hkey hm hsz (fun hno => absurd hno hsm) fun p e hp hev h' hm' hs' => ?_)
      simp only [Option.isNone_some, Bool.false_eq_true, if_false]
      exact wpAny_bind (wpAny_letGo (wpAny_pure ⟨e.val, rfl, by rw [hev]; exact hsome p hp h' _ hm' hs'⟩))
end
end DT
namespace L2
open PySem PySem.Spec PyProof.Rows
def rPopT1 : V → List V → Hp → VK → Prop := fun x xs H Q => ∃ (a : Addr) (kvs : List (List L2.Key × V)) (k : List L2.Key) (b : Addr) (v : V), x = .ref a ∧ xs = [.ref b] ∧ H a = some (.dT kvs) ∧ H b = some (.tup (k.map kV)) ∧
  valV kvs k = some v ∧ Q v (upd H a (.dT (dropK kvs k)))
theorem mt_popT1 {X : Cx} (hu : X.A.units + 1 < cLine) : MtR X "dict.pop" rPopT1 := by
  intro pins s σ H x xs v us Q I rx rxs h
  obtain ⟨a, kvs, k, b, d, rfl, rfl, ha, hb, q1, q2⟩ := h
  cases rx
  have := Vals.ref1 rxs
  subst this
  obtain ⟨z, hd, xs', rel, dd⟩ := dt_of I.hok ha
  have hz : xs'.length ≤ sizeLine := by rw [← Paired.length rel]; exact z
  have rk := rel.val k
  rw [q1] at rk
  refine call_meetsIn PySem.F.slot_dict_pop dd.typeIs PySem.F.entry_dict_pop (PySem.F.args_dict_pop_2 _ _) (DT.meetsPop1 (knd := tupleKind (mixKind X.prog X.w)) (k := k) hd)
    ⟨xs', tupleKind_room_in1 hu, key_of I.hok hb, dd, hz, fun hn => ?_, fun p hp h' tk dd' hs => ?_⟩
  · rw [hn] at rk
    exact rk
  · rw [hp] at rk
    have rv : RelV d p.2 := rk
    obtain ⟨o, es, ep, hq, h2, h3, h4, _, h5⟩ := dd'
    have I2 : Inv X pins σ (upd H a (.dT (dropK kvs k))) { s with heap := h', toks := tk } :=
      d_write I (by rw [ha]; exact True.intro) hs ⟨o, hq⟩ ⟨Nat.le_trans (dropK_le kvs k) z, hd, _, (L2.DX.KT_drop k rel).keeps (fun c ys ec => (by rw [upd_ne (ne_of ec ha (fun z => nomatch z))]; exact ec)), o, es, ep, hq, h2, h3, h4, h5⟩
    show EP X pins σ Q p.2 _
    exact ⟨d, _, I2, rv, q2⟩
end L2
namespace SM
open PySem L2
open DL (Ex ExK)
section
variable {K : PySem.W.Frag} {ca : CaT} {F F1 F2 H H1 H2 : Hp} {m m1 m2 : List Addr} {A A1 A2 : Hs} {σ : L2.St} {env : Sl} {W : WX} {Q : VK}
variable {to ti ta tb tc te tz : TE} {a b c e : E} {i : Nat} {d : D} {ts : TA} {as : As} {x y : V} {dx dy : D}
/-! walks -/
def wkVT : Hs → D → Option Wk := wdA fun t l => if t = true then some (l.map Prod.snd) else none
def wkIT : Hs → D → Option Wk := wdA fun t l => if t = true then some (l.map fun p => .tup [p.1, p.2]) else none
theorem walk_valsT {d : Addr} {o : Obj} {kvs : List (List Key × V)} : Walk (Itdt d o kvs) kvs.length (fun H => H d = some (.frz o (.dT kvs))) (fun i H x H' => H' = H ∧ ∃ k, kvs[i]? = some (k, x)) :=
  ⟨fun i _ hi q => ⟨q, hi⟩, fun _ q => ⟨q, Nat.le_refl _⟩, fun _ _ _ _ _ _ y => y⟩
theorem walk_itemsT {d : Addr} {o : Obj} {kvs : List (List Key × V)} : Walk (Itit d o kvs) kvs.length (fun H => H d = some (.frz o (.dT kvs))) (fun i H x H' => ∃ T k v q, kvs[i]? = some (k, v) ∧ x = .ref T ∧ H q = some (.tup (k.map kV)) ∧ H T = none ∧ H' = upd H T (.tup [.ref q, v])) :=
  ⟨fun i _ hi q => ⟨q, hi⟩, fun _ q => ⟨q, Nat.le_refl _⟩, fun _ _ _ _ _ _ y => y⟩
theorem sw_valsT (h : SimE K ca W te a) : SimI K ca W (iValsT te) (wOf wkVT a) := fun F m A σ H env Q R S p => wOf_bind h R S p fun F1 m1 A1 H1 x d kk R1 r hk p1 => by
  obtain ⟨i, t, l, ds, rfl, hA, hf, rfl⟩ := wd_inv hk
  obtain ⟨ad, rfl, ha, q⟩ := dic_lk R1 r hA
  rcases q with ⟨rfl, kvs, od, hd, hkv⟩ | ⟨rfl, kvs, od, hd, hkv⟩
  · cases hf
  · cases hf
    refine ⟨ad, od, kvs, rfl, hd, p1 _ F1 m1 H1 R1 Stp.refl ⟨_, (fun i H x H' => H' = H ∧ ∃ k, kvs[i]? = some (k, x)), ?_, fun F2 m2 A2 H2 hg R2 g2 => g2.fz _ _ _ hd, fun i' d' x' F2 m2 A2 H2 H3 e hg R2 g2 y => .inl ?_⟩⟩
    · rw [show (Wk.mk (l.map Prod.snd) _).ds.length = kvs.length from (List.length_map _).trans hkv.length.symm]; exact walk_valsT
    · obtain ⟨e1, k, e2⟩ := y
      obtain ⟨dd, e4, e5⟩ := hkv.at_ e2
      refine ⟨e1, ?_⟩
      have e : (l.map Prod.snd)[i']? = some d' := e
      rw [List.getElem?_map, e4] at e
      cases e
      exact e5.mono g2.ff g2.mm
theorem sw_itemsT (h : SimE K ca W te a) : SimI K ca W (iItemsT te) (wOf wkIT a) := fun F m A σ H env Q R S p => wOf_bind h R S p fun F1 m1 A1 H1 x d kk R1 r hk p1 => by
  obtain ⟨i, t, l, ds, rfl, hA, hf, rfl⟩ := wd_inv hk
  obtain ⟨ad, rfl, ha, q⟩ := dic_lk R1 r hA
  rcases q with ⟨rfl, kvs, od, hd, hkv⟩ | ⟨rfl, kvs, od, hd, hkv⟩
  · cases hf
  · cases hf
    refine ⟨ad, od, kvs, rfl, hd, p1 _ F1 m1 H1 R1 Stp.refl ⟨_, (fun i H x H' => ∃ T k v q, kvs[i]? = some (k, v) ∧ x = .ref T ∧ H q = some (.tup (k.map kV)) ∧ H T = none ∧ H' = upd H T (.tup [.ref q, v])), ?_, fun F2 m2 A2 H2 hg R2 g2 => g2.fz _ _ _ hd, fun i' d' x' F2 m2 A2 H2 H3 e hg R2 g2 y => .inr (.inr (.inr ?_))⟩⟩
    · rw [show (Wk.mk (l.map fun p => D.tup [p.1, p.2]) _).ds.length = kvs.length from (List.length_map _).trans hkv.length.symm]; exact walk_itemsT
    · obtain ⟨T, k, v, q, e2, e3, e4, e5, e6⟩ := y
      obtain ⟨dd, e7, e8⟩ := hkv.at_ e2
      have e : (l.map fun p => D.tup [p.1, p.2])[i']? = some d' := e
      rw [List.getElem?_map, e7] at e
      cases e
      obtain ⟨F3, R3, g3, hT⟩ := R2.catch e4
      obtain ⟨R4, g4⟩ := R3.new (u := .tup [.ref q, v]) e5
      subst e3 e6
      refine ⟨_, R4, g3.trans g4, .tup upd_same (.cons (.tup (g4.ff _ _ hT) (repL_kT k)) (.cons ((e8.mono (g2.trans g3).ff (g2.trans g3).mm).mono g4.ff g4.mm) .nil))⟩
/-! pop -/
def oDPopT (x y : D) (A : Hs) : RE D := match x with
  | .ref i => match A[i]? with
    | some (.dic true false l) => if keyOk true y = true then match kget l y with
      | some d => .ok d (A.set i (.dic true false (kdel l y)))
      | none => .stuck
      else .stuck
    | _ => .stuck
  | _ => .stuck
def oDPopT2 (x y z : D) (A : Hs) : RE D := match x with
  | .ref i => match A[i]? with
    | some (.dic true false l) => if keyOk true y = true then match kget l y with
      | some d => .ok d (A.set i (.dic true false (kdel l y)))
      | none => .ok z A
      else .stuck
    | _ => .stuck
  | _ => .stuck
def isDicU (A : Hs) : D → Bool
  | .ref i => match A[i]? with
    | some (.dic _ false _) => true
    | _ => false
  | _ => false
theorem tyD_at (R : Rl K ca F m A H) (r : Rep K ca F m x dx) (q : isDicU A dx = true) : tyV K "dict" x H := by
  unfold isDicU at q
  split at q
  · rename_i i
    split at q
    · rename_i t l hA
      obtain ⟨aa, e, ha, h⟩ := R.at hA r
      subst e
      cases t with
      | false => obtain ⟨kvs, h1, _⟩ := h; exact .inr (.inr (.inl ⟨rfl, .inl ⟨kvs, h1⟩⟩))
      | true => obtain ⟨kvs, h1, _⟩ := h; exact .inr (.inr (.inl ⟨rfl, .inr ⟨kvs, h1⟩⟩))
    · cases q
  · cases q
theorem dT_at {l : List (D × D)} {t : Nat} (R : Rl K ca F m A H) (rx : Rep K ca F m x (.ref t)) (hA : A[t]? = some (.dic true false l)) : ∃ a kvs, x = .ref a ∧ m[t]? = some a ∧ H a = some (.dT kvs) ∧ KvR K ca F m kT kvs l := by
  obtain ⟨a, e, ha, r⟩ := R.at hA rx
  obtain ⟨kvs, h1, h2⟩ := r
  exact ⟨a, kvs, e, ha, h1, h2⟩
theorem keyT_inv (h : keyOk true dy = true) : ∃ ks : List Key, dy = kT ks := by
  cases dy with
  | tup l =>
    obtain ⟨ks, hk⟩ := Option.isSome_iff_exists.mp h
    exact ⟨ks, by unfold kT; rw [keysK_kT hk]⟩
  | _ => cases h
theorem repL_kT_inv : ∀ {ks : List Key} {vs : List V}, RepL K ca F m vs (ks.map kD) → vs = ks.map kV
  | [], _, h => by cases h; rfl
  | k :: ks, _, h => by
    cases h with
    | cons r t => rw [kV_of r, repL_kT_inv t]; rfl
theorem kT_at {ks : List Key} (R : Rl K ca F m A H) (r : Rep K ca F m y (kT ks)) : ∃ b, y = .ref b ∧ H b = some (.tup (ks.map kV)) := by
  unfold kT at r
  cases r with
  | tup s rs =>
    rw [repL_kT_inv rs] at s
    exact ⟨_, rfl, R.fh _ _ s⟩
theorem dT_drop {ks : List Key} {l : List (D × D)} {t : Nat} {aa : Addr} {kvs : List (List Key × V)} (R : Rl K ca F m A H) (ha : m[t]? = some aa) (h1 : H aa = some (.dT kvs)) (h2 : KvR K ca F m kT kvs l) : Rl K ca F m (A.set t (.dic true false (kdel l (kT ks)))) (upd H aa (.dT (dropK kvs ks))) ∧ Stp F m H F m (upd H aa (.dT (dropK kvs ks))) :=
  R.put (u := .dT (dropK kvs ks)) (o' := .dic true false (kdel l (kT ks))) ha (fun od w z => by rw [h1] at z; cases z) ⟨_, upd_same, kdel_rep keq_kT h2⟩
def eBD (o : D → List D → Hs → RE D) (a : E) (as : As) : E := fun env A => (a env A).bind fun x A1 => if isDicU A1 x = true then (as env A1).bind fun ds A2 => o x ds A2 else .stuck
theorem se_bd {r : V → List V → Hp → VK → Prop} {o : D → List D → Hs → RE D} (h : MbS K ca r o) (ha : SimE K ca W ta a) (hs : SimA K ca W ts as) : SimE K ca W (tBM K "dict" r ta ts) (eBD o a as) := fun F m A σ H env Q R S p =>
  ha.bind R S p fun F1 m1 A1 H1 x dx R1 g1 S1 rx p1 => by
    by_cases q : isDicU A1 dx = true
    · rw [if_pos q] at p1
      exact ⟨tyD_at R1 rx q, hs.bind R1 S1 p1 fun F2 m2 A2 H2 vs ds R2 g2 S2 rs p2 => h F2 m2 A2 H2 x dx vs ds W σ Q R2 (rx.mono g2.ff g2.mm) rs p2⟩
    · rw [if_neg q] at p1; exact p1.elim
def d1_ (f : D → D → Hs → RE D) (x : D) : List D → Hs → RE D
  | [y], A => f x y A
  | _, _ => .stuck
def d2_ (f : D → D → D → Hs → RE D) (x : D) : List D → Hs → RE D
  | [y, z], A => f x y z A
  | _, _ => .stuck
theorem ms_popT1 : MbS K ca rPopT1 (d1_ oDPopT) := fun F m A H x dx xs ds W σ Q R rx rs p => by
  match ds, rs, p with
  | [], _, p => exact p.elim
  | _ :: _ :: _, _, p => exact p.elim
  | [dy], .cons ry .nil, p =>
    have p : Po K ca (Rep K ca) F m H W σ Q (oDPopT dx dy A) := p
    unfold oDPopT at p
    split at p
    · rename_i i
      split at p
      · rename_i l hA
        split at p
        · rename_i hk
          obtain ⟨ks, rfl⟩ := keyT_inv hk
          split at p
          · rename_i d hg
            obtain ⟨aa, kvs, e, ha, h1, h2⟩ := dT_at R rx hA
            subst e
            obtain ⟨b, e2, hb⟩ := kT_at R ry
            subst e2
            obtain ⟨v, g1, g2⟩ := (kget_rep keq_kT (k := ks) h2).1 d hg
            obtain ⟨R2, s2⟩ := dT_drop (ks := ks) R ha h1 h2
            exact ⟨aa, kvs, ks, b, v, rfl, rfl, h1, hb, g1, p v F m _ R2 s2 g2⟩
          · exact p.elim
        · exact p.elim
      · exact p.elim
    · exact p.elim
/-! setdefault -/
def oDSetd (x y z : D) (A : Hs) : RE D := match x with
  | .ref i => match A[i]? with
    | some (.dic false false l) => if (keyK y).isSome = true ∧ l.length < sizeLine then match kget l y with
      | some d => .ok d A
      | none => .ok z (A.set i (.dic false false (kput l y z)))
      else .stuck
    | _ => .stuck
  | _ => .stuck
def eDSetd (a b c : E) : E := fun env A => (a env A).bind fun x A1 => if isDic A1 x then (b env A1).bind fun y A2 => (c env A2).bind fun z A3 => oDSetd x y z A3 else .stuck
theorem se_dsetd (ho : SimE K ca W to a) (hi : SimE K ca W ti b) (hz : SimE K ca W tz c) : SimE K ca W (tDSetd to ti tz) (eDSetd a b c) := fun F m A σ H env Q R S p =>
  ho.bind R S p fun F1 m1 A1 H1 x dx R1 g1 S1 rx p1 => by
    by_cases q : isDic A1 dx = true
    · rw [if_pos q] at p1
      obtain ⟨aa, e1, h1⟩ := isD_of R1 rx q
      refine ⟨aa, e1, h1, hi.bind R1 S1 p1 fun F2 m2 A2 H2 y dy R2 g2 S2 ry p2 => hz.bind R2 S2 p2 fun F3 m3 A3 H3 z dz R3 g3 S3 rz p3 => ?_⟩
      unfold oDSetd at p3
      split at p3
      · rename_i i
        split at p3
        · rename_i l hA
          split at p3
          · rename_i hk
            obtain ⟨kk, hk1⟩ := Option.isSome_iff_exists.mp hk.1
            have e2 := keyK_kD hk1
            subst e2
            obtain ⟨a2, kvs, e3, ha, h3, h4⟩ := dk_at R3 (rx.mono (g2.trans g3).ff (g2.trans g3).mm) hA
            rw [e1] at e3; cases e3
            obtain ⟨k1, k2⟩ := kget_rep keq_kD (k := kk) h4
            refine ⟨kvs, kk, h3, kV_of (ry.mono g3.ff g3.mm), by rw [h4.length]; exact hk.2, fun v hv => ?_, fun hv => ?_⟩
            · split at p3
              · rename_i d hg
                obtain ⟨v2, q1, q2⟩ := k1 d hg
                rw [hv] at q1; cases q1
                exact po_ok R3 q2 p3
              · rename_i hg
                rw [k2 hg] at hv; cases hv
            · split at p3
              · rename_i d hg
                obtain ⟨v2, q1, q2⟩ := k1 d hg
                rw [hv] at q1; cases q1
              · obtain ⟨R4, s4⟩ := R3.put (u := .dK (putK kvs kk z)) (o' := .dic false false (kput l (kD kk) dz)) ha (fun od w z => by rw [h3] at z; cases z) ⟨_, upd_same, kput_rep keq_kD rz h4⟩
                exact p3 z F3 m3 _ R4 s4 rz
          · exact p3.elim
        · exact p3.elim
      · exact p3.elim
    · rw [if_neg q] at p1; exact p1.elim
/-! list(d) -/
def oListT (x : D) (A : Hs) : RE D := match x with
  | .ref i => match A[i]? with
    | some (.dic true _ l) => alloc A (.lst (l.map Prod.fst))
    | _ => .stuck
  | _ => .stuck
def rListT : List V → Hp → VK → Prop := fun xs H Q => ∃ d kvs, xs = [V.ref d] ∧ Rd H d (.dT kvs) ∧ ∀ p bs, H p = none → IsKeys H kvs bs → Q (.ref p) (upd H p (.lst (bs.map V.ref)))
theorem keys_catch : ∀ {kvs : List (List Key × V)} {l : List (D × D)} {bs : List Addr} {F : Hp}, Rl K ca F m A H → KvR K ca F m kT kvs l → IsKeys H kvs bs → ∃ F1, Rl K ca F1 m A H ∧ Stp F m H F1 m H ∧ RepL K ca F1 m (bs.map V.ref) (l.map Prod.fst) := by
  intro kvs
  induction kvs with
  | nil =>
    intro l bs F R hkv hk
    cases hkv
    cases hk
    exact ⟨F, R, Stp.refl, .nil⟩
  | cons q kvs ih =>
    intro l bs F R hkv hk
    cases hkv with
    | cons r t =>
      cases hk with
      | cons h1 h2 =>
        obtain ⟨F1, R1, g1, hT⟩ := R.catch h1
        obtain ⟨F2, R2, g2, rs⟩ := ih R1 (t.mono g1.ff g1.mm) h2
        exact ⟨F2, R2, g1.trans g2, .cons (.tup (g2.ff _ _ hT) (repL_kT _)) rs⟩
theorem cs_listT : CbS K ca rListT (c1 oListT) := cs_1 fun F m A H x dx W σ Q R rx p => by
  unfold oListT at p
  split at p
  · rename_i i
    split at p
    · rename_i lk l hA
      obtain ⟨ad, e, ha, kvs, h1, h2⟩ := R.at hA rx
      subst e
      have hrd : Rd H ad (.dT kvs) := by
        cases lk with
        | false => exact .inl h1
        | true => obtain ⟨od, h1⟩ := h1; exact .inr ⟨od, h1⟩
      refine ⟨ad, kvs, rfl, hrd, fun q bs hq hk => ?_⟩
      obtain ⟨F1, R1, g1, rs⟩ := keys_catch R h2 hk
      obtain ⟨R2, g2, hm⟩ := R1.alloc (u := .lst (bs.map V.ref)) (o := .lst (l.map Prod.fst)) hq ⟨_, upd_same, rs.mono (Ex.refl _) ⟨_, rfl⟩⟩
      exact p _ _ _ _ R2 (g1.trans g2) hm
    · exact p.elim
  · exact p.elim
end
/-! for plain proofs -/
section
variable {A : Hs} {i : Nat} {env : Sl} {x y z d : D} {t lk gt : Bool} {l : List (D × D)} {a b c : E} {as : As} {ds : List D} {o : D → List D → Hs → RE D} {o2 : D → D → Hs → RE D}
theorem z5z : wkVT A (.ref i) = wd_ A i (fun t l => if t = true then some (l.map Prod.snd) else none) A[i]? := rfl
theorem z5g : wkIT A (.ref i) = wd_ A i (fun t l => if t = true then some (l.map fun p => .tup [p.1, p.2]) else none) A[i]? := rfl
theorem zaj : eBD o a as env A = (a env A).bind fun x A1 => if isDicU A1 x = true then (as env A1).bind fun ds A2 => o x ds A2 else .stuck := rfl
def idu_ : Option O → Bool
  | some (.dic _ false _) => true
  | _ => false
theorem z26 : isDicU A (.ref i) = idu_ A[i]? := by
  unfold isDicU idu_
  cases h : A[i]? with
  | none => simp only [h]
  | some u =>
    simp only [h] <;> (cases u with
    | dic t lk l => cases lk <;> rfl
    | _ => rfl)
theorem z7j : idu_ (some (.dic t false l)) = true := rfl
theorem zaq {f : D → D → Hs → RE D} : d1_ f x [y] A = f x y A := rfl
theorem zah {f : D → D → D → Hs → RE D} : d2_ f x [y, z] A = f x y z A := rfl
def dpT_ (A : Hs) (i : Nat) (y : D) : Option O → RE D
  | some (.dic true false l) => if keyOk true y = true then match kget l y with
    | some d => .ok d (A.set i (.dic true false (kdel l y)))
    | none => .stuck
    else .stuck
  | _ => .stuck
theorem z2x : oDPopT (.ref i) y A = dpT_ A i y A[i]? := by
  unfold oDPopT dpT_
  cases h : A[i]? with
  | none => simp only [h]
  | some u =>
    simp only [h] <;> (cases u with
    | dic t lk l => cases t <;> cases lk <;> rfl
    | _ => rfl)
theorem z7t {d : D} (hk : keyOk true y = true) (h : kget l y = some d) : dpT_ A i y (some (.dic true false l)) = .ok d (A.set i (.dic true false (kdel l y))) := by
  unfold dpT_
  simp only
  rw [if_pos hk, h]
def dpT2_ (A : Hs) (i : Nat) (y z : D) : Option O → RE D
  | some (.dic true false l) => if keyOk true y = true then match kget l y with
    | some d => .ok d (A.set i (.dic true false (kdel l y)))
    | none => .ok z A
    else .stuck
  | _ => .stuck
theorem z16 : oDPopT2 (.ref i) y z A = dpT2_ A i y z A[i]? := by
  unfold oDPopT2 dpT2_
  cases h : A[i]? with
  | none => simp only [h]
  | some u =>
    simp only [h] <;> (cases u with
    | dic t lk l => cases t <;> cases lk <;> rfl
    | _ => rfl)
theorem z6l {d : D} (hk : keyOk true y = true) (h : kget l y = some d) : dpT2_ A i y z (some (.dic true false l)) = .ok d (A.set i (.dic true false (kdel l y))) := by
  unfold dpT2_
  simp only
  rw [if_pos hk, h]
theorem z5i (hk : keyOk true y = true) (h : kget l y = none) : dpT2_ A i y z (some (.dic true false l)) = .ok z A := by
  unfold dpT2_
  simp only
  rw [if_pos hk, h]
theorem z4u : eDSetd a b c env A = (a env A).bind fun x A1 => if isDic A1 x = true then (b env A1).bind fun y A2 => (c env A2).bind fun z A3 => oDSetd x y z A3 else .stuck := rfl
def dsd_ (A : Hs) (i : Nat) (y z : D) : Option O → RE D
  | some (.dic false false l) => if (keyK y).isSome = true ∧ l.length < sizeLine then match kget l y with
    | some d => .ok d A
    | none => .ok z (A.set i (.dic false false (kput l y z)))
    else .stuck
  | _ => .stuck
theorem z2t : oDSetd (.ref i) y z A = dsd_ A i y z A[i]? := by
  unfold oDSetd dsd_
  cases h : A[i]? with
  | none => simp only [h]
  | some u =>
    simp only [h] <;> (cases u with
    | dic t lk l => cases t <;> cases lk <;> rfl
    | _ => rfl)
theorem z95 {d : D} (hk : (keyK y).isSome = true) (hl : l.length < 16000000) (h : kget l y = some d) : dsd_ A i y z (some (.dic false false l)) = .ok d A := by
  unfold dsd_
  simp only
  rw [if_pos ⟨hk, Nat.lt_of_lt_of_le hl (by rw [sizeLine_eq]; decide)⟩, h]
theorem z8m (hk : (keyK y).isSome = true) (hl : l.length < 16000000) (h : kget l y = none) : dsd_ A i y z (some (.dic false false l)) = .ok z (A.set i (.dic false false (kput l y z))) := by
  unfold dsd_
  simp only
  rw [if_pos ⟨hk, Nat.lt_of_lt_of_le hl (by rw [sizeLine_eq]; decide)⟩, h]
theorem zae : eCK o2 a b env A = (a env A).bind fun x A1 => (b env A1).bind fun y A2 => o2 x y A2 := rfl
def mxd_ (z : D) (A : Hs) : Option O → RE D
  | some (.dic false false l) => match intsOf (l.map Prod.fst) with
    | some [] => .ok z A
    | some ns => .ok (.int (mx ns)) A
    | none => .stuck
  | _ => .stuck
theorem z1a : oMaxKDf (.ref i) z A = mxd_ z A A[i]? := by
  unfold oMaxKDf mxd_
  cases h : A[i]? with
  | none => simp only [h]
  | some u =>
    simp only [h] <;> (cases u with
    | dic t lk l => cases t <;> cases lk <;> first | rfl | (simp only; cases intsOf (l.map Prod.fst) with | none => rfl | some ns => cases ns <;> rfl)
    | _ => rfl)
theorem z7n : mxd_ z A (some (.dic false false [])) = .ok z A := rfl
theorem z7f {ns : List Int} (h : l.map Prod.fst = ns.map D.int) (hn : ns ≠ []) : mxd_ z A (some (.dic false false l)) = .ok (.int (mx ns)) A := by
  unfold mxd_
  simp only
  rw [h, z09]
  cases ns with
  | nil => exact absurd rfl hn
  | cons n ns => rfl
def lT_ (A : Hs) : Option O → RE D
  | some (.dic true _ l) => .ok (.ref A.length) (A ++ [.lst (l.map Prod.fst)])
  | _ => .stuck
theorem z2s : oListT (.ref i) A = lT_ A A[i]? := by
  unfold oListT lT_
  cases h : A[i]? with
  | none => simp only [h]
  | some u =>
    simp only [h] <;> (cases u with
    | dic t lk l => cases t <;> cases lk <;> rfl
    | _ => rfl)
theorem z9q : lT_ A (some (.dic true lk l)) = .ok (.ref A.length) (A ++ [.lst (l.map Prod.fst)]) := rfl
end
end SM

/-! ## dicts with tuple keys: setdefault -/
namespace L2
open PySem PySem.Spec PySem.Calls PyProof.Rows PyProof.V
end L2
namespace SM
open PySem L2
open DL (Ex ExK)
section
variable {K : PySem.W.Frag} {ca : CaT} {F : Hp} {H : Hp} {m : List Addr} {A : Hs} {σ : L2.St} {env : Sl} {W : WX} {Q : VK} {i : Nat} {d x y z : D} {l : List (D × D)}
def oDSetdT (x y z : D) (A : Hs) : RE D := match x with
  | .ref i => match A[i]? with
    | some (.dic true false l) => if keyOk true y = true ∧ l.length < sizeLine then match kget l y with
      | some d => .ok d A
      | none => .ok z (A.set i (.dic true false (kput l y z)))
      else .stuck
    | _ => .stuck
  | _ => .stuck
def dst_ (A : Hs) (i : Nat) (y z : D) : Option O → RE D
  | some (.dic true false l) => if keyOk true y = true ∧ l.length < sizeLine then match kget l y with
    | some d => .ok d A
    | none => .ok z (A.set i (.dic true false (kput l y z)))
    else .stuck
  | _ => .stuck
theorem z0q : oDSetdT (.ref i) y z A = dst_ A i y z A[i]? := by
  unfold oDSetdT dst_
  cases h : A[i]? with
  | none => simp only [h]
  | some u =>
    simp only [h] <;> (cases u with
    | dic t lk l => cases t <;> cases lk <;> rfl
    | _ => rfl)
theorem z85 {d : D} (hk : keyOk true y = true) (hl : l.length < 16000000) (h : kget l y = some d) : dst_ A i y z (some (.dic true false l)) = .ok d A := by
  unfold dst_
  simp only
  rw [if_pos ⟨hk, Nat.lt_of_lt_of_le hl (by rw [sizeLine_eq]; decide)⟩, h]
theorem z8p (hk : keyOk true y = true) (hl : l.length < 16000000) (h : kget l y = none) : dst_ A i y z (some (.dic true false l)) = .ok z (A.set i (.dic true false (kput l y z))) := by
  unfold dst_
  simp only
  rw [if_pos ⟨hk, Nat.lt_of_lt_of_le hl (by rw [sizeLine_eq]; decide)⟩, h]
end
end SM

/-! ## d.update(pairs) -/
namespace L2
open PySem PySem.Spec PySem.Calls PyProof.Rows PyProof.V
theorem pairs_of2 {X : Cx} {pins : List (Addr × Obj)} {σ : St} {H : Hp} {s : Shared} (I : Inv X pins σ H s) : ∀ {ps : List Addr} {kvs : List (Key × V)}, Paired (fun p kv => SqT X.K H p [kV kv.1, kv.2]) ps kvs →
    ∃ (prs : List (Key × Value)) (us : List (Value × Value)), KV kvs prs ∧ prs.length = ps.length ∧ us.length = ps.length ∧ ∀ (j : Nat) (q : Key × Value), prs[j]? = some q → ∃ (b : Addr) (u : Value), ps[j]? = some b ∧ us[j]? = some (u, q.2) ∧ IsTup s.heap b #[u, q.2] ∧ keyIs q.1 u = true
  | _, _, .nil => ⟨[], [], .nil, rfl, rfl, fun j q e => by simp at e⟩
  | _, _, .cons (a := p) (b := kv) h t => by
    obtain ⟨prs, us, r, hl, hl2, hp⟩ := pairs_of2 I t
    obtain ⟨its, rv, ht, _⟩ := I.tuple h
    obtain ⟨u, y, ei, ru, ry⟩ := vals2 rv
    subst ei
    refine ⟨(kv.1, y) :: prs, (u, y) :: us, .cons ⟨rfl, ry⟩ r, by rw [List.length_cons, List.length_cons, hl], by rw [List.length_cons, List.length_cons, hl2], fun j q e => ?_⟩
    cases j with
    | zero =>
      have e' : (kv.1, y) = q := Option.some.inj e
      subst e'
      exact ⟨p, u, rfl, rfl, ht, kV_is (P := X.prog) (w := X.w) ru⟩
    | succ j =>
      obtain ⟨b, u', e1, e2, e3, e4⟩ := hp j q (by simpa using e)
      exact ⟨b, u', by simpa using e1, by simpa using e2, e3, e4⟩
def rUpdK (K : PySem.W.Frag) : V → List V → Hp → VK → Prop := fun x xs H Q => ∃ (a b : Addr) (acc : List (Key × V)) (ps : List Addr) (kvs : List (Key × V)), x = .ref a ∧ xs = [.ref b] ∧ H a = some (.dK acc) ∧ SqL K H b (ps.map V.ref) ∧ Paired (fun p kv => SqT K H p [kV kv.1, kv.2]) ps kvs ∧
  acc.length + kvs.length ≤ sizeLine ∧ Q .non (upd H a (.dK (mergeK acc kvs)))
theorem mt_updK {X : Cx} {K : PySem.W.Frag} (hcalm : X.calm = true) (e : X.K = K := by rfl) : MtR X "dict.update" (rUpdK K) := by
  subst e
  intro pins s σ H x xs v us Q I rx rxs h
  obtain ⟨a, b, acc, ps, kvs, rfl, rfl, ha, hq, hp, hsz, q⟩ := h
  cases rx
  have := Vals.ref1 rxs
  subst this
  obtain ⟨its, rv, pl, hz⟩ := I.list hq
  have ei := refs_at rv
  subst ei
  rw [List.length_map] at hz
  obtain ⟨prs, us, rel, hl, hl2, hpr⟩ := pairs_of2 I hp
  obtain ⟨o, n, ho, hc, hd, hdat⟩ := pl
  obtain ⟨z, hd0, vs, relA, dd⟩ := dk_of I.hok ha
  have lk := rel.length
  have la := relA.length
  have hmem : ∀ j, j < us.length → ∃ (q : Key × Value) (b' : Addr) (u : Value), prs[j]? = some q ∧ ps[j]? = some b' ∧ us[j]? = some (u, q.2) ∧ IsTup s.heap b' #[u, q.2] ∧ keyIs q.1 u = true := by
    intro j hj
    have hj2 : j < prs.length := by omega
    obtain ⟨b', u, e1, e2, e3, e4⟩ := hpr j prs[j] (List.getElem?_eq_getElem hj2)
    exact ⟨prs[j], b', u, List.getElem?_eq_getElem hj2, e1, e2, e3, e4⟩
  have items : PairItems s.heap ((ps.map Value.ref).toArray) (fun j => (ps[j]?).getD 0) us := by
    refine ⟨by simp [hl2], fun j k v hj => ?_⟩
    obtain ⟨q', b', u, e0, e1, e2, e3, e4⟩ := hmem j (List.getElem?_eq_some_iff.mp hj).1
    rw [e2] at hj
    cases hj
    obtain ⟨o', h1, h2, n', h3⟩ := e3
    refine ⟨by simp [e1], .inl ?_⟩
    show s.heap.IsTuple ((ps[j]?).getD 0) #[_, _]
    rw [e1]
    exact ⟨o', h1, h2, n', h3⟩
  have hdf : a ∉ b :: (List.range us.length).map fun j => (ps[j]?).getD 0 := by
    intro hm
    obtain ⟨o1, h1, c1⟩ := dd.typeIs
    rcases List.mem_cons.mp hm with e | hm
    · subst e
      rw [ho] at h1
      cases h1
      rw [hc] at c1
      injection c1 with c1
      exact absurd c1 (by decide)
    · obtain ⟨j, hj, e⟩ := List.mem_map.mp hm
      obtain ⟨q', b', u, e0, e1, e2, e3, e4⟩ := hmem j (List.mem_range.mp hj)
      rw [e1] at e
      have e : b' = a := e
      subst e
      obtain ⟨o', g1, g2, _⟩ := e3
      rw [g1] at h1
      cases h1
      rw [g2] at c1
      injection c1 with c1
      exact absurd c1 (by decide)
  refine call_update_pairs (knd := mixKind X.prog X.w) (acc := vs) (kvs := prs) (PairArg.list b _ (fun j => (ps[j]?).getD 0) us) (I.ok.hd hcalm) ⟨⟨o, n, ho, hc, hd, hdat⟩, items⟩ hdf ⟨by omega, fun i key v hr => ?_⟩ dd (by omega) fun h' tk dd' hk => ?_
  · have hr : us[i]? = some (key, v) := hr
    obtain ⟨q', b', u, e0, e1, e2, e3, e4⟩ := hmem i (List.getElem?_eq_some_iff.mp hr).1
    rw [e2] at hr
    cases hr
    exact ⟨q'.1, e0, e4⟩
  · have hlen : (mergeK acc kvs).length ≤ sizeLine := Nat.le_trans (length_mergeK kvs acc) hsz
    have he : ∃ q, h'.get? a = some q := let ⟨q, _, _, hq, _⟩ := dd'; ⟨q, hq⟩
    have I2 : Inv X pins σ (upd H a (.dK (mergeK acc kvs))) { s with heap := h', toks := tk } :=
      I.write (x := a) (e := a) (by rw [ha]; exact True.intro) (.inl rfl) (fun b' q hb' z => hk b' q hb' (by simp) z) he (dk_new hlen hd0 (KV.merge rel relA) dd')
    show EP X pins σ Q Value.none _
    exact ⟨.non, _, I2, rfl, q⟩
end L2
namespace SM
open PySem L2
open DL (Ex ExK)
section
variable {K : PySem.W.Frag} {ca : CaT} {F : Hp} {H : Hp} {m : List Addr} {A : Hs} {σ : L2.St} {env : Sl} {W : WX} {Q : VK} {i j : Nat} {d x y z : D} {l : List (D × D)}
def oUpdK (x y : D) (A : Hs) : RE D := match x, y with
  | .ref i, .ref j => match A[i]?, A[j]? with
    | some (.dic false false l), some (.lst r) => match pairsD r with
      | some qs => if l.length + qs.length ≤ sizeLine then .ok .non (A.set i (.dic false false (kmerge l qs))) else .stuck
      | none => .stuck
    | _, _ => .stuck
  | _, _ => .stuck
theorem ms_updK : MbS K ca (rUpdK K) (d1_ oUpdK) := fun F m A H x dx xs ds W σ Q R rx rs p => by
  match ds, rs, p with
  | [], _, p => exact p.elim
  | _ :: _ :: _, _, p => exact p.elim
  | [dy], .cons ry .nil, p =>
    have p : Po K ca (Rep K ca) F m H W σ Q (oUpdK dx dy A) := p
    unfold oUpdK at p
    split at p
    · rename_i i j
      split at p
      · rename_i l r hA hB
        split at p
        · rename_i qs hqs
          split at p
          · rename_i hsz
            obtain ⟨aa, kvs, e, ha, h1, h2⟩ := dk_at R rx hA
            subst e
            obtain ⟨ad, e, hd, vs, h3, h4⟩ := R.at hB ry
            subst e
            obtain ⟨ps, kv2, e1, e2, e3⟩ := pairs_rep R h4 hqs
            subst e1
            obtain ⟨R4, s4⟩ := R.put (u := .dK (mergeK kvs kv2)) (o' := .dic false false (kmerge l qs)) ha (fun od w z => by rw [h1] at z; cases z) ⟨_, upd_same, kmerge_rep e3 h2⟩
            exact ⟨aa, ad, kvs, ps, kv2, rfl, rfl, h1, .inl (.inl h3), e2, by rw [h2.length, e3.length]; exact hsz, p .non F m _ R4 s4 .non⟩
          · exact p.elim
        · exact p.elim
      · exact p.elim
    · exact p.elim
def up_ (A : Hs) (i : Nat) : Option O → Option O → RE D
  | some (.dic false false l), some (.lst r) => match pairsD r with
    | some qs => if l.length + qs.length ≤ sizeLine then .ok .non (A.set i (.dic false false (kmerge l qs))) else .stuck
    | none => .stuck
  | _, _ => .stuck
theorem z3k : oUpdK (.ref i) (.ref j) A = up_ A i A[i]? A[j]? := by
  unfold oUpdK up_
  cases h : A[i]? with
  | none => simp only [h]
  | some u =>
    cases k : A[j]? with
    | none => simp only [h, k]
    | some w => simp only [h, k] <;> first | done | (cases u with
      | dic t lk l => cases t <;> cases lk <;> cases w <;> rfl
      | _ => cases w <;> rfl)
theorem za6 {r : List D} {qs : List (D × D)} (h : pairsD r = some qs) (hl : l.length + qs.length ≤ 16000000) : up_ A i (some (.dic false false l)) (some (.lst r)) = .ok .non (A.set i (.dic false false (kmerge l qs))) := by
  unfold up_
  simp only
  rw [h]
  simp only
  rw [if_pos (Nat.le_trans hl (by rw [sizeLine_eq]; decide))]
end
end SM

namespace DL
open PySem L2
/-! ### division of rows of bits (polynomials over two elements), in plain Lean -/
def bl (n : Nat) : Nat := if n = 0 then 0 else n.log2 + 1
theorem bl_le {n m : Nat} : bl n ≤ m ↔ n < 2 ^ m := by
  unfold bl
  by_cases h : n = 0
  · subst h
    simp [Nat.two_pow_pos]
  · rw [if_neg h]
    exact (Nat.succ_le_iff).trans (Nat.log2_lt h)
theorem bl_lt {n m : Nat} : bl n < m ↔ n < 2 ^ (m - 1) ∧ 0 < m := by
  cases m with
  | zero => simp
  | succ m => rw [Nat.lt_succ_iff, bl_le]; simp
theorem lt_bl (n : Nat) : n < 2 ^ bl n := bl_le.mp (Nat.le_refl _)
theorem bl_ge {n : Nat} (h : n ≠ 0) : 2 ^ (bl n - 1) ≤ n := by
  apply Nat.le_of_not_lt
  intro q
  have := bl_le.mpr q
  have : bl n ≠ 0 := by unfold bl; rw [if_neg h]; omega
  omega
theorem bl_pos {n : Nat} (h : n ≠ 0) : 0 < bl n := by unfold bl; rw [if_neg h]; omega
theorem top_bit {x m : Nat} (h1 : 2 ^ m ≤ x) (h2 : x < 2 ^ (m + 1)) : x.testBit m = true := by
  rw [Nat.testBit_eq_decide_div_mod_eq]
  have : x / 2 ^ m = 1 := by
    rw [Nat.pow_succ] at h2
    have hp := Nat.two_pow_pos m
    apply Nat.div_eq_of_lt_le <;> omega
  rw [this]; rfl
theorem shl_range {c k : Nat} (hc : c ≠ 0) : 2 ^ (bl c - 1 + k) ≤ c <<< k ∧ c <<< k < 2 ^ (bl c - 1 + k + 1) := by
  rw [Nat.shiftLeft_eq, Nat.pow_add]
  have h1 := bl_ge hc
  have h2 := lt_bl c
  have hp := bl_pos hc
  refine ⟨Nat.mul_le_mul_right _ h1, ?_⟩
  rw [show bl c - 1 + k + 1 = bl c + k by omega, Nat.pow_add]
  exact Nat.mul_lt_mul_of_pos_right h2 (Nat.two_pow_pos k)
/-- the sums of c, shifted by less than K -/
def Sp (c : Nat) : Nat → Nat → Prop
  | 0, x => x = 0
  | K + 1, x => Sp c K x ∨ Sp c K (x ^^^ c <<< K)
theorem Sp.more {c K x : Nat} (h : Sp c K x) : Sp c (K + 1) x := .inl h
theorem Sp.mono {c x : Nat} : ∀ {K L : Nat}, K ≤ L → Sp c K x → Sp c L x := fun {K L} h s => by
  induction h with
  | refl => exact s
  | step _ ih => exact ih.more
theorem Sp.zero {c : Nat} : ∀ K, Sp c K 0
  | 0 => rfl
  | K + 1 => .inl (Sp.zero K)
theorem Sp.one {c k : Nat} : Sp c (k + 1) (c <<< k) := by
  refine .inr ?_
  rw [Nat.xor_self]
  exact Sp.zero k
theorem Sp.lt {c : Nat} (hc : c ≠ 0) : ∀ {K x : Nat}, Sp c K x → x < 2 ^ (bl c - 1 + K)
  | 0, x, h => by
    have h : x = 0 := h
    subst h; exact Nat.two_pow_pos _
  | K + 1, x, h => by
    rcases h with h | h
    · exact Nat.lt_of_lt_of_le (Sp.lt hc h) (Nat.pow_le_pow_right (by decide) (by omega))
    · have h1 := Nat.lt_of_lt_of_le (Sp.lt hc h) (Nat.pow_le_pow_right (by decide) (show bl c - 1 + K ≤ bl c - 1 + (K + 1) by omega))
      have h2 := (shl_range (k := K) hc).2
      have e : x = (x ^^^ c <<< K) ^^^ c <<< K := by rw [Nat.xor_assoc, Nat.xor_self, Nat.xor_zero]
      rw [e]
      exact Nat.xor_lt_two_pow h1 (by rw [show bl c - 1 + (K + 1) = bl c - 1 + K + 1 by omega]; exact h2)
/-- a sum that is no nought is as wide as c at the least -/
theorem Sp.wide {c : Nat} (hc : c ≠ 0) : ∀ {K x : Nat}, Sp c K x → x ≠ 0 → 2 ^ (bl c - 1) ≤ x
  | 0, x, h, n => absurd h n
  | K + 1, x, h, n => by
    rcases h with h | h
    · exact Sp.wide hc h n
    · have h1 := Sp.lt hc h
      have ⟨h2, h3⟩ := shl_range (k := K) hc
      have t : x.testBit (bl c - 1 + K) = true := by
        have e : x = (x ^^^ c <<< K) ^^^ c <<< K := by rw [Nat.xor_assoc, Nat.xor_self, Nat.xor_zero]
        rw [e, Nat.testBit_xor, Nat.testBit_lt_two_pow h1, top_bit h2 h3]; rfl
      have := Nat.ge_two_pow_of_testBit t
      exact Nat.le_trans (Nat.pow_le_pow_right (by decide) (by omega)) this
/-- the multiples of c -/
def Mu (c x : Nat) : Prop := ∃ K, Sp c K x
theorem Mu.zero {c : Nat} : Mu c 0 := ⟨0, rfl⟩
theorem Mu.one {c : Nat} (k : Nat) : Mu c (c <<< k) := ⟨k + 1, Sp.one⟩
theorem Mu.small {c x : Nat} (hc : c ≠ 0) (h : Mu c x) (hx : bl x < bl c) : x = 0 := by
  obtain ⟨K, h⟩ := h
  by_cases z : x = 0
  · exact z
  · have := h.wide hc z
    have := (bl_lt.mp hx).1
    omega
def red (c : Nat) : Nat → Nat → Nat
  | 0, n => n
  | f + 1, n => if bl c ≤ bl n then red c f (n ^^^ c <<< (bl n - bl c)) else n
/-- the rest of n by c -/
def dv (c n : Nat) : Nat := red c (bl n) n
section
variable {c : Nat} (hc : c ≠ 0)
include hc
end
end DL
namespace DL
open PySem L2
/-- a row's number -/
def gN (l : List Int) : Nat := (gath l).toNat
end DL


namespace Kk
open PySem L2 SM
def os_ : List String := ["Heap", "Joiner", "Packet"]
def xs_ : List String := ["NoNumber", "NoPacket", "NoTick"]
def tb_ : List (String × String × Bool) := [("NoneType", "Packet", false), ("bool", "Packet", false), ("int", "Packet", false), ("str", "Packet", false), ("tuple", "Packet", false), ("list", "Packet", false), ("dict", "Packet", false), ("Heap", "Packet", false), ("Heap", "bool", false), ("Heap", "int", false), ("Heap", "tuple", false), ("Joiner", "Packet", false), ("Joiner", "bool", false), ("Joiner", "int", false), ("Joiner", "tuple", false), ("Packet", "Packet", true), ("Packet", "bool", false), ("Packet", "int", false), ("Packet", "tuple", false), ("NoNumber", "Packet", false), ("NoNumber", "bool", false), ("NoNumber", "int", false), ("NoNumber", "tuple", false), ("NoPacket", "Packet", false), ("NoPacket", "bool", false), ("NoPacket", "int", false), ("NoPacket", "tuple", false), ("NoTick", "Packet", false), ("NoTick", "bool", false), ("NoTick", "int", false), ("NoTick", "tuple", false)]
/- slots of need_many: 0=thing -/
noncomputable def F_need_many : Fn := mkFn 1 1
  (sIf (tOo (tOf (eCB (c2 (oIsi os_ xs_ tb_)) (aCons (eVar 0) (aCons (eC (.ty "bool")) aNil)))) (tOo (tNo (tOf (eCB (c2 (oIsi os_ xs_ tb_)) (aCons (eVar 0) (aCons (eC (.ty "int")) aNil))))) (tOf (eOp oLt (eVar 0) (eC (.int 1)))))) (sRaise "NoNumber") sNx)
/- slots of Joiner.__init__: 0=self 1=patience 2=room -/
noncomputable def F_Joiner___init__ : Fn := mkFn 3 3
  (sSeq (sDrop (eCall F_need_many (aCons (eVar 1) aNil))) (sSeq (sDrop (eCall F_need_many (aCons (eVar 2) aNil))) (sSeq (sFl ["Joiner"] "patience" (eVar 0) (eVar 1)) (sSeq (sFl ["Joiner"] "most_held" (eVar 0) (eVar 2)) (sSeq (sFl ["Joiner"] "last_tick" (eVar 0) (eC (.int 0))) (sFl ["Joiner"] "heaps" (eVar 0) (eDNew true)))))))
/- slots of _law_cell_at: 0=_law_script 1=_law_k -/
noncomputable def F_l_cell_at : Fn := mkFn 2 2
  (sSeq (sIf (tOf (eOp oLt (eVar 1) (eCB (c1 oLen) (aCons (eVar 0) aNil)))) (sRet (eOp oIx (eVar 0) (eVar 1))) sNx) (sRet (eC (.int 0))))
/- slots of Heap.__init__: 0=self 1=tick 2=life -/
noncomputable def F_Heap___init__ : Fn := mkFn 3 3
  (sSeq (sFl ["Heap"] "since" (eVar 0) (eVar 1)) (sSeq (sFl ["Heap"] "least_life" (eVar 0) (eVar 2)) (sSeq (sFl ["Heap"] "end_place" (eVar 0) (eC .non)) (sFl ["Heap"] "by_places" (eVar 0) (eDNew false)))))
/- slots of Heap.hold: 0=self 1=packet 2=k 3=byte 4=end -/
noncomputable def F_Heap_hold : Fn := mkFn 2 5
  (sSeq (sFl ["Heap"] "least_life" (eVar 0) (eCB (c2 oMin2) (aCons (eFld ["Heap"] "least_life" (eVar 0)) (aCons (eFld ["Packet"] "life" (eVar 1)) aNil)))) (sSeq (sFor (wOf wkEA (eFld ["Packet"] "data" (eVar 1))) (gT [(gN 2), (gN 3)]) (sDrop (eDSetd (eFld ["Heap"] "by_places" (eVar 0)) (eOp oAdd (eFld ["Packet"] "first" (eVar 1)) (eVar 2)) (eVar 3)))) (sSeq (sIf (tNo (tOf (eFld ["Packet"] "more" (eVar 1)))) (sSeq (sSet 4 (eOp oAdd (eFld ["Packet"] "first" (eVar 1)) (eCB (c1 oLen) (aCons (eFld ["Packet"] "data" (eVar 1)) aNil)))) (sSeq (sIf (tAn (tOf (eOp oIsNot (eFld ["Heap"] "end_place" (eVar 0)) (eC .non))) (tOf (eOp oNe (eFld ["Heap"] "end_place" (eVar 0)) (eVar 4)))) (sRet (eC (.bl false))) sNx) (sFl ["Heap"] "end_place" (eVar 0) (eVar 4)))) sNx) (sRet (eOr (eOp oIs (eFld ["Heap"] "end_place" (eVar 0)) (eC .non)) (eOp oLt (eCK oMaxKDf (eFld ["Heap"] "by_places" (eVar 0)) (eUn oNeg (eC (.int 1)))) (eFld ["Heap"] "end_place" (eVar 0))))))))
/- slots of Heap.is_there: 0=self -/
noncomputable def F_Heap_is_there : Fn := mkFn 1 1
  (sRet (eAnd (eOp oIsNot (eFld ["Heap"] "end_place" (eVar 0)) (eC .non)) (eOp oEq (eCB (c1 oLen) (aCons (eFld ["Heap"] "by_places" (eVar 0)) aNil)) (eFld ["Heap"] "end_place" (eVar 0)))))
/- slots of is_number: 0=thing 1=most -/
noncomputable def F_is_number : Fn := mkFn 2 2
  (sRet (eAnd (eCB (c2 (oIsi os_ xs_ tb_)) (aCons (eVar 0) (aCons (eC (.ty "int")) aNil))) (eAnd (eNot (eCB (c2 (oIsi os_ xs_ tb_)) (aCons (eVar 0) (aCons (eC (.ty "bool")) aNil)))) (eCh oLe oLe (eC (.int 0)) (eVar 0) (eVar 1)))))
/- slots of are_bytes: 0=thing 1=most 2=byte -/
noncomputable def F_are_bytes : Fn := mkFn 2 3
  (sRet (eAnd (eCB (c2 (oIsi os_ xs_ tb_)) (aCons (eVar 0) (aCons (eC (.ty "tuple")) aNil))) (eAnd (eOp oLe (eCB (c1 oLen) (aCons (eVar 0) aNil)) (eVar 1)) (eCB (c1 oAll) (aCons (eLc (wSeq (eVar 0)) (gN 2) tYe (eCall0 F_is_number (aCons (eVar 2) (aCons (eC (.int 255)) aNil))) [2]) aNil)))))
/- slots of Packet.__init__: 0=self 1=source 2=target 3=kind 4=life 5=name 6=first 7=more 8=data 9=thing -/
noncomputable def F_Packet___init__ : Fn := mkFn 9 10
  (sSeq (sIf (tNo (tOf (eCB (c1 oAll) (aCons (eLc (wSeq (eTup (aCons (eVar 1) (aCons (eVar 2) (aCons (eVar 3) (aCons (eVar 4) aNil)))))) (gN 9) tYe (eCall0 F_is_number (aCons (eVar 9) (aCons (eC (.int 255)) aNil))) [9]) aNil)))) (sRaise "NoPacket") sNx) (sSeq (sIf (tOo (tNo (tOf (eCall F_is_number (aCons (eVar 5) (aCons (eC (.int 65535)) aNil))))) (tOo (tNo (tOf (eCall F_is_number (aCons (eVar 6) (aCons (eC (.int 1000)) aNil))))) (tNo (tOf (eCB (c2 (oIsi os_ xs_ tb_)) (aCons (eVar 7) (aCons (eC (.ty "bool")) aNil))))))) (sRaise "NoPacket") sNx) (sSeq (sIf (tNo (tOf (eCall F_are_bytes (aCons (eVar 8) (aCons (eOp oSub (eC (.int 1000)) (eVar 6)) aNil))))) (sRaise "NoPacket") sNx) (sSeq (sFl ["Packet"] "source" (eVar 0) (eVar 1)) (sSeq (sFl ["Packet"] "target" (eVar 0) (eVar 2)) (sSeq (sFl ["Packet"] "kind" (eVar 0) (eVar 3)) (sSeq (sFl ["Packet"] "life" (eVar 0) (eVar 4)) (sSeq (sFl ["Packet"] "name" (eVar 0) (eVar 5)) (sSeq (sFl ["Packet"] "first" (eVar 0) (eVar 6)) (sSeq (sFl ["Packet"] "more" (eVar 0) (eVar 7)) (sFl ["Packet"] "data" (eVar 0) (eVar 8))))))))))))
/- slots of Heap.packet_made: 0=self 1=four 2=found 3=place -/
noncomputable def F_Heap_packet_made : Fn := mkFn 2 4
  (sSeq (sSet 2 (eCB (c1 oTuple) (aCons (eLc (wAs rg1 (aCons (eFld ["Heap"] "end_place" (eVar 0)) aNil)) (gN 3) tYe (eOp oDGet (eFld ["Heap"] "by_places" (eVar 0)) (eVar 3)) [3]) aNil))) (sRet (eMake "Packet" F_Packet___init__ (aCons (eOp oIx (eVar 1) (eC (.int 0))) (aCons (eOp oIx (eVar 1) (eC (.int 1))) (aCons (eOp oIx (eVar 1) (eC (.int 2))) (aCons (eFld ["Heap"] "least_life" (eVar 0)) (aCons (eOp oIx (eVar 1) (eC (.int 3))) (aCons (eC (.int 0)) (aCons (eC (.bl false)) (aCons (eVar 2) aNil)))))))))))
/- slots of Joiner.let_first_go: 0=self 1=heap 2=four -/
noncomputable def F_Joiner_let_first_go : Fn := mkFn 1 3
  (sWh (tOf (eOp oGt (eCB (c1 oSum) (aCons (eLk (eFld ["Joiner"] "heaps" (eVar 0)) (eLc (wOf wkVT (eFld ["Joiner"] "heaps" (eVar 0))) (gN 1) tYe (eCB (c1 oLen) (aCons (eFld ["Heap"] "by_places" (eVar 1)) aNil)) [1])) aNil)) (eFld ["Joiner"] "most_held" (eVar 0)))) (sDrop (eBD (d1_ oDPopT) (eFld ["Joiner"] "heaps" (eVar 0)) (aCons (eOp oIx (eCB (c1 (oBest false)) (aCons (eLk (eFld ["Joiner"] "heaps" (eVar 0)) (eLc (wOf wkIT (eFld ["Joiner"] "heaps" (eVar 0))) (gT [(gN 2), (gN 1)]) tYe (eTup (aCons (eFld ["Heap"] "since" (eVar 1)) (aCons (eVar 2) aNil))) [2, 1])) aNil)) (eC (.int 1))) aNil))))
/- slots of Joiner.let_old_go: 0=self 1=tick 2=four -/
noncomputable def F_Joiner_let_old_go : Fn := mkFn 2 3
  (sFor (wSeq (eCB (c1 oListT) (aCons (eFld ["Joiner"] "heaps" (eVar 0)) aNil))) (gN 2) (sIf (tOf (eOp oGe (eOp oSub (eVar 1) (eFld ["Heap"] "since" (eOp oDGet (eFld ["Joiner"] "heaps" (eVar 0)) (eVar 2)))) (eFld ["Joiner"] "patience" (eVar 0)))) (sDrop (eBD (d1_ oDPopT) (eFld ["Joiner"] "heaps" (eVar 0)) (aCons (eVar 2) aNil))) sNx))
/- slots of Joiner.take: 0=self 1=packet 2=tick 3=four 4=heap -/
noncomputable def F_Joiner_take : Fn := mkFn 3 5
  (sSeq (sIf (tOo (tOf (eCB (c2 (oIsi os_ xs_ tb_)) (aCons (eVar 2) (aCons (eC (.ty "bool")) aNil)))) (tOo (tNo (tOf (eCB (c2 (oIsi os_ xs_ tb_)) (aCons (eVar 2) (aCons (eC (.ty "int")) aNil))))) (tOf (eOp oLt (eVar 2) (eFld ["Joiner"] "last_tick" (eVar 0)))))) (sRaise "NoTick") sNx) (sSeq (sFl ["Joiner"] "last_tick" (eVar 0) (eVar 2)) (sSeq (sDrop (eMeth "let_old_go" [("Joiner", F_Joiner_let_old_go)] (eVar 0) (aCons (eVar 2) aNil))) (sSeq (sIf (tAn (tOf (eOp oEq (eFld ["Packet"] "first" (eVar 1)) (eC (.int 0)))) (tNo (tOf (eFld ["Packet"] "more" (eVar 1))))) (sRet (eVar 1)) sNx) (sSeq (sSet 3 (eTup (aCons (eFld ["Packet"] "source" (eVar 1)) (aCons (eFld ["Packet"] "target" (eVar 1)) (aCons (eFld ["Packet"] "kind" (eVar 1)) (aCons (eFld ["Packet"] "name" (eVar 1)) aNil)))))) (sSeq (sIf (tOf (eOp oNotIn (eVar 3) (eFld ["Joiner"] "heaps" (eVar 0)))) (sPut (eFld ["Joiner"] "heaps" (eVar 0)) (eVar 3) (eMake "Heap" F_Heap___init__ (aCons (eVar 2) (aCons (eFld ["Packet"] "life" (eVar 1)) aNil)))) sNx) (sSeq (sSet 4 (eOp oDGet (eFld ["Joiner"] "heaps" (eVar 0)) (eVar 3))) (sSeq (sIf (tNo (tOf (eMeth "hold" [("Heap", F_Heap_hold)] (eVar 4) (aCons (eVar 1) aNil)))) (sSeq (sDrop (eBD (d1_ oDPopT) (eFld ["Joiner"] "heaps" (eVar 0)) (aCons (eVar 3) aNil))) (sRet (eC .non))) sNx) (sSeq (sIf (tOf (eMeth "is_there" [("Heap", F_Heap_is_there)] (eVar 4) aNil)) (sSeq (sDrop (eBD (d1_ oDPopT) (eFld ["Joiner"] "heaps" (eVar 0)) (aCons (eVar 3) aNil))) (sRet (eMeth "packet_made" [("Heap", F_Heap_packet_made)] (eVar 4) (aCons (eVar 3) aNil)))) sNx) (sSeq (sDrop (eMeth "let_first_go" [("Joiner", F_Joiner_let_first_go)] (eVar 0) aNil)) (sRet (eC .non))))))))))))
/- slots of Packet.told: 0=self 1=ends -/
noncomputable def F_Packet_told : Fn := mkFn 1 2
  (sSeq (sSet 1 (eTup (aCons (eFld ["Packet"] "source" (eVar 0)) (aCons (eFld ["Packet"] "target" (eVar 0)) (aCons (eFld ["Packet"] "kind" (eVar 0)) (aCons (eFld ["Packet"] "life" (eVar 0)) aNil)))))) (sRet (eOp oAdd (eVar 1) (eTup (aCons (eFld ["Packet"] "name" (eVar 0)) (aCons (eFld ["Packet"] "first" (eVar 0)) (aCons (eFld ["Packet"] "more" (eVar 0)) (aCons (eFld ["Packet"] "data" (eVar 0)) aNil))))))))
/- slots of _law_next: 0=_law_state_here 1=_law_size 2=_law_found 3=_law_mixed -/
noncomputable def F_l_next : Fn := mkFn 2 4
  (sSeq (sIf (tOf (eOp oGt (eOp oIx (eVar 0) (eC (.int 0))) (eC (.int 0)))) (sSeq (sSet 2 (eOp oMod (eOp oIx (eVar 0) (eC (.int 0))) (eVar 1))) (sSeq (sPut (eVar 0) (eC (.int 0)) (eOp oDiv (eOp oIx (eVar 0) (eC (.int 0))) (eVar 1))) (sRet (eVar 2)))) sNx) (sSeq (sPut (eVar 0) (eC (.int 1)) (eOp oMod (eOp oAdd (eOp oMul (eOp oIx (eVar 0) (eC (.int 1))) (eC (.int 69621))) (eC (.int 11))) (eC (.int 2147483629)))) (sSeq (sSet 3 (eOp oMod (eOp oMul (eOp oIx (eVar 0) (eC (.int 1))) (eOp oIx (eVar 0) (eC (.int 1)))) (eC (.int 2147483587)))) (sRet (eOp oMod (eOp oDiv (eOp oMod (eOp oAdd (eOp oMul (eVar 3) (eC (.int 40692))) (eOp oIx (eVar 0) (eC (.int 1)))) (eC (.int 2147483399))) (eC (.int 7))) (eVar 1))))))
/- slots of piece_of: 0=packet 1=begin 2=end 3=more 4=head -/
noncomputable def F_piece_of : Fn := mkFn 4 5
  (sSeq (sSet 4 (eTup (aCons (eFld ["Packet"] "source" (eVar 0)) (aCons (eFld ["Packet"] "target" (eVar 0)) (aCons (eFld ["Packet"] "kind" (eVar 0)) (aCons (eFld ["Packet"] "life" (eVar 0)) (aCons (eFld ["Packet"] "name" (eVar 0)) aNil))))))) (sRet (eMake "Packet" F_Packet___init__ (aCons (eOp oIx (eVar 4) (eC (.int 0))) (aCons (eOp oIx (eVar 4) (eC (.int 1))) (aCons (eOp oIx (eVar 4) (eC (.int 2))) (aCons (eOp oIx (eVar 4) (eC (.int 3))) (aCons (eOp oIx (eVar 4) (eC (.int 4))) (aCons (eOp oAdd (eFld ["Packet"] "first" (eVar 0)) (eVar 1)) (aCons (eVar 3) (aCons (eSl oSl (eFld ["Packet"] "data" (eVar 0)) (oSo (eVar 1)) (oSo (eVar 2))) aNil)))))))))))
/- slots of cut: 0=packet 1=most 2=size 3=found 4=at -/
noncomputable def F_cut : Fn := mkFn 2 5
  (sSeq (sIf (tOo (tOf (eCB (c2 (oIsi os_ xs_ tb_)) (aCons (eVar 1) (aCons (eC (.ty "bool")) aNil)))) (tOo (tNo (tOf (eCB (c2 (oIsi os_ xs_ tb_)) (aCons (eVar 1) (aCons (eC (.ty "int")) aNil))))) (tOf (eOp oLt (eVar 1) (eC (.int 22)))))) (sRaise "NoNumber") sNx) (sSeq (sSet 2 (eOp oMul (eOp oDiv (eOp oSub (eVar 1) (eC (.int 14))) (eC (.int 8))) (eC (.int 8)))) (sSeq (sSet 3 (eLst aNil)) (sSeq (sSet 4 (eC (.int 0))) (sSeq (sWh (tOf (eOp oGt (eOp oSub (eOp oAdd (eC (.int 14)) (eCB (c1 oLen) (aCons (eFld ["Packet"] "data" (eVar 0)) aNil))) (eVar 4)) (eVar 1))) (sSeq (sDrop (eBL oAppend (eVar 3) (aCons (eCall F_piece_of (aCons (eVar 0) (aCons (eVar 4) (aCons (eOp oAdd (eVar 4) (eVar 2)) (aCons (eC (.bl true)) aNil))))) aNil))) (sAug 4 oIAdd (eVar 2)))) (sSeq (sDrop (eBL oAppend (eVar 3) (aCons (eCall F_piece_of (aCons (eVar 0) (aCons (eVar 4) (aCons (eCB (c1 oLen) (aCons (eFld ["Packet"] "data" (eVar 0)) aNil)) (aCons (eFld ["Packet"] "more" (eVar 0)) aNil))))) aNil))) (sRet (eVar 3))))))))
/- slots of _law_cut: 0=_law_packet 1=_law_state_here 2=_law_found 3=_law_piece 4=_law_some 5=_law_one 6=_law_row -/
noncomputable def F_l_cut : Fn := mkFn 2 7
  (sSeq (sSet 2 (eLst aNil)) (sSeq (sFor (wSeq (eCall F_cut (aCons (eVar 0) (aCons (eOp oAdd (eC (.int 22)) (eCall F_l_next (aCons (eVar 1) (aCons (eOp oIx (eLst (aCons (eC (.int 64)) (aCons (eC (.int 600)) aNil))) (eCB (c1 oInt) (aCons (eOp oGt (eCB (c1 oLen) (aCons (eFld ["Packet"] "data" (eVar 0)) aNil)) (eC (.int 90))) aNil))) aNil)))) aNil)))) (gN 3) (sSeq (sSet 4 (eLst (aCons (eVar 3) aNil))) (sSeq (sIf (tOf (eOp oEq (eCall F_l_next (aCons (eVar 1) (aCons (eC (.int 3)) aNil))) (eC (.int 0)))) (sSet 4 (eCall F_cut (aCons (eVar 3) (aCons (eOp oAdd (eC (.int 22)) (eCall F_l_next (aCons (eVar 1) (aCons (eOp oIx (eLst (aCons (eC (.int 16)) (aCons (eC (.int 300)) aNil))) (eCB (c1 oInt) (aCons (eOp oGt (eCB (c1 oLen) (aCons (eFld ["Packet"] "data" (eVar 0)) aNil)) (eC (.int 90))) aNil))) aNil)))) aNil)))) sNx) (sFor (wSeq (eVar 4)) (gN 5) (sSeq (sSet 6 (eMeth "told" [("Packet", F_Packet_told)] (eVar 5) aNil)) (sSeq (sIf (tAn (tOf (eOp oGt (eOp oIx (eVar 6) (eC (.int 3))) (eC (.int 0)))) (tOf (eOp oEq (eCall F_l_next (aCons (eVar 1) (aCons (eC (.int 4)) aNil))) (eC (.int 0))))) (sSet 6 (eOp oAdd (eOp oAdd (eSl oSl (eVar 6) oNo (oSo (eC (.int 3)))) (eTup (aCons (eOp oSub (eOp oIx (eVar 6) (eC (.int 3))) (eC (.int 1))) aNil))) (eSl oSl (eVar 6) (oSo (eC (.int 4))) oNo))) sNx) (sDrop (eBL oAppend (eVar 2) (aCons (eVar 6) aNil))))))))) (sRet (eVar 2))))
/- slots of _law_head: 0=_law_state_here 1=_law_found 2=_law_k -/
noncomputable def F_l_head : Fn := mkFn 1 3
  (sSeq (sSet 1 (eLc (wAs rg1 (aCons (eC (.int 4)) aNil)) (gN 2) tYe (eCall0 F_l_next (aCons (eVar 0) (aCons (eC (.int 256)) aNil))) [2])) (sRet (eOp oAdd (eVar 1) (eLst (aCons (eOp oIx (eLst (aCons (eCall F_l_next (aCons (eVar 0) (aCons (eC (.int 65536)) aNil))) (aCons (eC (.int 0)) (aCons (eC (.int 65535)) aNil)))) (eCall F_l_next (aCons (eVar 0) (aCons (eC (.int 3)) aNil)))) aNil)))))
/- slots of _law_order: 0=_law_rows 1=_law_state_here 2=_law_k 3=_law_found 4=_law_row -/
noncomputable def F_l_order : Fn := mkFn 2 5
  (sSeq (sSet 0 (eOp oAdd (eVar 0) (eLc (wAs rg1 (aCons (eCall F_l_next (aCons (eVar 1) (aCons (eC (.int 9)) aNil))) aNil)) (gN 2) tYe (eOp oIx (eVar 0) (eCall0 F_l_next (aCons (eVar 1) (aCons (eCB (c1 oLen) (aCons (eVar 0) aNil)) aNil)))) [2]))) (sSeq (sSet 3 (eLst aNil)) (sSeq (sFor (wSeq (eVar 0)) (gN 4) (sDrop (eBL oInsert (eVar 3) (aCons (eCall F_l_next (aCons (eVar 1) (aCons (eOp oAdd (eCB (c1 oLen) (aCons (eVar 3) aNil)) (eC (.int 1))) aNil))) (aCons (eVar 4) aNil))))) (sRet (eVar 3)))))
/- slots of _law_packet_of: 0=_law_row -/
noncomputable def F_l_packet_of : Fn := mkFn 1 1
  (sRet (eMake "Packet" F_Packet___init__ (aCons (eOp oIx (eVar 0) (eC (.int 0))) (aCons (eOp oIx (eVar 0) (eC (.int 1))) (aCons (eOp oIx (eVar 0) (eC (.int 2))) (aCons (eOp oIx (eVar 0) (eC (.int 3))) (aCons (eOp oIx (eVar 0) (eC (.int 4))) (aCons (eOp oIx (eVar 0) (eC (.int 5))) (aCons (eOp oIx (eVar 0) (eC (.int 6))) (aCons (eOp oIx (eVar 0) (eC (.int 7))) aNil))))))))))
/- slots of _law_same: 0=_law_found 1=_law_due 2=_law_told 3=_law_k 4=_law_byte -/
noncomputable def F_l_same : Fn := mkFn 2 5
  (sSeq (sIf (tOo (tOf (eOp oIs (eVar 1) (eC .non))) (tNo (tOf (eCB (c2 (oIsi os_ xs_ tb_)) (aCons (eVar 0) (aCons (eC (.nm "Packet")) aNil)))))) (sRet (eAnd (eOp oIs (eVar 1) (eC .non)) (eOp oIs (eVar 0) (eC .non)))) sNx) (sSeq (sSet 2 (eMeth "told" [("Packet", F_Packet_told)] (eVar 0) aNil)) (sSeq (sIf (tOo (tNo (tOf (eCB (c2 (oIsi os_ xs_ tb_)) (aCons (eVar 2) (aCons (eC (.ty "tuple")) aNil))))) (tOo (tOf (eOp oNe (eVar 2) (eVar 1))) (tNo (tOf (eCB (c2 (oIsi os_ xs_ tb_)) (aCons (eOp oIx (eVar 2) (eC (.int 7))) (aCons (eC (.ty "tuple")) aNil))))))) (sRet (eC (.bl false))) sNx) (sSeq (sIf (tOf (eOp oNe (eLc (wAs rg1 (aCons (eC (.int 8)) aNil)) (gN 3) (tOf (eOp oNe (eCB (c2 (oIsi os_ xs_ tb_)) (aCons (eOp oIx (eVar 2) (eVar 3)) (aCons (eC (.ty "bool")) aNil))) (eOp oEq (eVar 3) (eC (.int 6))))) (eVar 3) [3]) (eLst aNil))) (sRet (eC (.bl false))) sNx) (sRet (eOp oEq (eLc (wSeq (eOp oIx (eVar 2) (eC (.int 7)))) (gN 4) (tOf (eCB (c2 (oIsi os_ xs_ tb_)) (aCons (eVar 4) (aCons (eC (.ty "bool")) aNil)))) (eVar 4) [4]) (eLst aNil)))))))
/- slots of _law_some_data: 0=_law_state_here 1=_law_most 2=_law_many 3=_law_k 4=_law_first 5=_law_step -/
noncomputable def F_l_some_data : Fn := mkFn 2 6
  (sSeq (sSet 2 (eOp oIx (eLst (aCons (eCall F_l_next (aCons (eVar 0) (aCons (eOp oAdd (eVar 1) (eC (.int 1))) aNil))) (aCons (eCall F_l_next (aCons (eVar 0) (aCons (eC (.int 9)) aNil))) (aCons (eVar 1) aNil)))) (eCall F_l_next (aCons (eVar 0) (aCons (eC (.int 3)) aNil))))) (sSeq (sIf (tAn (tOf (eOp oLt (eVar 2) (eC (.int 13)))) (tOf (eOp oEq (eCall F_l_next (aCons (eVar 0) (aCons (eC (.int 2)) aNil))) (eC (.int 0))))) (sRet (eCB (c1 oTuple) (aCons (eLc (wAs rg1 (aCons (eVar 2) aNil)) (gN 3) tYe (eCall0 F_l_next (aCons (eVar 0) (aCons (eC (.int 256)) aNil))) [3]) aNil))) sNx) (sSeq (sAsg (eTup (aCons (eCall F_l_next (aCons (eVar 0) (aCons (eC (.int 256)) aNil))) (aCons (eCall F_l_next (aCons (eVar 0) (aCons (eC (.int 256)) aNil))) aNil))) (gT [(gN 4), (gN 5)])) (sRet (eCB (c1 oTuple) (aCons (eLc (wAs rg1 (aCons (eVar 2) aNil)) (gN 3) tYe (eOp oMod (eOp oAdd (eOp oAdd (eVar 4) (eOp oMul (eVar 5) (eVar 3))) (eOp oDiv (eOp oMul (eVar 3) (eVar 3)) (eC (.int 256)))) (eC (.int 256))) [3]) aNil))))))
/- slots of _law_right: 0=_law_state_here 1=_law_tick 2=_law_joiner 3=_law_head_here 4=_law_other 5=_law_at 6=_law_most 7=_law_wholes 8=_law_row 9=_law_rows 10=_law_whole 11=_law_come 12=_law_k 13=_law_due 14=_law_place -/
noncomputable def F_l_right : Fn := mkFn 3 15
  (sSeq (sSet 3 (eCB (c1 oTuple) (aCons (eCall F_l_head (aCons (eVar 0) aNil)) aNil))) (sSeq (sSet 4 (eCB (c1 oList) (aCons (eVar 3) aNil))) (sSeq (sSet 5 (eOp oIx (eLst (aCons (eC (.int 0)) (aCons (eC (.int 1)) (aCons (eC (.int 2)) (aCons (eC (.int 4)) aNil))))) (eCall F_l_next (aCons (eVar 0) (aCons (eC (.int 4)) aNil))))) (sSeq (sPut (eVar 4) (eVar 5) (eOp oMod (eOp oAdd (eOp oAdd (eOp oIx (eVar 4) (eVar 5)) (eC (.int 1))) (eCall F_l_next (aCons (eVar 0) (aCons (eC (.int 255)) aNil)))) (eC (.int 256)))) (sSeq (sSet 6 (eOp oIx (eLst (aCons (eC (.int 90)) (aCons (eC (.int 1000)) aNil))) (eCB (c1 oInt) (aCons (eOp oEq (eCall F_l_next (aCons (eVar 0) (aCons (eC (.int 8)) aNil))) (eC (.int 5))) aNil)))) (sSeq (sSet 7 (eLst aNil)) (sSeq (sFor (wSeq (eTup (aCons (eVar 3) (aCons (eCB (c1 oTuple) (aCons (eVar 4) aNil)) aNil)))) (gN 8) (sDrop (eBL oAppend (eVar 7) (aCons (eOp oAdd (eVar 8) (eTup (aCons (eC (.int 0)) (aCons (eC (.bl false)) (aCons (eCall F_l_some_data (aCons (eVar 0) (aCons (eVar 6) aNil))) aNil))))) aNil)))) (sSeq (sSet 9 (eLst aNil)) (sSeq (sFor (wSeq (eVar 7)) (gN 10) (sSet 9 (eOp oAdd (eVar 9) (eCall F_l_cut (aCons (eCall F_l_packet_of (aCons (eVar 10) aNil)) (aCons (eVar 0) aNil)))))) (sSeq (sSet 11 (eLst (aCons (eLst (aCons (eC (.int 255)) (aCons (eDNew false) aNil))) (aCons (eLst (aCons (eC (.int 255)) (aCons (eDNew false) aNil))) aNil)))) (sSeq (sFor (wSeq (eCall F_l_order (aCons (eOp oAdd (eVar 9) (eSl oSl (eVar 7) oNo (oSo (eCall F_l_next (aCons (eVar 0) (aCons (eC (.int 3)) aNil)))))) (aCons (eVar 0) aNil)))) (gN 8) (sSeq (sSet 12 (eCB (c1 oInt) (aCons (eOp oNe (eOp oAdd (eSl oSl (eVar 8) oNo (oSo (eC (.int 3)))) (eSl oSl (eVar 8) (oSo (eC (.int 4))) (oSo (eC (.int 5))))) (eOp oAdd (eSl oSl (eOp oIx (eVar 7) (eC (.int 0))) oNo (oSo (eC (.int 3)))) (eSl oSl (eOp oIx (eVar 7) (eC (.int 0))) (oSo (eC (.int 4))) (oSo (eC (.int 5)))))) aNil))) (sSeq (sSet 13 (eVar 8)) (sSeq (sIf (tOo (tOf (eOp oGt (eOp oIx (eVar 8) (eC (.int 5))) (eC (.int 0)))) (tOf (eOp oIx (eVar 8) (eC (.int 6))))) (sSeq (sPut (eVar 11) (eVar 12) (eLst (aCons (eCB (c2 oMin2) (aCons (eOp oIx (eOp oIx (eVar 11) (eVar 12)) (eC (.int 0))) (aCons (eOp oIx (eVar 8) (eC (.int 3))) aNil))) (aCons (eOp oIx (eOp oIx (eVar 11) (eVar 12)) (eC (.int 1))) aNil)))) (sSeq (sDrop (eBD (d1_ oUpdK) (eOp oIx (eOp oIx (eVar 11) (eVar 12)) (eC (.int 1))) (aCons (eLc (wAs rg1 (aCons (eCB (c1 oLen) (aCons (eOp oIx (eVar 8) (eC (.int 7))) aNil)) aNil)) (gN 14) tYe (eTup (aCons (eOp oAdd (eOp oIx (eVar 8) (eC (.int 5))) (eVar 14)) (aCons (eC (.bl true)) aNil))) [14]) aNil))) (sSeq (sSet 13 (eC .non)) (sIf (tOf (eOp oEq (eCB (c1 oLen) (aCons (eOp oIx (eOp oIx (eVar 11) (eVar 12)) (eC (.int 1))) aNil)) (eCB (c1 oLen) (aCons (eOp oIx (eOp oIx (eVar 7) (eVar 12)) (eC (.int 7))) aNil)))) (sSeq (sSet 13 (eOp oAdd (eOp oAdd (eSl oSl (eOp oIx (eVar 7) (eVar 12)) oNo (oSo (eC (.int 3)))) (eTup (aCons (eOp oIx (eOp oIx (eVar 11) (eVar 12)) (eC (.int 0))) aNil))) (eSl oSl (eOp oIx (eVar 7) (eVar 12)) (oSo (eC (.int 4))) oNo))) (sPut (eVar 11) (eVar 12) (eLst (aCons (eC (.int 255)) (aCons (eDNew false) aNil))))) sNx)))) sNx) (sIf (tNo (tOf (eCall F_l_same (aCons (eMeth "take" [("Joiner", F_Joiner_take)] (eVar 2) (aCons (eCall F_l_packet_of (aCons (eVar 8) aNil)) (aCons (eVar 1) aNil))) (aCons (eVar 13) aNil))))) (sRet (eC (.bl false))) sNx))))) (sRet (eC (.bl true))))))))))))))
/- slots of _law_state: 0=_law_cell 1=_law_k 2=_law_drawn -/
noncomputable def F_l_state : Fn := mkFn 2 3
  (sSeq (sSet 2 (eOp oMod (eOp oMul (eOp oAdd (eOp oAdd (eVar 0) (eOp oMul (eC (.int 7919)) (eVar 1))) (eC (.int 1))) (eC (.int 48271))) (eC (.int 2147483647)))) (sRet (eLst (aCons (eOp oMul (eVar 0) (eCB (c1 oInt) (aCons (eOp oGe (eVar 0) (eOp oPow (eC (.int 10)) (eC (.int 18)))) aNil))) (aCons (eOp oMod (eOp oAdd (eOp oAdd (eOp oMul (eVar 2) (eVar 2)) (eOp oMul (eC (.int 7)) (eVar 2))) (eVar 1)) (eC (.int 2147483629))) aNil)))))
/- slots of law: 0=_law_script 1=_law_k -/
noncomputable def F_law : Fn := mkFn 1 2
  (sSeq (sFor (wAs rg1 (aCons (eCB (c2 oMax2) (aCons (eC (.int 1)) (aCons (eCB (c2 oMin2) (aCons (eCB (c1 oLen) (aCons (eVar 0) aNil)) (aCons (eC (.int 30)) aNil))) aNil))) aNil)) (gN 1) (sIf (tNo (tOf (eCall0 F_l_right (aCons (eCall0 F_l_state (aCons (eCall0 F_l_cell_at (aCons (eVar 0) (aCons (eVar 1) aNil))) (aCons (eOp oAdd (eC (.int 1)) (eVar 1)) aNil))) (aCons (eOp oMul (eC (.int 7)) (eVar 1)) (aCons (eMake0 "Joiner" F_Joiner___init__ (aCons (eC (.int 100)) (aCons (eC (.int 4000)) aNil))) aNil)))))) (sRet (eC (.bl false))) sNx)) (sRet (eC (.bl true))))
end Kk
namespace Kk
open PySem L2 SM
local macro_rules
  | `(tactic| simp_arith [$xs,*] $[$loc]?) => `(tactic| simp (disch := (first | omega | assumption | (simp only [List.length_set, List.length_append, List.length_cons, List.length_nil, List.length_map, List.length_take, List.length_drop, List.length_reverse, List.length_replicate, List.length_range] <;> omega) | (intro; omega) | (simp only [List.all_cons, List.all_nil, z4h, z5e, Option.isSome_some, Bool.and_true, Bool.and_self]; done) | decide)) only [z6h, z3r, z6y, z3w, z3g, z3i, z9c, z2l, z08, z6d, z4x, z6u, z6i, eC_, z9v, zai, z92, z57, zbj, z5t, z35, c1_, c2_, c3_, z89, z54, z7d, zbb, z8u, za0, z9s, za5, zal, zbg, zb5, zbe, z8v, z8y, z0f, z5s, z9k, z7a, zap, za8, z8r, zac, z6c, z4t, z5y, z5r, z13, z9l, z9z, zax, z4j, z6o, z36, z55, z3c, z58, z84, z5w, zaw, z8d, z2r, z88, gN_, z53, z2d, z0r, z8c, z5k, z7c, z7l, z7p, z5n, z6r, z3v, z1p, z8q, z8k, z7i, z64, z6v, z6t, z5b, z6f, z5l, z6q, z6w, z5d, z59, z9b, z9d, z98, z7s, z73, z3h, z4q, z3s, z67, z5o, z81, z8g, z32, z4i, z90, z9a, z4e, z0k, z6s, z19, z0z, z18, z2p, z17, z0y, z1m, z30, z1j, z1k, z0o, z1i, z0m, z14, z0g, z1b, z06, z0e, z1g, z0a, z0t, z05, z1q, z0b, z04, z0c, z0v, z02, z1l, z0d, z01, z1e, z1w, z1u, z2c, z72, z6j, z2k, z3d, z7b, z2y, z8z, z9n, z27, z3t, z1z, z0p, z49, z0x, z56, z4z, z6p, z4k, z3l, z2e, z96, z3f, z40, z68, z74, z1o, z31, z41, z9w, z93, z5v, z7q, z4s, zbc, z83, zbh, z3a, z3y, z37, zab, zba, zaa, z4d, z47, z45, z42, z24, z7m, zam, z9p, z5c, z4o, z7w, zb7, z3z, zat, z2i, zb4, z2z, za2, z2n, z20, z0u, z9u, zb8, zad, z70, z1t, za1, z7v, z38, z3o, zbf, z8b, z48, z44, z11, z6m, zav, z2w, z0i, zau, z15, z0n, zaf, z0j, z9m, z2g, z3j, z9t, z9j, zag, z6a, z9r, zb9, zak, z3m, zas, z4w, z9i, z8n, za7, z7x, za4, z5q, zb0, z5h, z3x, z03, z09, zaz, z4b, z82, zar, z7e, z2f, z0w, z8a, z9e, z80, z23, z1n, z2h, z66, z94, z9f, z7h, z91, z87, z61, z8x, z8j, z99, z7o, z2u, z29, z1y, z8l, z8h, z4n, z10, z6z, z4y, zao, z97, z3u, z5e, z63, z4h, zb3, zbi, z86, z2m, z8e, z1s, z2v, z0s, z1d, z0l, z07, z2j, z1c, z1v, z12, z2q, z1f, z8w, z5j, z6n, z5p, z0h, z00, c4_, z4l, zbd, z6b, z33, z39, z5x, z46, z2b, z25, z8s, z43, z7y, z7r, z21, z69, z79, z4p, z3p, z2o, z52, z4c, z4f, z1x, z2a, za3, z60, z4m, z3q, z1r, z7k, z5m, z77, z50, z71, z4a, z22, z78, z6e, z3b, z4r, z75, z6g, zb6, z8f, z9h, zan, z28, z9g, z6k, z3n, z34, z9o, za9, z5f, z7z, z62, z7g, z65, z5a, z76, z51, z6x, z4g, z5u, z4v, z8o, z8t, z7u, z8i, z9x, z3e, zay, z1h, z9y, z5z, z5g, zaj, z26, z7j, zaq, zah, z2x, z7t, z16, z6l, z5i, z4u, z2t, z95, z8m, zae, z1a, z7n, z7f, z2s, z9q, z0q, z85, z8p, z3k, za6, List.all_cons, List.all_nil, Bool.and_true, if_pos, if_neg, if_true, if_false, ite_true, ite_false, Bool.false_eq_true, Bool.true_eq_false, Bool.not_true, Bool.not_false, Bool.not_eq_true', decide_eq_true_eq, decide_eq_false_iff_not, Bool.not_eq_true, decide_true, decide_false, List.length_cons, List.length_nil, List.map_cons, List.map_nil, List.cons_append, List.nil_append, List.length_map, rep_nS, rep_n0, List.append_nil, List.mem_cons, List.mem_singleton, List.not_mem_nil, or_false, false_or, true_or, or_true, and_true, true_and, and_false, false_and, Option.isSome_some, Option.isSome_none, Option.isNone_none, Option.isNone_some, String.reduceEq, String.reduceNe, Nat.reduceAdd, Nat.reduceSub, Nat.reduceLT, Nat.reduceLeDiff, Nat.reduceMul, Int.reduceAdd, Int.reduceSub, Int.reduceMul, Int.reduceLT, Int.reduceLE, Int.reduceGT, Int.reduceEq, Int.reduceToNat, Int.reducePow, Int.reduceNeg, Nat.reduceEqDiff, eq_self, eq_self_iff_true, not_true_eq_false, not_false_eq_true, List.getElem?_cons_zero, List.getElem?_cons_succ, Option.bind_some, ne_eq, reduceCtorEq, Int.reduceDiv, Int.reduceMod, Bool.and_self, reduceIte, $xs,*] $[$loc]?)
local macro_rules
  | `(tactic| walk_at "fr!") => `(tactic| (repeat (first | exact Fr.refl | assumption | refine Fr.then_push ?_ | refine Fr.then_set ?_ (by first | exact Or.inr (Nat.le_refl _) | exact Or.inr (by omega) | (refine Or.inl ?_; simp; done) | (refine Or.inr ?_; simp; done)))))
/-! draws by two numbers (k20 k23) -/
def Drw (A : Hs) (i : Nat) : Prop := ∃ a b : Int, A[i]? = some (.lst [.int a, .int b])
theorem Drw.frame {A A1 : Hs} {i : Nat} {s : List Nat} (h : Drw A i) (f : Fr s A A1) (hi : i ∉ s) : Drw A1 i := by
  obtain ⟨a, b, h⟩ := h
  exact ⟨a, b, f.get h hi⟩
theorem Drw.lt {A : Hs} {i : Nat} (h : Drw A i) : i < A.length := by
  obtain ⟨a, b, h⟩ := h
  exact lt_of_get h
theorem Drw.pushed {A : Hs} {i : Nat} {x : O} (d : Drw A i) : Drw (A ++ [x]) i := d.frame (s := []) .push (by simp)
theorem state_ok {p q : Int} {A : Hs} : Rk (F_l_state [.int p, .int q] A) fun v A1 => v = .ref A.length ∧ Drw A1 A.length ∧ Fr [] A A1 := by
  unfold F_l_state
  simp_arith []
  exact ⟨⟨_, _, zar⟩, .push⟩
theorem next_ok {A : Hs} {i : Nat} {n : Int} (h : Drw A i) (hn : 0 < n) (hn2 : n < 18446744073709551616) : ∃ v A1, 0 ≤ v ∧ v < n ∧ F_l_next [.ref i, .int n] A = .ok (.int v) A1 ∧ Drw A1 i ∧ Fr [i] A A1 := by
  obtain ⟨a, b, h⟩ := h
  have hi := lt_of_get h
  unfold F_l_next
  by_cases q : 0 < a
  · refine ⟨a % n, A.set i (.lst [.int (a / n), .int b]), Int.emod_nonneg _ (by omega), Int.emod_lt_of_pos _ hn, ?_, ⟨_, _, zaz hi⟩, .set (by simp)⟩
    simp_arith [h, q, List.set_cons_zero]
  · obtain ⟨y, hy⟩ : ∃ y, y = (b * 69621 + 11) % 2147483629 := ⟨_, rfl⟩
    refine ⟨((y * y % 2147483587 * 40692 + y) % 2147483399) / 7 % n, A.set i (.lst [.int a, .int y]), Int.emod_nonneg _ (by omega), Int.emod_lt_of_pos _ hn, ?_, ⟨_, _, zaz hi⟩, .set (by simp)⟩
    simp_arith [h, q, List.set_cons_zero, List.set_cons_succ, ← hy]
theorem pick_i {ns : List Int} {v : Int} (h0 : 0 ≤ v) (h1 : v < ns.length) : ∃ x ∈ ns, atI (ns.map D.int) v = some (.int x) := by
  have : v.toNat < ns.length := by omega
  refine ⟨ns[v.toNat], List.getElem_mem this, ?_⟩
  rw [z66 h0, List.getElem?_map, List.getElem?_eq_getElem this]; rfl
def rw_ (l : List Int) : D := .tup (l.map D.int)
/-! packets with a first place -/
open DL (Bytes)
structure Pq where
  s : Int
  t : Int
  k : Int
  l : Int
  n : Int
  f : Int
  m : Bool
  d : List Int
structure Pq.Ok (p : Pq) : Prop where
  s : 0 ≤ p.s ∧ p.s ≤ 255
  t : 0 ≤ p.t ∧ p.t ≤ 255
  k : 0 ≤ p.k ∧ p.k ≤ 255
  l : 0 ≤ p.l ∧ p.l ≤ 255
  n : 0 ≤ p.n ∧ p.n ≤ 65535
  f : 0 ≤ p.f ∧ p.f ≤ 1000
  b : Bytes p.d
  dl : (p.d.length : Int) ≤ 1000 - p.f
def Pq.fs (p : Pq) : List (String × D) := [("source", .int p.s), ("target", .int p.t), ("kind", .int p.k), ("life", .int p.l), ("name", .int p.n), ("first", .int p.f), ("more", .bl p.m), ("data", rw_ p.d)]
def Pq.args (p : Pq) : List D := [.int p.s, .int p.t, .int p.k, .int p.l, .int p.n, .int p.f, .bl p.m, rw_ p.d]
def Pq.row (p : Pq) : D := .tup p.args
theorem num_p {p m : Int} {A : Hs} : F_is_number [.int p, .int m] A = .ok (.bl (decide (0 ≤ p) && decide (p ≤ m))) A := by
  unfold F_is_number
  by_cases h : 0 ≤ p
  · simp_arith [h, Bool.true_and]
  · simp_arith [h, Bool.false_and]
theorem are_bytes_ok {d : List Int} {m : Int} {A : Hs} (hb : Bytes d) (hl : (d.length : Int) ≤ m) (hm : m ≤ 2000) : ∃ A1, F_are_bytes [rw_ d, .int m] A = .ok (.bl true) A1 ∧ Fr [] A A1 := by
  refine ⟨A ++ [.lst ((d.map D.int).map fun _ => .bl true)], ?_, .push⟩
  unfold F_are_bytes rw_
  simp_arith [hl]
  rw [lc_go (fun _ => true) (fun _ => .bl true) trivial (by rw [List.length_map]; omega)]
  rotate_left
  · intro x hx
    obtain ⟨b, hbb, rfl⟩ := List.mem_map.mp hx
    have h := hb b hbb
    have a : (0 : Int) ≤ b := h.1
    have c : b ≤ (255 : Int) := h.2
    show Got _ _
    simp_arith [num_p, a, c]
    first | exact fun _ => rfl | exact fun _ => trivial | trivial
  rw [List.filter_eq_self.mpr (by simp)]
  have e : ((d.map D.int).map fun _ => D.bl true) = (d.map fun _ => true).map D.bl := by rw [List.map_map, List.map_map]; rfl
  have e2 : boolsOf ((d.map D.int).map fun _ => D.bl true) = some (d.map fun _ => true) := by rw [e, z03]
  simp_arith [e2]
  simp
theorem packet_ok {p : Pq} {A : Hs} (h : p.Ok) : Rk (make "Packet" F_Packet___init__ p.args A) fun v A1 => v = .ref A.length ∧ A1[A.length]? = some (.obj "Packet" p.fs) ∧ Fr [] A A1 := by
  refine Rk.make ?_
  obtain ⟨s, t, k, l, n, f, m, d⟩ := p
  have hs := h.s
  have ht := h.t
  have hk := h.k
  have hl := h.l
  have hn := h.n
  have hf := h.f
  have hb := h.b
  have hd := h.dl
  simp only at hs ht hk hl hn hb hd hf
  unfold F_Packet___init__ Pq.args
  have hn1 : (0 : Int) ≤ n := hn.1
  have hn2 : n ≤ (65535 : Int) := hn.2
  have hf1 : (0 : Int) ≤ f := hf.1
  have hf2 : f ≤ (1000 : Int) := hf.2
  simp_arith []
  rw [lc_go (ds := [D.int s, D.int t, D.int k, D.int l]) (fun _ => true) (fun _ => .bl true) trivial (show 4 < 16000000 by decide)]
  rotate_left
  · intro x hx
    simp only [List.mem_cons, List.not_mem_nil, or_false] at hx
    have : ∃ b : Int, x = .int b ∧ 0 ≤ b ∧ b ≤ 255 := by
      rcases hx with rfl | rfl | rfl | rfl
      · exact ⟨_, rfl, hs⟩
      · exact ⟨_, rfl, ht⟩
      · exact ⟨_, rfl, hk⟩
      · exact ⟨_, rfl, hl⟩
    obtain ⟨b, rfl, a, c⟩ := this
    show Got _ _
    simp_arith [num_p, a, c]
    first | exact fun _ => rfl | exact fun _ => trivial | trivial
  rw [List.filter_eq_self.mpr (by simp)]
  have e2 : boolsOf ([D.int s, D.int t, D.int k, D.int l].map fun _ => D.bl true) = some [true, true, true, true] := rfl
  obtain ⟨B, e3, f3⟩ := are_bytes_ok (m := 1000 - f) (A := A ++ [O.obj "Packet" []] ++ [O.lst ([D.int s, D.int t, D.int k, D.int l].map fun _ => D.bl true)]) hb hd (by omega)
  have nB := f3.le
  have hB : B[A.length]? = some (.obj "Packet" []) := f3.get (get_push zar) (by simp)
  have nB' := lt_of_get hB
  simp only [List.map_cons, List.map_nil] at e2 e3 f3
  simp_arith [e2, num_p, hn1, hn2, hf1, hf2, e3, hB]
  exact ⟨rfl, (Fr.push.trans (Fr.push.trans f3)).then_set (.inr (Nat.le_refl _))⟩
theorem told_ok {p : Pq} {q : Nat} {A : Hs} (h : A[q]? = some (.obj "Packet" p.fs)) : F_Packet_told [.ref q] A = .ok p.row A := by
  unfold Pq.fs at h
  unfold F_Packet_told
  simp_arith [h]
  rfl
theorem of_ok {p : Pq} {A : Hs} (h : p.Ok) : Rk (F_l_packet_of [p.row] A) fun v A1 => v = .ref A.length ∧ A1[A.length]? = some (.obj "Packet" p.fs) ∧ Fr [] A A1 := by
  obtain ⟨_, A1, e, rfl, g, f⟩ := (packet_ok (A := A) h).ex
  unfold Pq.args at e
  unfold F_l_packet_of Pq.row Pq.args
  simp_arith [e]
  exact ⟨g, f⟩
def Pq.cut (p : Pq) (b e : Nat) (m : Bool) : Pq := { p with f := p.f + b, m := m, d := (p.d.drop b).take (e - b) }
theorem Pq.cut_ok {p : Pq} (h : p.Ok) {b e : Nat} {m : Bool} (hb : b ≤ p.d.length) : (p.cut b e m).Ok := by
  have h1 := h.f
  have h2 := h.dl
  refine ⟨h.s, h.t, h.k, h.l, h.n, ?_, fun x hx => h.b x (List.mem_of_mem_drop (List.mem_of_mem_take hx)), ?_⟩
  · show 0 ≤ p.f + b ∧ p.f + b ≤ 1000
    omega
  · show ((((p.d.drop b).take (e - b)).length : Nat) : Int) ≤ 1000 - (p.f + b)
    rw [List.length_take, List.length_drop]
    omega
theorem piece_ok {p : Pq} {q b e : Nat} {m : Bool} {A : Hs} (h : p.Ok) (hq : A[q]? = some (.obj "Packet" p.fs)) (hb : b ≤ p.d.length) : Rk (F_piece_of [.ref q, .int (b : Int), .int (e : Int), .bl m] A) fun v A1 => v = .ref A.length ∧ A1[A.length]? = some (.obj "Packet" (p.cut b e m).fs) ∧ Fr [] A A1 := by
  obtain ⟨_, A1, e1, rfl, g, f⟩ := (packet_ok (A := A) (Pq.cut_ok (e := e) (m := m) h hb)).ex
  unfold Pq.args Pq.cut rw_ at e1
  simp only [List.map_take, List.map_drop] at e1
  unfold Pq.fs rw_ at hq
  unfold F_piece_of
  simp_arith [hq, Int.toNat_natCast, e1]
  exact ⟨g, f⟩

/-! draws of packets -/
open DL (Bytes)
theorem getp {A : Hs} {u : O} {i : Nat} (h : i = A.length) : (A ++ [u])[i]? = some u := by subst h; exact zar
theorem head_ok {A : Hs} {i : Nat} (dr : Drw A i) : Rk (F_l_head [.ref i] A) fun v A1 => ∃ (r : Nat) (s t k l n : Int), v = .ref r ∧ A1[r]? = some (.lst [.int s, .int t, .int k, .int l, .int n]) ∧ (0 ≤ s ∧ s ≤ 255) ∧ (0 ≤ t ∧ t ≤ 255) ∧ (0 ≤ k ∧ k ≤ 255) ∧ (0 ≤ l ∧ l ≤ 255) ∧ (0 ≤ n ∧ n ≤ 65535) ∧ Drw A1 i ∧ Fr [i] A A1 := by
  unfold F_l_head
  simp_arith []
  refine Rk.call (P := fun v E => ∃ (bs : List Int) (B0 : Hs), v = .ref (List.length B0) ∧ E = B0 ++ [.lst (bs.map D.int)] ∧ (∀ b ∈ bs, 0 ≤ b ∧ b ≤ 255) ∧ bs.length = 4 ∧ Drw B0 i ∧ Fr [i] A B0) (fun r => Rk (finR (seqR (ofE _ r _) _)) _) (lc_rk ((lc_run (fun j acc B => ∃ bs : List Int, acc = bs.map D.int ∧ (∀ b ∈ bs, 0 ≤ b ∧ b ≤ 255) ∧ bs.length = j ∧ Drw B i ∧ Fr [i] A B) (ds := rgL 0 1 4) ⟨[], rfl, (by simp), rfl, dr, .refl⟩ (by rw [rgL_len]; decide) (fun _ _ _ _ => trivial) ?_).mono ?_)) ?_
  · intro j d hd acc B hP
    obtain ⟨rfl, hj⟩ := rgL_get hd
    obtain ⟨bs, rfl, hb, hl, dB, fB⟩ := hP
    obtain ⟨v, B1, v0, v1, e1, d1, f1⟩ := next_ok (n := 256) dB (by decide) (by decide)
    simp_arith [e1]
    refine ⟨bs ++ [v], by simp, fun x hx => ?_, by simp [hl], d1, fB.trans f1⟩
    rcases List.mem_append.mp hx with h | h
    · exact hb x h
    · rw [List.mem_singleton] at h; omega
  · rintro l B ⟨bs, h1, h2, h3, h4, h5⟩
    exact ⟨bs, B, rfl, by rw [h1], h2, by rw [h3, rgL_len], h4, h5⟩
  · rintro _ _ ⟨bs, B0, rfl, rfl, h2, h3, h4, h5⟩
    match bs, h3, h2 with
    | [s, t, k, l], _, h2 =>
      have d1 : Drw (B0 ++ [.lst [.int s, .int t, .int k, .int l]]) i := h4.pushed
      obtain ⟨v1, B1, a1, b1, e1, d1, f1⟩ := next_ok (n := 65536) d1 (by decide) (by decide)
      have d2 : Drw (B1 ++ [.lst [.int v1, .int 0, .int 65535]]) i := d1.pushed
      obtain ⟨v2, B2, a2, b2, e2, d2, f2⟩ := next_ok (n := 3) d2 (by decide) (by decide)
      obtain ⟨n, hn, e3⟩ := pick_i (ns := [v1, 0, 65535]) a2 b2
      have n0 := h4.lt
      have n1 := f1.le
      rw [List.length_append, List.length_singleton] at n1
      have n2 := f2.le
      rw [List.length_append, List.length_singleton] at n2
      have g1 : B1[B0.length]? = some (.lst [.int s, .int t, .int k, .int l]) := f1.get zar (by rw [List.mem_singleton]; omega)
      have g2 : B2[B0.length]? = some (.lst [.int s, .int t, .int k, .int l]) := f2.get (get_push g1) (by rw [List.mem_singleton]; omega)
      have g3 : B2[B1.length]? = some (.lst [.int v1, .int 0, .int 65535]) := f2.get zar (by rw [List.mem_singleton]; omega)
      have e3' : atI [D.int v1, .int 0, .int 65535] v2 = some (.int n) := e3
      have hn' : 0 ≤ n ∧ n ≤ 65535 := by
        simp only [List.mem_cons, List.not_mem_nil, or_false] at hn
        omega
      simp_arith [List.map_cons, List.map_nil, e1, e2, g2, g3, e3', -z66]
      exact ⟨_, s, t, k, l, n, rfl, getp (by simp), h2 s (by simp), h2 t (by simp), h2 k (by simp), h2 l (by simp), hn', d2.pushed.pushed, ((((h5.then_push).trans f1).then_push).trans f2).then_push.then_push⟩
noncomputable def sdR : S := (sSeq (sAsg (eTup (aCons (eCall F_l_next (aCons (eVar 0) (aCons (eC (.int 256)) aNil))) (aCons (eCall F_l_next (aCons (eVar 0) (aCons (eC (.int 256)) aNil))) aNil))) (gT [(gN 4), (gN 5)])) (sRet (eCB (c1 oTuple) (aCons (eLc (wAs rg1 (aCons (eVar 2) aNil)) (gN 3) tYe (eOp oMod (eOp oAdd (eOp oAdd (eVar 4) (eOp oMul (eVar 5) (eVar 3))) (eOp oDiv (eOp oMul (eVar 3) (eVar 3)) (eC (.int 256)))) (eC (.int 256))) [3]) aNil))))
theorem sd_eq : F_l_some_data = mkFn 2 6 (sSeq (sSet 2 (eOp oIx (eLst (aCons (eCall F_l_next (aCons (eVar 0) (aCons (eOp oAdd (eVar 1) (eC (.int 1))) aNil))) (aCons (eCall F_l_next (aCons (eVar 0) (aCons (eC (.int 9)) aNil))) (aCons (eVar 1) aNil)))) (eCall F_l_next (aCons (eVar 0) (aCons (eC (.int 3)) aNil))))) (sSeq (sIf (tAn (tOf (eOp oLt (eVar 2) (eC (.int 13)))) (tOf (eOp oEq (eCall F_l_next (aCons (eVar 0) (aCons (eC (.int 2)) aNil))) (eC (.int 0))))) (sRet (eCB (c1 oTuple) (aCons (eLc (wAs rg1 (aCons (eVar 2) aNil)) (gN 3) tYe (eCall0 F_l_next (aCons (eVar 0) (aCons (eC (.int 256)) aNil))) [3]) aNil))) sNx) sdR)) := rfl
theorem some_data_ok {A : Hs} {i : Nat} {most : Int} (dr : Drw A i) (hm : 8 ≤ most) (hm2 : most ≤ 1000) : Rk (F_l_some_data [.ref i, .int most] A) fun v A1 => ∃ l : List Int, v = rw_ l ∧ Bytes l ∧ (l.length : Int) ≤ most ∧ Drw A1 i ∧ Fr [i] A A1 := by
  obtain ⟨v1, B1, a1, b1, e1, d1, f1⟩ := next_ok (n := most + 1) dr (by omega) (by omega)
  obtain ⟨v2, B2, a2, b2, e2, d2, f2⟩ := next_ok (n := 9) d1 (by decide) (by decide)
  have d2' : Drw (B2 ++ [.lst [.int v1, .int v2, .int most]]) i := d2.pushed
  obtain ⟨v3, B3, a3, b3, e3, d3, f3⟩ := next_ok (n := 3) d2' (by decide) (by decide)
  obtain ⟨m, hm0, e4⟩ := pick_i (ns := [v1, v2, most]) a3 b3
  have hm60 : 0 ≤ m ∧ m ≤ most := by
    simp only [List.mem_cons, List.not_mem_nil, or_false] at hm0
    omega
  have n2 := d2.lt
  have g4 : B3[B2.length]? = some (.lst [.int v1, .int v2, .int most]) := f3.get zar (by rw [List.mem_singleton]; omega)
  have e4' : atI [D.int v1, .int v2, .int most] v3 = some (.int m) := e4
  have fa : Fr [i] A B3 := ((f1.trans f2).then_push).trans f3
  -- free bytes
  have free : ∀ B4, Drw B4 i → Fr [i] B3 B4 → Rk (lcL (SM.gN 3) tYe (eCall0 F_l_next (aCons (eVar 0) (aCons (eC (.int 256)) aNil))) tt [some (.ref i), some (.int most), some (.int m), none, none, none] (rgL 0 1 m.toNat) [] B4) fun l E => ∃ bs : List Int, l = bs.map D.int ∧ Bytes bs ∧ bs.length = m.toNat ∧ Drw E i ∧ Fr [i] B4 E := fun B4 d4 f4 => by
    refine (lc_run (fun j acc B => ∃ bs : List Int, acc = bs.map D.int ∧ Bytes bs ∧ bs.length = j ∧ Drw B i ∧ Fr [i] B4 B) (ds := rgL 0 1 m.toNat) ⟨[], rfl, (fun x hx => by cases hx), rfl, d4, .refl⟩ (by rw [rgL_len]; omega) (fun _ _ _ _ => trivial) ?_).mono ?_
    · intro j d hd acc B hP
      obtain ⟨rfl, hj⟩ := rgL_get hd
      obtain ⟨bs, rfl, hb, hl, dB, fB⟩ := hP
      obtain ⟨v, C1, v0, v1, e1, d1, f1⟩ := next_ok (n := 256) dB (by decide) (by decide)
      simp_arith [e1]
      refine ⟨bs ++ [v], by simp, fun x hx => ?_, by simp [hl], d1, fB.trans f1⟩
      rcases List.mem_append.mp hx with h | h
      · exact hb x h
      · rw [List.mem_singleton] at h; omega
    · rintro l B ⟨bs, h1, h2, h3, h4, h5⟩
      exact ⟨bs, h1, h2, by rw [h3, rgL_len], h4, h5⟩
  have drawn : ∀ B4, Drw B4 i → Fr [i] B3 B4 → Rk (finR (sdR [some (.ref i), some (.int most), some (.int m), none, none, none] B4)) fun v A1 => ∃ l : List Int, v = rw_ l ∧ Bytes l ∧ (l.length : Int) ≤ most ∧ Drw A1 i ∧ Fr [i] A A1 := fun B4 d4 f4 => by
    obtain ⟨x, C1, x0, x1, ex, dx, fx⟩ := next_ok (n := 256) d4 (by decide) (by decide)
    obtain ⟨y, C2, y0, y1, ey, dy, fy⟩ := next_ok (n := 256) dx (by decide) (by decide)
    have hx : ∀ k : Int, 0 ≤ k → k ≤ 1000 → (-18446744073709551616 < y ∧ y < 18446744073709551616) ∧ (-18446744073709551616 < k ∧ k < 18446744073709551616) := fun k h1 h2 => by omega
    unfold sdR
    simp_arith [ex, ey]
    rw [lc_go (fun _ => true) (fun d => match d with | .int k => .int ((x + y * k + k * k / 256) % 256) | _ => .non) trivial (by rw [rgL_len]; omega)]
    rotate_left
    · intro d hd
      obtain ⟨j, hj, rfl⟩ := mem_rgL hd
      generalize hk : (0 : Int) + (j : Int) * 1 = k
      have hk1 : 0 ≤ k ∧ k ≤ 1000 := by omega
      have hy1 := hx k hk1.1 hk1.2
      show Got _ _
      simp_arith []
      first | exact fun _ => rfl | exact fun _ => trivial | trivial
    rw [List.filter_eq_self.mpr (by simp)]
    have em : (rgL 0 1 m.toNat).map (fun d => match d with | .int k => D.int ((x + y * k + k * k / 256) % 256) | _ => .non) = ((List.range m.toNat).map fun (j : Nat) => (x + y * ((0 : Int) + (j : Int) * 1) + ((0 : Int) + (j : Int) * 1) * ((0 : Int) + (j : Int) * 1) / 256) % 256).map D.int := by
      unfold rgL
      rw [List.map_map, List.map_map]
      rfl
    rw [em]
    simp_arith []
    refine ⟨_, rfl, fun z hz => ?_, by rw [List.length_map, List.length_range]; omega, dy.pushed, ((((fa.trans f4).trans fx).trans fy).then_push)⟩
    obtain ⟨j, _, rfl⟩ := List.mem_map.mp hz
    have h1 := Int.emod_nonneg (x + y * ((0 : Int) + (j : Int) * 1) + ((0 : Int) + (j : Int) * 1) * ((0 : Int) + (j : Int) * 1) / 256) (show (256 : Int) ≠ 0 by decide)
    have h2 := Int.emod_lt_of_pos (x + y * ((0 : Int) + (j : Int) * 1) + ((0 : Int) + (j : Int) * 1) * ((0 : Int) + (j : Int) * 1) / 256) (show (0 : Int) < 256 by decide)
    constructor <;> omega
  rw [sd_eq]
  by_cases c : m < 13
  · obtain ⟨v4, B4, a4, b4, e5, d4, f4⟩ := next_ok (n := 2) d3 (by decide) (by decide)
    by_cases q : v4 = 0
    · subst q
      simp_arith [e1, e2, e3, g4, e4', c, e5, -z66]
      refine Rk.call (P := fun v E => ∃ (bs : List Int) (B0 : Hs), v = .ref (List.length B0) ∧ E = B0 ++ [.lst (bs.map D.int)] ∧ Bytes bs ∧ bs.length = m.toNat ∧ Drw B0 i ∧ Fr [i] B4 B0) (fun r => Rk (finR (seqR (ofE _ (RE.bind (RE.bind r _) _) _) _)) _) (lc_rk ((free B4 d4 f4).mono ?_)) ?_
      · rintro l B ⟨bs, h1, h2, h3, h4, h5⟩
        exact ⟨bs, B, rfl, by rw [h1], h2, h3, h4, h5⟩
      · rintro _ _ ⟨bs, B0, rfl, rfl, h2, h3, h4, h5⟩
        simp_arith []
        exact ⟨bs, rfl, h2, by omega, h4.pushed, ((fa.trans f4).trans h5).then_push⟩
    · simp_arith [e1, e2, e3, g4, e4', c, e5, q, -z66]
      exact drawn B4 d4 f4
  · simp_arith [e1, e2, e3, g4, e4', c, -z66]
    exact drawn B3 d3 .refl

/-! refusals, what is the same -/
open DL (Bytes)
theorem row_pd {p : Pq} : pd 40 p.row = true := by
  show (p.args.all (pd 39)) = true
  unfold Pq.args
  rw [List.all_eq_true]
  intro d hd
  simp only [List.mem_cons, List.not_mem_nil, or_false] at hd
  rcases hd with rfl | rfl | rfl | rfl | rfl | rfl | rfl | rfl
  · exact pd_int
  · exact pd_int
  · exact pd_int
  · exact pd_int
  · exact pd_int
  · exact pd_int
  · rfl
  · exact pd_ints
theorem same_ok {p : Pq} {x : Nat} {A : Hs} (h : A[x]? = some (.obj "Packet" p.fs)) (hl : p.d.length ≤ 100000) : ∃ A1, F_l_same [.ref x, p.row] A = .ok (.bl true) A1 ∧ Fr [] A A1 := by
  have e1 := told_ok h
  have e2 : ∀ B, oNe p.row p.row B = .ok (.bl false) B := fun B => oNe_pd row_pd
  have er : p.row = .tup [.int p.s, .int p.t, .int p.k, .int p.l, .int p.n, .int p.f, .bl p.m, .tup (p.d.map D.int)] := rfl
  have i1 : oIsi os_ xs_ tb_ (.ref x) (.nm "Packet") A = .ok (.bl true) A := by
    unfold oIsi isiD kdOf
    simp only [h]
    rfl
  suffices H : Rk (F_l_same [.ref x, p.row] A) fun v A1 => v = .bl true ∧ Fr [] A A1 by
    obtain ⟨_, A1, e, rfl, f⟩ := H.ex; exact ⟨A1, e, f⟩
  rw [er] at e1 e2 ⊢
  unfold Pq.fs at h
  unfold F_l_same
  simp_arith [i1, h, e1, e2]
  rw [lc_go (fun _ => false) id trivial (by rw [rgL_len]; decide)]
  rotate_left
  · intro d hd
    obtain ⟨j, hj, rfl⟩ := mem_rgL hd
    rcases (by omega : j = 0 ∨ j = 1 ∨ j = 2 ∨ j = 3 ∨ j = 4 ∨ j = 5 ∨ j = 6 ∨ j = 7) with rfl | rfl | rfl | rfl | rfl | rfl | rfl | rfl <;>
      (show Got _ _; simp_arith [oNe_bb]; first | exact ⟨rfl, rfl, fun z => nomatch z⟩ | exact fun z => nomatch z | trivial)
  rw [List.filter_eq_nil_iff.mpr (by simp)]
  have g0 : oNe (.ref A.length) (.ref (A.length + 1)) (A ++ [.lst []] ++ [.lst []]) = .ok (.bl false) (A ++ [.lst []] ++ [.lst []]) := oNe_lst (l := []) (get_push zar) (getp (by simp)) rfl
  simp_arith [g0]
  rw [lc_go (fun _ => false) id trivial (by rw [List.length_map]; omega)]
  rotate_left
  · intro d hd
    obtain ⟨b, hb, rfl⟩ := List.mem_map.mp hd
    show Got _ _
    simp_arith []
    first | exact fun z => nomatch z | trivial
  rw [List.filter_eq_nil_iff.mpr (by simp)]
  obtain ⟨B, hB⟩ : ∃ B, B = A ++ [O.lst []] ++ [O.lst []] := ⟨_, rfl⟩
  have fB : Fr [] A B := by rw [hB]; exact Fr.push.then_push
  have lB : B.length = A.length + 2 := by rw [hB]; simp
  have g1 : oEq (.ref B.length) (.ref (B.length + 1)) (B ++ [.lst []] ++ [.lst []]) = .ok (.bl true) (B ++ [.lst []] ++ [.lst []]) := oEq_lst (l := []) (get_push zar) (getp (by simp)) rfl
  rw [← hB]
  simp_arith [g1]
  exact (fB.then_push).then_push

/-! joiners: plain -/
section
variable {κ : Type} [DecidableEq κ] [BEq κ] [LawfulBEq κ] {e : κ → D}
def kvG (e : κ → D) (L : List (κ × D)) : List (D × D) := L.map fun p => (e p.1, p.2)
theorem lookG {a k : κ} {x : D} {L : List (κ × D)} : ((a, x) :: L).lookup k = if k = a then some x else L.lookup k := by
  rw [List.lookup_cons]
  by_cases h : k = a
  · subst h; simp
  · rw [if_neg h]
    have : (k == a) = false := by simpa using h
    rw [this]
theorem kget_kvG (he : ∀ a b, keq (e a) (e b) = decide (a = b)) {L : List (κ × D)} {k : κ} : kget (kvG e L) (e k) = L.lookup k := by
  induction L with
  | nil => rfl
  | cons p L ih =>
    obtain ⟨a, d⟩ := p
    unfold kvG at ih ⊢
    rw [List.map_cons, z0w, he, lookG, ih]
    by_cases h : a = k
    · subst h; simp
    · simp [h, Ne.symm h]
theorem khas_kvG (he : ∀ a b, keq (e a) (e b) = decide (a = b)) {L : List (κ × D)} {k : κ} (h : L.lookup k = none) : khas (kvG e L) (e k) = false := by
  induction L with
  | nil => rfl
  | cons p L ih =>
    obtain ⟨a, d⟩ := p
    rw [lookG] at h
    by_cases q : k = a
    · rw [if_pos q] at h; cases h
    · rw [if_neg q] at h
      have := ih h
      unfold khas kvG at this ⊢
      rw [List.map_cons, List.any_cons, this, he, decide_eq_false (fun e => q e.symm)]; rfl
theorem kput_kvG (he : ∀ a b, keq (e a) (e b) = decide (a = b)) {L : List (κ × D)} {k : κ} {d : D} (h : L.lookup k = none) : kput (kvG e L) (e k) d = kvG e (L ++ [(k, d)]) := by
  unfold kput; rw [khas_kvG he h]; simp [kvG]
theorem kdel_kvG (he : ∀ a b, keq (e a) (e b) = decide (a = b)) {L : List (κ × D)} {k : κ} : kdel (kvG e L) (e k) = kvG e (L.filter fun p => decide (p.1 ≠ k)) := by
  induction L with
  | nil => rfl
  | cons p L ih =>
    obtain ⟨a, d⟩ := p
    unfold kdel kvG at ih ⊢
    rw [List.map_cons, List.filter_cons, List.filter_cons, ih, he]
    by_cases h : a = k
    · simp [h]
    · simp [h]
theorem len_kvG {L : List (κ × D)} : (kvG e L).length = L.length := by simp [kvG]
end
abbrev Four := Int × Int × Int × Int
def fD (f : Four) : D := .tup [.int f.1, .int f.2.1, .int f.2.2.1, .int f.2.2.2]
theorem fD_keq (a b : Four) : keq (fD a) (fD b) = decide (a = b) := by
  have h := keq_kT [.inl a.1, .inl a.2.1, .inl a.2.2.1, .inl a.2.2.2] [.inl b.1, .inl b.2.1, .inl b.2.2.1, .inl b.2.2.2]
  have h1 : kT [.inl a.1, .inl a.2.1, .inl a.2.2.1, .inl a.2.2.2] = fD a := rfl
  have h2 : kT [.inl b.1, .inl b.2.1, .inl b.2.2.1, .inl b.2.2.2] = fD b := rfl
  rw [h1, h2] at h
  rw [h]
  obtain ⟨a1, a2, a3, a4⟩ := a
  obtain ⟨b1, b2, b3, b4⟩ := b
  by_cases q : (a1, a2, a3, a4) = (b1, b2, b3, b4)
  · rw [decide_eq_true q]
    cases q
    exact decide_eq_true rfl
  · rw [decide_eq_false q]
    refine decide_eq_false fun z => q ?_
    simp only [List.cons.injEq, Sum.inl.injEq, and_true] at z
    obtain ⟨z1, z2, z3, z4⟩ := z
    rw [z1, z2, z3, z4]
theorem fD_ok {f : Four} : keyOk true (fD f) = true := rfl
/-- bytes by their places -/
def kd (kv : List (Int × Int)) : List (D × D) := kvG D.int (kv.map fun p => (p.1, D.int p.2))
theorem ii_keq (a b : Int) : keq (.int a) (.int b) = decide (a = b) := z74
theorem look_kd {kv : List (Int × Int)} {k : Int} : (kv.map fun p => (p.1, D.int p.2)).lookup k = (kv.lookup k).map D.int := by
  induction kv with
  | nil => rfl
  | cons p kv ih =>
    obtain ⟨a, b⟩ := p
    rw [List.map_cons, lookG, ih, List.lookup_cons]
    by_cases h : k = a
    · subst h; simp
    · rw [if_neg h]
      have : (k == a) = false := by simpa using h
      rw [this]
theorem kget_kd {kv : List (Int × Int)} {k : Int} : kget (kd kv) (.int k) = (kv.lookup k).map D.int := by
  unfold kd
  rw [kget_kvG ii_keq, look_kd]
theorem len_kd {kv : List (Int × Int)} : (kd kv).length = kv.length := by unfold kd; rw [len_kvG, List.length_map]
theorem keys_kd {kv : List (Int × Int)} : (kd kv).map Prod.fst = (kv.map Prod.fst).map D.int := by
  unfold kd kvG
  rw [List.map_map, List.map_map, List.map_map]
  rfl
def sd (kv : List (Int × Int)) (p b : Int) : List (Int × Int) := match kv.lookup p with
  | some _ => kv
  | none => kv ++ [(p, b)]
theorem kput_kd {kv : List (Int × Int)} {p b : Int} (h : kv.lookup p = none) : kput (kd kv) (.int p) (.int b) = kd (kv ++ [(p, b)]) := by
  unfold kd
  rw [kput_kvG ii_keq (by rw [look_kd, h]; rfl), List.map_append]
  rfl
def sds (kv : List (Int × Int)) (p : Int) : List Int → List (Int × Int)
  | [] => kv
  | b :: r => sds (sd kv p b) (p + 1) r
theorem sds_snoc : ∀ {l : List Int} {kv : List (Int × Int)} {p b : Int}, sds kv p (l ++ [b]) = sd (sds kv p l) (p + l.length) b
  | [], kv, p, b => by simp [sds]
  | x :: l, kv, p, b => by
    rw [List.cons_append, sds, sds_snoc, sds, List.length_cons]
    congr 1
    omega
/-- places without one twice, between bounds, bytes -/
structure Kv (kv : List (Int × Int)) : Prop where
  nd : (kv.map Prod.fst).Nodup
  lo : ∀ z ∈ kv, 0 ≤ z.1 ∧ z.1 ≤ 999
  by_ : ∀ z ∈ kv, 0 ≤ z.2 ∧ z.2 ≤ 255
theorem look_none {kv : List (Int × Int)} {p : Int} (h : kv.lookup p = none) : p ∉ kv.map Prod.fst := by
  induction kv with
  | nil => simp
  | cons z kv ih =>
    obtain ⟨a, b⟩ := z
    rw [List.lookup_cons] at h
    by_cases q : p = a
    · subst q; simp at h
    · have : (p == a) = false := by simpa using q
      rw [this] at h
      rw [List.map_cons, List.mem_cons]
      rintro (w | w)
      · exact q w
      · exact ih h w
theorem look_some {kv : List (Int × Int)} {p : Int} (h : p ∈ kv.map Prod.fst) : ∃ b, kv.lookup p = some b ∧ (p, b) ∈ kv := by
  induction kv with
  | nil => simp at h
  | cons z kv ih =>
    obtain ⟨a, b⟩ := z
    rw [List.lookup_cons]
    by_cases q : p = a
    · subst q; exact ⟨b, by simp, List.mem_cons_self⟩
    · have : (p == a) = false := by simpa using q
      rw [this]
      rw [List.map_cons, List.mem_cons] at h
      obtain ⟨b', h1, h2⟩ := ih (h.resolve_left q)
      exact ⟨b', h1, List.mem_cons_of_mem _ h2⟩
theorem Kv.sd {kv : List (Int × Int)} {p b : Int} (h : Kv kv) (hp : 0 ≤ p ∧ p ≤ 999) (hb : 0 ≤ b ∧ b ≤ 255) : Kv (sd kv p b) := by
  unfold Kk.sd
  cases q : kv.lookup p with
  | some x => exact h
  | none =>
    refine ⟨?_, fun z hz => ?_, fun z hz => ?_⟩
    · simp only [List.map_append, List.map_cons, List.map_nil]
      rw [List.nodup_append]
      refine ⟨h.nd, by simp, fun a ha c hc => ?_⟩
      rw [List.mem_singleton] at hc
      rw [hc]
      rintro rfl
      exact look_none q ha
    · rcases List.mem_append.mp hz with w | w
      · exact h.lo z w
      · rw [List.mem_singleton] at w; rw [w]; exact hp
    · rcases List.mem_append.mp hz with w | w
      · exact h.by_ z w
      · rw [List.mem_singleton] at w; rw [w]; exact hb
theorem Kv.sds : ∀ {l : List Int} {kv : List (Int × Int)} {p : Int}, Kv kv → 0 ≤ p → p + l.length ≤ 1000 → (∀ b ∈ l, 0 ≤ b ∧ b ≤ 255) → Kv (sds kv p l)
  | [], kv, p, h, _, _, _ => h
  | b :: l, kv, p, h, h0, h1, hb => by
    rw [List.length_cons] at h1
    rw [Kk.sds]
    exact Kv.sds (h.sd ⟨h0, by omega⟩ (hb b List.mem_cons_self)) (by omega) (by omega) fun x hx => hb x (List.mem_cons_of_mem _ hx)
/-- so many unlike numbers below a bound are all -/
theorem all_there : ∀ (n : Nat) {l : List Int}, l.Nodup → (∀ x ∈ l, 0 ≤ x ∧ x < n) → l.length ≤ n ∧ (l.length = n → ∀ i : Nat, i < n → (i : Int) ∈ l)
  | 0, l, _, h => by
    cases l with
    | nil => exact ⟨Nat.le_refl _, fun _ i hi => absurd hi (Nat.not_lt_zero _)⟩
    | cons x l => have := h x List.mem_cons_self; omega
  | n + 1, l, hn, h => by
    by_cases q : (n : Int) ∈ l
    · have hn2 : (l.erase (n : Int)).Nodup := hn.erase _
      obtain ⟨h1, h2⟩ := all_there n hn2 (fun x hx => by
        have hx2 := List.mem_of_mem_erase hx
        have h3 := h x hx2
        have : x ≠ n := by
          rintro rfl
          exact (List.Nodup.not_mem_erase hn) hx
        omega)
      have hl := List.length_erase_of_mem q
      have hp : 0 < l.length := List.length_pos_of_mem q
      refine ⟨by omega, fun e i hi => ?_⟩
      by_cases z : i = n
      · rw [z]; exact q
      · exact List.mem_of_mem_erase (h2 (by omega) i (by omega))
    · obtain ⟨h1, h2⟩ := all_there n hn (fun x hx => by
        have h3 := h x hx
        have : x ≠ n := by rintro rfl; exact q hx
        omega)
      exact ⟨by omega, fun e => by omega⟩
structure Jh where
  since : Int
  life : Int
  en : Option Int
  kv : List (Int × Int)
def oI : Option Int → D
  | none => .non
  | some i => .int i
/-- the greatest place, or -1 -/
def mxp (kv : List (Int × Int)) : Int := if kv = [] then -1 else SM.mx (kv.map Prod.fst)
def inB (en : Option Int) (kv : List (Int × Int)) : Bool := match en with
  | none => true
  | some e => decide (mxp kv < e)
/-- a piece more -/
def Jh.hold (h : Jh) (p : Pq) : Jh × Bool :=
  let kv := sds h.kv p.f p.d
  let life := min h.life p.l
  if p.m = true then (⟨h.since, life, h.en, kv⟩, inB h.en kv)
  else match h.en with
    | some e => if e ≠ p.f + p.d.length then (⟨h.since, life, h.en, kv⟩, false) else (⟨h.since, life, some (p.f + p.d.length), kv⟩, inB (some (p.f + p.d.length)) kv)
    | none => (⟨h.since, life, some (p.f + p.d.length), kv⟩, inB (some (p.f + p.d.length)) kv)
def Jh.there (h : Jh) : Bool := match h.en with
  | none => false
  | some e => decide ((h.kv.length : Int) = e)
def dataK (kv : List (Int × Int)) (n : Nat) : List Int := (List.range n).map fun (i : Nat) => (kv.lookup (i : Int)).getD 0
def Jh.made (h : Jh) (f : Four) : Pq := ⟨f.1, f.2.1, f.2.2.1, h.life, f.2.2.2, 0, false, dataK h.kv (h.en.getD 0).toNat⟩
def Pq.four (p : Pq) : Four := (p.s, p.t, p.k, p.n)
/-- what is held, by packets -/
def hen (hs : List (Four × Jh)) (p : Pq) (tick : Int) : Jh := (hs.lookup p.four).getD ⟨tick, p.l, none, []⟩
def ens (hs : List (Four × Jh)) (p : Pq) (tick : Int) : List (Four × Jh) := match hs.lookup p.four with
  | some _ => hs
  | none => hs ++ [(p.four, ⟨tick, p.l, none, []⟩)]
def wo (hs : List (Four × Jh)) (f : Four) : List (Four × Jh) := hs.filter fun z => decide (z.1 ≠ f)
def wi (hs : List (Four × Jh)) (f : Four) (h : Jh) : List (Four × Jh) := hs.map fun z => if z.1 = f then (z.1, h) else z
def tk1 (hs : List (Four × Jh)) (p : Pq) (h : Jh × Bool) : List (Four × Jh) × Option Pq :=
  if h.2 = false then (wo hs p.four, none)
  else if h.1.there = true then (wo hs p.four, some (h.1.made p.four))
  else (wi hs p.four h.1, none)
def held (hs : List (Four × Jh)) : Int := (hs.map fun z => (z.2.kv.length : Int)).sum
def old (pat tick : Int) (hs : List (Four × Jh)) : List (Four × Jh) := hs.filter fun z => decide (tick - z.2.since < pat)
structure Jh.Ok (h : Jh) : Prop where
  life : 0 ≤ h.life ∧ h.life ≤ 255
  kv : Kv h.kv
  en : ∀ e, h.en = some e → 0 ≤ e ∧ e ≤ 1000
def Four.Ok (f : Four) : Prop := (0 ≤ f.1 ∧ f.1 ≤ 255) ∧ (0 ≤ f.2.1 ∧ f.2.1 ≤ 255) ∧ (0 ≤ f.2.2.1 ∧ f.2.2.1 ≤ 255) ∧ (0 ≤ f.2.2.2 ∧ f.2.2.2 ≤ 65535)
theorem Jh.Ok.hold {h : Jh} {p : Pq} (hk : h.Ok) (hp : p.Ok) : (h.hold p).1.Ok := by
  have a := hp.l
  have b := hk.life
  have c := hp.f
  have d := hp.dl
  have kv : Kv (sds h.kv p.f p.d) := hk.kv.sds c.1 (by omega) fun x hx => hp.b x hx
  have l : 0 ≤ min h.life p.l ∧ min h.life p.l ≤ 255 := by omega
  unfold Jh.hold
  split
  · exact ⟨l, kv, hk.en⟩
  · split
    · rename_i e he
      split
      · exact ⟨l, kv, hk.en⟩
      · exact ⟨l, kv, fun e' h' => by cases h'; omega⟩
    · exact ⟨l, kv, fun e' h' => by cases h'; omega⟩
theorem Pq.Ok.four {p : Pq} (hp : p.Ok) : Four.Ok p.four := ⟨hp.s, hp.t, hp.k, hp.n⟩
/-- all bytes are there -/
theorem full_ {kv : List (Int × Int)} {e : Int} (hk : Kv kv) (hb : mxp kv < e) (hl : (kv.length : Int) = e) : ∀ i : Nat, i < e.toNat → ∃ b, kv.lookup (i : Int) = some b ∧ 0 ≤ b ∧ b ≤ 255 := by
  intro i hi
  have hlt : ∀ x ∈ kv.map Prod.fst, 0 ≤ x ∧ x < (e.toNat : Nat) := fun x hx => by
    obtain ⟨z, hz, rfl⟩ := List.mem_map.mp hx
    refine ⟨(hk.lo z hz).1, ?_⟩
    have hne : kv ≠ [] := by rintro rfl; cases hz
    unfold mxp at hb
    rw [if_neg hne] at hb
    have := (mx_ok (l := kv.map Prod.fst) (by simpa using hne)).2 _ hx
    omega
  obtain ⟨_, h2⟩ := all_there e.toNat hk.nd hlt
  have := h2 (by rw [List.length_map]; omega) i hi
  obtain ⟨b, h3, h4⟩ := look_some this
  exact ⟨b, h3, hk.by_ _ h4⟩
theorem made_ok {h : Jh} {f : Four} {e : Int} (hk : h.Ok) (hf : Four.Ok f) (he : h.en = some e) (hb : mxp h.kv < e) (hl : (h.kv.length : Int) = e) : (h.made f).Ok := by
  obtain ⟨f1, f2, f3, f4⟩ := hf
  have h1 := hk.en e he
  refine ⟨f1, f2, f3, hk.life, f4, ?_, ?_, ?_⟩
  · show (0 : Int) ≤ 0 ∧ (0 : Int) ≤ 1000
    decide
  · intro x hx
    have hx : x ∈ dataK h.kv (h.en.getD 0).toNat := hx
    rw [he] at hx
    obtain ⟨i, hi, rfl⟩ := List.mem_map.mp hx
    rw [List.mem_range] at hi
    obtain ⟨b, h3, h4⟩ := full_ hk.kv hb hl i hi
    rw [h3]
    exact h4
  · show ((dataK h.kv (h.en.getD 0).toNat).length : Int) ≤ 1000 - 0
    unfold dataK
    rw [he, List.length_map, List.length_range]
    show ((e.toNat : Nat) : Int) ≤ _
    omega

/-! heaps of pieces -/
open DL (Bytes)
theorem Kv.len {kv : List (Int × Int)} (h : Kv kv) : kv.length ≤ 1000 := by
  have := (all_there 1000 h.nd (fun x hx => by
    obtain ⟨z, hz, rfl⟩ := List.mem_map.mp hx
    have := h.lo z hz
    omega)).1
  rwa [List.length_map] at this
def Jh.fs (h : Jh) (b : Nat) : List (String × D) := [("since", .int h.since), ("least_life", .int h.life), ("end_place", oI h.en), ("by_places", .ref b)]
structure IsH (A : Hs) (x b : Nat) (h : Jh) : Prop where
  o : A[x]? = some (.obj "Heap" (h.fs b))
  d : A[b]? = some (.dic false false (kd h.kv))
theorem IsH.ne {A : Hs} {x b : Nat} {h : Jh} (k : IsH A x b h) : x ≠ b := by
  rintro rfl
  have := k.o
  rw [k.d] at this
  cases this
theorem IsH.frame {A B : Hs} {x b : Nat} {h : Jh} {s : List Nat} (k : IsH A x b h) (f : Fr s A B) (hx : x ∉ s) (hb : b ∉ s) : IsH B x b h := ⟨f.get k.o hx, f.get k.d hb⟩
theorem set_same {A : Hs} {i : Nat} {o : O} (h : A[i]? = some o) : A.set i o = A := by
  obtain ⟨hl, rfl⟩ := List.getElem?_eq_some_iff.mp h
  exact List.set_getElem_self hl
theorem getpp {A : Hs} {u : O} {i : Nat} (h : i = A.length) : (A ++ [u])[i]? = some u := by subst h; exact zar
theorem ne_obj {A : Hs} {x q : Nat} {C C' : String} {fs fs' : List (String × D)} (h : A[x]? = some (.obj C fs)) (k : A[q]? = some (.obj C' fs')) (n : C ≠ C') : x ≠ q := by
  rintro rfl
  rw [h] at k
  injection k with k
  injection k with k
  exact n k
theorem heap_ok {A : Hs} {tick l : Int} : Rk (make "Heap" F_Heap___init__ [.int tick, .int l] A) fun v A1 => v = .ref A.length ∧ IsH A1 A.length (A.length + 1) ⟨tick, l, none, []⟩ ∧ Fr [] A A1 := by
  refine Rk.make ?_
  unfold F_Heap___init__
  simp_arith []
  refine ⟨⟨?_, ?_⟩, by walk_at "fr!"⟩
  · first | rfl | (simp_arith []; rfl)
  · first | (refine getpp ?_; simp; done) | (rw [z4b (by omega)]; refine getpp ?_; simp)
theorem setd_kd {B : Hs} {b : Nat} {kv : List (Int × Int)} {p y : Int} (h : B[b]? = some (.dic false false (kd kv))) (hl : kv.length ≤ 1000) : ∃ v, dsd_ B b (.int p) (.int y) (some (.dic false false (kd kv))) = .ok v (B.set b (.dic false false (kd (sd kv p y)))) := by
  cases q : kv.lookup p with
  | some z =>
    refine ⟨.int z, ?_⟩
    rw [z95 rfl (by rw [len_kd]; omega) (by rw [kget_kd, q]; rfl)]
    unfold sd
    rw [q]
    simp only
    rw [set_same h]
  | none =>
    refine ⟨.int y, ?_⟩
    rw [z8m rfl (by rw [len_kd]; omega) (by rw [kget_kd, q]; rfl), kput_kd q]
    unfold sd
    rw [q]
theorem mx_kd {B : Hs} {kv : List (Int × Int)} : mxd_ (.int (-1)) B (some (.dic false false (kd kv))) = .ok (.int (mxp kv)) B := by
  unfold mxp
  by_cases q : kv = []
  · subst q
    exact z7n
  · rw [if_neg q]
    exact z7f keys_kd (by simpa using q)
theorem sds_len : ∀ {l : List Int} {kv : List (Int × Int)} {p : Int}, (sds kv p l).length ≤ kv.length + l.length
  | [], kv, p => by rw [sds]; simp
  | b :: l, kv, p => by
    rw [sds]
    have h := sds_len (l := l) (kv := sd kv p b) (p := p + 1)
    have : (sd kv p b).length ≤ kv.length + 1 := by
      unfold sd
      split <;> simp
    rw [List.length_cons]
    omega
noncomputable def hoL : S := (sFor (wOf wkEA (eFld ["Packet"] "data" (eVar 1))) (gT [(gN 2), (gN 3)]) (sDrop (eDSetd (eFld ["Heap"] "by_places" (eVar 0)) (eOp oAdd (eFld ["Packet"] "first" (eVar 1)) (eVar 2)) (eVar 3))))
noncomputable def hoE : S := (sSeq (sIf (tNo (tOf (eFld ["Packet"] "more" (eVar 1)))) (sSeq (sSet 4 (eOp oAdd (eFld ["Packet"] "first" (eVar 1)) (eCB (c1 oLen) (aCons (eFld ["Packet"] "data" (eVar 1)) aNil)))) (sSeq (sIf (tAn (tOf (eOp oIsNot (eFld ["Heap"] "end_place" (eVar 0)) (eC .non))) (tOf (eOp oNe (eFld ["Heap"] "end_place" (eVar 0)) (eVar 4)))) (sRet (eC (.bl false))) sNx) (sFl ["Heap"] "end_place" (eVar 0) (eVar 4)))) sNx) (sRet (eOr (eOp oIs (eFld ["Heap"] "end_place" (eVar 0)) (eC .non)) (eOp oLt (eCK oMaxKDf (eFld ["Heap"] "by_places" (eVar 0)) (eUn oNeg (eC (.int 1)))) (eFld ["Heap"] "end_place" (eVar 0))))))
theorem ho_eq : F_Heap_hold = mkFn 2 5 (sSeq (sFl ["Heap"] "least_life" (eVar 0) (eCB (c2 oMin2) (aCons (eFld ["Heap"] "least_life" (eVar 0)) (aCons (eFld ["Packet"] "life" (eVar 1)) aNil)))) (sSeq hoL hoE)) := rfl
theorem hoL_ok {A : Hs} {x b q : Nat} {h : Jh} {p : Pq} {o4 : Option D} (k : IsH A x b h) (hp : p.Ok) (hkv : Kv h.kv) (hq : A[q]? = some (.obj "Packet" p.fs)) (K : S) (P : D → Hs → Prop)
    (hk : ∀ B o2 o3, IsH B x b { h with kv := sds h.kv p.f p.d } → B[q]? = some (.obj "Packet" p.fs) → Fr [x, b] A B → Rk (finR (K [some (.ref x), some (.ref q), o2, o3, none] B)) P) :
    Rk (finR (seqR (hoL [some (.ref x), some (.ref q), none, none, none] A) K)) P := by
  have hL : (p.d.length : Int) ≤ 1000 := by have := hp.dl; have := hp.f; omega
  have hq' : A[q]? = some (.obj "Packet" [("source", .int p.s), ("target", .int p.t), ("kind", .int p.k), ("life", .int p.l), ("name", .int p.n), ("first", .int p.f), ("more", .bl p.m), ("data", .tup (p.d.map D.int))]) := hq
  have nqb : b ≠ q := by rintro rfl; have := k.d; rw [hq] at this; cases this
  have hkl := hkv.len
  unfold hoL
  simp_arith [hq']
  refine for_go (R := fun rs => Rk (finR (seqR rs K)) P) (fun j e B => ∃ o2 o3, e = [some (.ref x), some (.ref q), o2, o3, none] ∧ IsH B x b { h with kv := sds h.kv p.f (p.d.take j) } ∧ B[q]? = some (.obj "Packet" p.fs) ∧ Fr [x, b] A B) ⟨none, none, rfl, by rw [List.take_zero]; exact k, hq, .refl⟩ (fun _ _ _ _ _ => trivial) ?_ ?_
  · rintro j _ B d hd ⟨o2, o3, rfl, kB, hB, fB⟩
    obtain ⟨y, hy, rfl⟩ := enumL_get hd
    rw [List.getElem?_map] at hy
    obtain ⟨z, hz, rfl⟩ := Option.map_eq_some_iff.mp hy
    have hj := lt_of_get hz
    have o1 := kB.o
    have o2' := kB.d
    unfold Jh.fs at o1
    have hB' : B[q]? = some (.obj "Packet" [("source", .int p.s), ("target", .int p.t), ("kind", .int p.k), ("life", .int p.l), ("name", .int p.n), ("first", .int p.f), ("more", .bl p.m), ("data", .tup (p.d.map D.int))]) := hB
    have hs1 := sds_len (l := p.d.take j) (kv := h.kv) (p := p.f)
    rw [List.length_take] at hs1
    obtain ⟨v, ev⟩ := setd_kd (p := p.f + (j : Int)) (y := z) o2' (by
      have kk : Kv (sds h.kv p.f (p.d.take j)) := hkv.sds hp.f.1 (by rw [List.length_take]; have := hp.dl; omega) fun w hw => hp.b w (List.mem_of_mem_take hw)
      exact kk.len)
    show Got _ _
    simp_arith [o1, o2', hB', ev]
    refine ⟨_, _, rfl, ⟨?_, ?_⟩, ?_, fB.then_set (.inl (by simp))⟩
    · rw [z4b (kB.ne.symm)]; exact kB.o
    · rw [zaz (lt_of_get o2'), List.take_succ, hz, Option.toList_some, sds_snoc, List.length_take, Nat.min_eq_left (by omega)]
    · first | rfl | (rw [z4b nqb]; exact hB)
  · rintro _ B ⟨o2, o3, rfl, kB, hB, fB⟩
    rw [enumL_len, List.length_map, List.take_length] at kB
    exact hk B o2 o3 kB hB fB
theorem hold_ok {A : Hs} {x b q : Nat} {h : Jh} {p : Pq} (k : IsH A x b h) (hh : h.Ok) (hp : p.Ok) (hq : A[q]? = some (.obj "Packet" p.fs)) : Rk (F_Heap_hold [.ref x, .ref q] A) fun v A1 => v = .bl (h.hold p).2 ∧ IsH A1 x b (h.hold p).1 ∧ Fr [x, b] A A1 := by
  have hq' : A[q]? = some (.obj "Packet" [("source", .int p.s), ("target", .int p.t), ("kind", .int p.k), ("life", .int p.l), ("name", .int p.n), ("first", .int p.f), ("more", .bl p.m), ("data", .tup (p.d.map D.int))]) := hq
  have o1 := k.o
  have nx := lt_of_get o1
  have nqx : x ≠ q := ne_obj o1 hq (by decide)
  have o1' := o1
  unfold Jh.fs at o1'
  rw [ho_eq]
  simp_arith [o1', hq']
  obtain ⟨h1, hh1⟩ : ∃ h1 : Jh, h1 = { h with life := min h.life p.l } := ⟨_, rfl⟩
  have k1 : IsH (A.set x (.obj "Heap" [("since", .int h.since), ("least_life", .int (min h.life p.l)), ("end_place", oI h.en), ("by_places", .ref b)])) x b h1 := by
    rw [hh1]
    exact ⟨zaz nx, by rw [z4b k.ne]; exact k.d⟩
  have hq1 : (A.set x (.obj "Heap" [("since", .int h.since), ("least_life", .int (min h.life p.l)), ("end_place", oI h.en), ("by_places", .ref b)]))[q]? = some (.obj "Packet" p.fs) := by rw [z4b nqx]; exact hq
  refine hoL_ok (o4 := none) k1 hp (by rw [hh1]; exact hh.kv) hq1 hoE _ fun B o2 o3 kB hB fB => ?_
  have fA : Fr [x, b] A B := (Fr.set (by simp)).trans fB
  have oB := kB.o
  have dB := kB.d
  have nB := lt_of_get oB
  unfold Jh.fs at oB
  have hB' : B[q]? = some (.obj "Packet" [("source", .int p.s), ("target", .int p.t), ("kind", .int p.k), ("life", .int p.l), ("name", .int p.n), ("first", .int p.f), ("more", .bl p.m), ("data", .tup (p.d.map D.int))]) := hB
  have em := mx_kd (B := B) (kv := sds h1.kv p.f p.d)
  have hkv1 : h1.kv = h.kv := by rw [hh1]
  have hen1 : h1.en = h.en := by rw [hh1]
  have hsi1 : h1.since = h.since := by rw [hh1]
  have hli1 : h1.life = min h.life p.l := by rw [hh1]
  rw [hkv1] at em dB
  simp only [hkv1, hen1, hsi1, hli1] at oB dB kB
  have dB : B[b]? = some (.dic false false (kd (sds h.kv p.f p.d))) := dB
  unfold hoE
  unfold Jh.hold
  cases hm : p.m with
  | true =>
    rw [hm] at hB'
    cases he : h.en with
    | none =>
      rw [he] at oB
      unfold oI at oB
      simp_arith [hB', oB]
      refine ⟨rfl, ⟨?_, dB⟩, fA⟩
      unfold Jh.fs oI
      exact oB
    | some e =>
      rw [he] at oB
      unfold oI at oB
      simp_arith [hB', oB, dB, em]
      refine ⟨rfl, ⟨?_, dB⟩, fA⟩
      unfold Jh.fs oI
      exact oB
  | false =>
    rw [hm] at hB'
    have nbx : x ≠ b := k.ne
    have em2 : ∀ o, mxd_ (.int (-1)) (B.set x o) (some (.dic false false (kd (sds h.kv p.f p.d)))) = .ok (.int (mxp (sds h.kv p.f p.d))) (B.set x o) := fun o => mx_kd
    have dB2 : ∀ o, (B.set x o)[b]? = some (.dic false false (kd (sds h.kv p.f p.d))) := fun o => by rw [z4b nbx]; exact dB
    have fS : ∀ o, Fr [x, b] A (B.set x o) := fun o => fA.then_set (.inl (by simp))
    cases he : h.en with
    | none =>
      rw [he] at oB
      unfold oI at oB
      simp_arith [hB', oB, dB2, em2]
      refine ⟨rfl, ⟨?_, dB2 _⟩, fS _⟩
      unfold Jh.fs oI
      exact zaz nB
    | some e =>
      rw [he] at oB
      unfold oI at oB
      by_cases q : e = p.f + (p.d.length : Int)
      · subst q
        simp_arith [hB', oB, dB2, em2]
        refine ⟨rfl, ⟨?_, dB2 _⟩, fS _⟩
        unfold Jh.fs oI
        exact zaz nB
      · simp_arith [hB', oB, q]
        refine ⟨⟨?_, dB⟩, fA⟩
        unfold Jh.fs oI
        exact oB
theorem there_ok {A : Hs} {x b : Nat} {h : Jh} (k : IsH A x b h) : F_Heap_is_there [.ref x] A = .ok (.bl h.there) A := by
  have o1 := k.o
  have d1 := k.d
  unfold Jh.fs at o1
  unfold F_Heap_is_there
  cases he : h.en with
  | none =>
    rw [he] at o1
    unfold oI at o1
    unfold Jh.there
    rw [he]
    simp_arith [o1]
  | some e =>
    rw [he] at o1
    unfold oI at o1
    unfold Jh.there
    rw [he]
    simp_arith [o1, d1, len_kd]
theorem hmade_ok {A : Hs} {x b : Nat} {h : Jh} {f : Four} {e : Int} (k : IsH A x b h) (hh : h.Ok) (hf : Four.Ok f) (he : h.en = some e) (hb : mxp h.kv < e) (hl : (h.kv.length : Int) = e) : Rk (F_Heap_packet_made [.ref x, fD f] A) fun v A1 => ∃ r, v = .ref r ∧ A1[r]? = some (.obj "Packet" (h.made f).fs) ∧ A.length ≤ r ∧ Fr [] A A1 := by
  have o1 := k.o
  have d1 := k.d
  have hkl := hh.kv.len
  obtain ⟨n, rfl⟩ : ∃ n : Nat, e = (n : Int) := ⟨e.toNat, by omega⟩
  have full := full_ hh.kv hb hl
  rw [Int.toNat_natCast] at full
  have hem : (h.made f).d = dataK h.kv n := by
    show dataK h.kv (h.en.getD 0).toNat = _
    rw [he]; rfl
  unfold Jh.fs at o1
  rw [he] at o1
  unfold oI at o1
  have key : lcL (SM.gN 3) tYe (eOp oDGet (eFld ["Heap"] "by_places" (eVar 0)) (eVar 3)) tt [some (.ref x), some (fD f), none, none] (rgL 0 1 n) [] A = .ok ((dataK h.kv n).map D.int) A := by
    rw [lc_go (fun _ => true) (fun d => match d with | .int i => .int ((h.kv.lookup i).getD 0) | d => d) trivial (by rw [rgL_len]; omega)]
    rotate_left
    · intro d hd
      obtain ⟨j, hj, rfl⟩ := mem_rgL hd
      have e0 : (0 : Int) + (j : Int) * 1 = (j : Int) := by omega
      rw [e0]
      obtain ⟨y, hy, _⟩ := full j hj
      have eg : kget (kd h.kv) (.int (j : Int)) = some (.int y) := by rw [kget_kd, hy]; rfl
      show Got _ _
      simp_arith [o1, d1, eg, hy]
      first | exact fun _ => rfl | exact fun _ => trivial | trivial | simp
    rw [List.filter_eq_self.mpr (by simp)]
    unfold rgL dataK
    rw [List.map_map, List.map_map]
    congr 1
    refine List.map_congr_left fun i hi => ?_
    have e0 : (0 : Int) + (i : Int) * 1 = (i : Int) := by omega
    simp only [Function.comp, e0]
  obtain ⟨_, A1, e1, rfl, g1, f1⟩ := (packet_ok (A := A ++ [.lst ((dataK h.kv n).map D.int)]) (made_ok hh hf he hb hl)).ex
  have ea : (h.made f).args = [.int f.1, .int f.2.1, .int f.2.2.1, .int h.life, .int f.2.2.2, .int 0, .bl false, .tup ((dataK h.kv n).map D.int)] := by
    unfold Pq.args rw_
    rw [hem]
    rfl
  rw [ea] at e1
  have o1' : (A ++ [.lst ((dataK h.kv n).map D.int)])[x]? = some (.obj "Heap" [("since", .int h.since), ("least_life", .int h.life), ("end_place", .int (n : Int)), ("by_places", .ref b)]) := get_push o1
  unfold F_Heap_packet_made fD
  unfold fD at key
  simp_arith [o1, Int.toNat_natCast, key, o1', e1]
  rw [List.length_append, List.length_singleton] at g1
  exact ⟨_, rfl, g1, by omega, Fr.push.trans f1⟩

/-! joiners -/
open DL (Bytes)
structure Jn where
  pat : Int
  room : Int
  last : Int
  hs : List (Four × Jh)
structure Je where
  f : Four
  h : Jh
  x : Nat
  b : Nat
def jfs (pat room last : Int) (d : Nat) : List (String × D) := [("patience", .int pat), ("most_held", .int room), ("last_tick", .int last), ("heaps", .ref d)]
def jt (es : List Je) : List (D × D) := kvG fD (es.map fun z => (z.f, .ref z.x))
structure IsJ (A : Hs) (j d : Nat) (J : Jn) (es : List Je) (S : List Nat) : Prop where
  o : A[j]? = some (.obj "Joiner" (jfs J.pat J.room J.last d))
  t : A[d]? = some (.dic true false (jt es))
  e : ∀ z ∈ es, IsH A z.x z.b z.h
  p : es.map (fun z => (z.f, z.h)) = J.hs
  nk : (es.map Je.f).Nodup
  nx : (es.map Je.x).Nodup
  nb : (es.map Je.b).Nodup
  sj : j ∈ S
  sd : d ∈ S
  se : ∀ z ∈ es, z.x ∈ S ∧ z.b ∈ S
  lt : ∀ k ∈ S, k < A.length
  ok : ∀ z ∈ es, z.h.Ok
theorem IsJ.ne {A : Hs} {j d : Nat} {J : Jn} {es : List Je} {S : List Nat} (k : IsJ A j d J es S) : j ≠ d := by
  rintro rfl
  have := k.o
  rw [k.t] at this
  cases this
theorem IsJ.frame {A B : Hs} {j d : Nat} {J : Jn} {es : List Je} {S s : List Nat} (k : IsJ A j d J es S) (f : Fr s A B) (hs : ∀ i ∈ S, i ∉ s) : IsJ B j d J es S :=
  ⟨f.get k.o (hs j k.sj), f.get k.t (hs d k.sd), fun z hz => (k.e z hz).frame f (hs _ (k.se z hz).1) (hs _ (k.se z hz).2), k.p, k.nk, k.nx, k.nb, k.sj, k.sd, k.se, fun i hi => Nat.lt_of_lt_of_le (k.lt i hi) f.le, k.ok⟩
theorem mem_uniq {α β : Type} {f : α → β} : ∀ {l : List α}, (l.map f).Nodup → ∀ {a b : α}, a ∈ l → b ∈ l → f a = f b → a = b
  | [], _, a, b, h, _, _ => by cases h
  | c :: l, hn, a, b, ha, hb, e => by
    rw [List.map_cons, List.nodup_cons] at hn
    rcases List.mem_cons.mp ha with ea | ha2
    · rcases List.mem_cons.mp hb with eb | hb2
      · rw [ea, eb]
      · exact absurd (List.mem_map.mpr ⟨b, hb2, by rw [← e, ea]⟩) hn.1
    · rcases List.mem_cons.mp hb with eb | hb2
      · exact absurd (List.mem_map.mpr ⟨a, ha2, by rw [e, eb]⟩) hn.1
      · exact mem_uniq hn.2 ha2 hb2 e
theorem look_mem {κ β : Type} [BEq κ] [LawfulBEq κ] : ∀ {L : List (κ × β)} {k : κ} {v : β}, (L.map Prod.fst).Nodup → (k, v) ∈ L → L.lookup k = some v
  | [], _, _, _, h => by cases h
  | (a, w) :: L, k, v, hn, h => by
    rw [List.map_cons, List.nodup_cons] at hn
    rw [List.lookup_cons]
    rcases List.mem_cons.mp h with e | h2
    · cases e; simp
    · have : (k == a) = false := by
        rw [beq_eq_false_iff_ne]
        intro z
        exact hn.1 (List.mem_map.mpr ⟨_, h2, z⟩)
      rw [this]
      exact look_mem hn.2 h2
theorem look_not {κ β : Type} [BEq κ] [LawfulBEq κ] : ∀ {L : List (κ × β)} {k : κ}, k ∉ L.map Prod.fst → L.lookup k = none
  | [], _, _ => rfl
  | (a, w) :: L, k, h => by
    rw [List.map_cons, List.mem_cons, not_or] at h
    have : (k == a) = false := by rw [beq_eq_false_iff_ne]; exact h.1
    rw [List.lookup_cons, this]
    exact look_not h.2
theorem jt_get {es : List Je} {z : Je} (hn : (es.map Je.f).Nodup) (hz : z ∈ es) : kget (jt es) (fD z.f) = some (.ref z.x) := by
  unfold jt
  rw [kget_kvG fD_keq]
  exact look_mem (by rw [List.map_map]; exact hn) (List.mem_map.mpr ⟨z, hz, rfl⟩)
theorem jt_not {es : List Je} {f : Four} (h : f ∉ es.map Je.f) : kget (jt es) (fD f) = none := by
  unfold jt
  rw [kget_kvG fD_keq]
  exact look_not (by rw [List.map_map]; exact h)
theorem jt_put {es : List Je} {z : Je} (h : z.f ∉ es.map Je.f) : kput (jt es) (fD z.f) (.ref z.x) = jt (es ++ [z]) := by
  unfold jt
  rw [kput_kvG fD_keq (look_not (by rw [List.map_map]; exact h)), List.map_append]
  rfl
theorem jt_del {es : List Je} {f : Four} : kdel (jt es) (fD f) = jt (es.filter fun z => decide (z.f ≠ f)) := by
  unfold jt
  rw [kdel_kvG fD_keq, List.filter_map]
  rfl
theorem jt_keys {es : List Je} : (jt es).map Prod.fst = es.map fun z => fD z.f := by
  unfold jt kvG
  rw [List.map_map, List.map_map]
  rfl
theorem jt_vals {es : List Je} : (jt es).map Prod.snd = es.map fun z => D.ref z.x := by
  unfold jt kvG
  rw [List.map_map, List.map_map]
  rfl
theorem jt_len {es : List Je} : (jt es).length = es.length := by unfold jt; rw [len_kvG, List.length_map]
/-- fewer heaps -/
theorem IsJ.sub {A : Hs} {j d : Nat} {J : Jn} {es es2 : List Je} {S : List Nat} (k : IsJ A j d J es S) (h : es2.Sublist es) : IsJ (A.set d (.dic true false (jt es2))) j d { J with hs := es2.map fun z => (z.f, z.h) } es2 S := by
  have hd := lt_of_get k.t
  refine ⟨by rw [z4b k.ne.symm]; exact k.o, zaz hd, fun z hz => ?_, rfl, (h.map _).nodup k.nk, (h.map _).nodup k.nx, (h.map _).nodup k.nb, k.sj, k.sd, fun z hz => k.se z (h.subset hz), fun i hi => by rw [List.length_set]; exact k.lt i hi, fun z hz => k.ok z (h.subset hz)⟩
  have q := k.e z (h.subset hz)
  have n1 : d ≠ z.x := by rintro rfl; have := k.t; rw [q.o] at this; cases this
  have n2 : d ≠ z.b := by
    rintro rfl
    have := k.t
    rw [q.d] at this
    cases this
  exact ⟨by rw [z4b n1]; exact q.o, by rw [z4b n2]; exact q.d⟩
theorem joiner_ok {A : Hs} {pat room : Int} (h1 : 1 ≤ pat) (h2 : 1 ≤ room) : Rk (make "Joiner" F_Joiner___init__ [.int pat, .int room] A) fun v A1 => v = .ref A.length ∧ IsJ A1 A.length (A.length + 1) ⟨pat, room, 0, []⟩ [] [A.length, A.length + 1] ∧ Fr [] A A1 := by
  have n1 : ¬ pat < 1 := by omega
  have n2 : ¬ room < 1 := by omega
  have e1 : ∀ B, F_need_many [.int pat] B = .ok .non B := fun B => by unfold F_need_many; simp_arith [n1]
  have e2 : ∀ B, F_need_many [.int room] B = .ok .non B := fun B => by unfold F_need_many; simp_arith [n2]
  refine Rk.make ?_
  unfold F_Joiner___init__
  simp_arith [e1, e2]
  refine ⟨⟨?_, ?_, fun z hz => (by cases hz), rfl, .nil, .nil, .nil, List.mem_cons_self, List.mem_cons_of_mem _ List.mem_cons_self, fun z hz => (by cases hz), fun k hk => ?_, fun z hz => (by cases hz)⟩, by walk_at "fr!"⟩
  · first | rfl | (simp_arith []; rfl)
  · first | (refine getpp ?_; simp; done) | (rw [z4b (by omega)]; refine getpp ?_; simp)
  · simp only [List.mem_cons, List.not_mem_nil, or_false] at hk
    simp only [List.length_set, List.length_append, List.length_cons, List.length_nil]
    omega
/-- what is too old goes -/
theorem old_step {es : List Je} {i : Nat} {z : Je} {keep : Je → Bool} (hn : (es.map Je.f).Nodup) (hz : es[i]? = some z) :
    ((es.take i).filter keep ++ es.drop i).filter (fun w => decide (w.f ≠ z.f)) = (es.take i).filter keep ++ es.drop (i + 1) := by
  have hi := lt_of_get hz
  have ez : es.drop i = z :: es.drop (i + 1) := by
    rw [List.drop_eq_getElem_cons hi]
    congr 1
    rw [List.getElem?_eq_getElem hi] at hz
    exact Option.some.inj hz
  have e : es = es.take i ++ z :: es.drop (i + 1) := by rw [← ez, List.take_append_drop]
  have hn2 : (es.take i ++ z :: es.drop (i + 1)).map Je.f |>.Nodup := by rw [← e]; exact hn
  rw [List.map_append, List.map_cons, List.nodup_append] at hn2
  obtain ⟨_, hn3, hn4⟩ := hn2
  rw [List.nodup_cons] at hn3
  rw [ez, List.filter_append, List.filter_cons_of_neg (by simp)]
  congr 1
  · rw [List.filter_eq_self]
    intro w hw
    have hw := (List.mem_filter.mp hw).1
    simp only [decide_eq_true_eq]
    exact hn4 _ (List.mem_map.mpr ⟨w, hw, rfl⟩) _ List.mem_cons_self
  · rw [List.filter_eq_self]
    intro w hw
    simp only [decide_eq_true_eq]
    intro h
    exact hn3.1 (List.mem_map.mpr ⟨w, hw, h⟩)
theorem old_ok {A : Hs} {j d : Nat} {J : Jn} {es : List Je} {S : List Nat} {tick : Int} (k : IsJ A j d J es S) (hl : es.length ≤ 100000) : Rk (F_Joiner_let_old_go [.ref j, .int tick] A) fun v A1 => v = .non ∧ ∃ es2, IsJ A1 j d { J with hs := old J.pat tick J.hs } es2 S ∧ es2.length ≤ es.length ∧ Fr [d] A A1 := by
  have o1 := k.o
  have t1 := k.t
  unfold jfs at o1
  have hlen : ((jt es).map Prod.fst).length ≤ 16000000 := by rw [List.length_map, jt_len]; omega
  unfold F_Joiner_let_old_go
  simp_arith [o1, t1]
  have hd := lt_of_get t1
  rw [jt_keys]
  obtain ⟨L, hL⟩ : ∃ L, L = A.length := ⟨_, rfl⟩
  rw [← hL]
  refine for_go (R := fun rs => Rk (finR rs) _) (fun i e B => ∃ o2, e = [some (.ref j), some (.int tick), o2] ∧ IsJ B j d { J with hs := ((es.take i).filter (fun z => decide (tick - z.h.since < J.pat)) ++ es.drop i).map fun z => (z.f, z.h) } ((es.take i).filter (fun z => decide (tick - z.h.since < J.pat)) ++ es.drop i) S ∧ B[L]? = some (.lst (es.map fun z => fD z.f)) ∧ Fr [d] A B)
    ⟨none, rfl, ?_, by rw [hL]; exact zar, .push⟩ (fun i e B _ h => ?_) ?_ ?_
  · rw [List.take_zero, List.filter_nil, List.nil_append, List.drop_zero, k.p]
    exact k.frame (s := []) .push (by simp)
  · obtain ⟨_, _, _, h, _⟩ := h
    exact h
  · rintro i _ B y hy ⟨o2, rfl, kB, hB, fB⟩
    rw [List.getElem?_map] at hy
    obtain ⟨z, hz, rfl⟩ := Option.map_eq_some_iff.mp hy
    have hi := lt_of_get hz
    have ez : es.drop i = z :: es.drop (i + 1) := by
      rw [List.drop_eq_getElem_cons hi]
      congr 1
      rw [List.getElem?_eq_getElem hi] at hz
      exact Option.some.inj hz
    have hzm : z ∈ (es.take i).filter (fun z => decide (tick - z.h.since < J.pat)) ++ es.drop i := List.mem_append_right _ (by rw [ez]; exact List.mem_cons_self)
    have hst := old_step (keep := fun z => decide (tick - z.h.since < J.pat)) k.nk hz
    have oB := kB.o
    have tB := kB.t
    have zB := (kB.e z hzm).o
    have gB := jt_get kB.nk hzm
    unfold jfs at oB
    unfold Jh.fs at zB
    have nL : d ≠ L := by omega
    have etk : es.take (i + 1) = es.take i ++ [z] := by rw [List.take_succ, hz]; rfl
    show Got _ _
    by_cases q : J.pat ≤ tick - z.h.since
    · have ekeep : (es.take (i + 1)).filter (fun z => decide (tick - z.h.since < J.pat)) = (es.take i).filter (fun z => decide (tick - z.h.since < J.pat)) := by
        rw [etk, List.filter_append, List.filter_cons_of_neg (by simp; omega), List.filter_nil, List.append_nil]
      have pB := z7t (A := B) (i := d) fD_ok gB
      rw [jt_del, hst] at pB
      simp_arith [oB, tB, gB, zB, q, fD_ok, pB]
      refine ⟨_, rfl, ?_, ?_, fB.then_set (.inl (by simp))⟩
      · rw [ekeep, ← hst]
        exact kB.sub (List.filter_sublist)
      · first | exact hB | (rw [z4b nL]; exact hB)
    · have ekeep : (es.take (i + 1)).filter (fun z => decide (tick - z.h.since < J.pat)) = (es.take i).filter (fun z => decide (tick - z.h.since < J.pat)) ++ [z] := by
        rw [etk, List.filter_append, List.filter_cons_of_pos (by simp; omega), List.filter_nil]
      simp_arith [oB, tB, gB, zB, q, fD_ok]
      refine ⟨_, rfl, ?_, hB, fB⟩
      rw [ekeep, List.append_assoc, List.singleton_append, ← ez]
      exact kB
  · rintro _ B ⟨o2, rfl, kB, hB, fB⟩
    rw [List.length_map, List.take_length, List.drop_length, List.append_nil] at kB
    simp_arith []
    refine ⟨es.filter fun z => decide (tick - z.h.since < J.pat), ?_, List.length_filter_le _ _, fB⟩
    have e : old J.pat tick J.hs = (es.filter fun z => decide (tick - z.h.since < J.pat)).map fun z => (z.f, z.h) := by
      unfold old
      rw [← k.p, List.filter_map]
      rfl
    rw [e]
    exact kB

/-! a joiner's take -/
open DL (Bytes)
/-- how many bytes are held -/
theorem held_ok {B : Hs} {j d : Nat} {J : Jn} {es : List Je} {S : List Nat} (k : IsJ B j d J es S) (hl : es.length ≤ 100000) :
    lcL (SM.gN 1) tYe (eCB (c1 oLen) (aCons (eFld ["Heap"] "by_places" (eVar 1)) aNil)) (fun A' => A'[d]? = some (.dic true true (jt es))) [some (.ref j), none, none] (es.map fun z => D.ref z.x) [] (B.set d (.dic true true (jt es))) = .ok (es.map fun z => D.int (z.h.kv.length : Int)) (B.set d (.dic true true (jt es))) := by
  have hd := lt_of_get k.t
  suffices H : Rk (lcL (SM.gN 1) tYe (eCB (c1 oLen) (aCons (eFld ["Heap"] "by_places" (eVar 1)) aNil)) (fun A' => A'[d]? = some (.dic true true (jt es))) [some (.ref j), none, none] (es.map fun z => D.ref z.x) [] (B.set d (.dic true true (jt es)))) fun l A1 => l = es.map (fun z => D.int (z.h.kv.length : Int)) ∧ A1 = B.set d (.dic true true (jt es)) by
    obtain ⟨_, _, e, rfl, rfl⟩ := H.ex
    exact e
  refine (lc_run (gd := fun A' => A'[d]? = some (.dic true true (jt es))) (fun i acc E => acc = (es.take i).map (fun z => D.int (z.h.kv.length : Int)) ∧ E = B.set d (.dic true true (jt es))) (ds := es.map fun z => D.ref z.x) ⟨by simp, rfl⟩ (by rw [List.length_map]; omega) (fun i l A h => by obtain ⟨_, rfl⟩ := h; exact zaz hd) ?_).mono ?_
  · intro i y hy acc E hP
    obtain ⟨rfl, rfl⟩ := hP
    rw [List.getElem?_map] at hy
    obtain ⟨z, hz, rfl⟩ := Option.map_eq_some_iff.mp hy
    have hzm := List.mem_of_getElem? hz
    have q := k.e z hzm
    have n1 : d ≠ z.x := by rintro rfl; have := k.t; rw [q.o] at this; cases this
    have n2 : d ≠ z.b := by rintro rfl; have := k.t; rw [q.d] at this; cases this
    have o1 : (B.set d (.dic true true (jt es)))[z.x]? = some (.obj "Heap" (z.h.fs z.b)) := by rw [z4b n1]; exact q.o
    have o2 : (B.set d (.dic true true (jt es)))[z.b]? = some (.dic false false (kd z.h.kv)) := by rw [z4b n2]; exact q.d
    unfold Jh.fs at o1
    show Got _ _
    simp_arith [o1, o2, len_kd]
    rw [List.take_succ, hz, Option.toList_some, List.map_append]
    rfl
  · rintro l E ⟨h1, h2⟩
    rw [List.length_map, List.take_length] at h1
    exact ⟨h1, h2⟩
theorem held_sum {hs : List (Four × Jh)} {es : List Je} (h : es.map (fun z => (z.f, z.h)) = hs) : (es.map fun z => (z.h.kv.length : Int)).sum = held hs := by
  unfold held
  rw [← h, List.map_map]
  rfl
/-- a heap put in for another of the same packet -/
theorem IsJ.upd {A B : Hs} {j d : Nat} {J : Jn} {es : List Je} {S : List Nat} {z : Je} {h' : Jh} (k : IsJ A j d J es S) (hz : z ∈ es) (f : Fr [z.x, z.b] A B) (hB : IsH B z.x z.b h') (hk : h'.Ok) :
    IsJ B j d { J with hs := (es.map fun w => if w.f = z.f then { w with h := h' } else w).map fun w => (w.f, w.h) } (es.map fun w => if w.f = z.f then { w with h := h' } else w) S := by
  have q := k.e z hz
  have nj1 : j ≠ z.x := ne_obj k.o q.o (by decide)
  have nj2 : j ≠ z.b := by rintro rfl; have := k.o; rw [q.d] at this; cases this
  have nd1 : d ≠ z.x := by rintro rfl; have := k.t; rw [q.o] at this; cases this
  have nd2 : d ≠ z.b := by rintro rfl; have := k.t; rw [q.d] at this; cases this
  have ef : ∀ w : Je, (if w.f = z.f then { w with h := h' } else w).f = w.f := fun w => by split <;> rfl
  have ex : ∀ w : Je, (if w.f = z.f then { w with h := h' } else w).x = w.x := fun w => by split <;> rfl
  have eb : ∀ w : Je, (if w.f = z.f then { w with h := h' } else w).b = w.b := fun w => by split <;> rfl
  have mf : (es.map fun w => if w.f = z.f then { w with h := h' } else w).map Je.f = es.map Je.f := by
    rw [List.map_map]; exact List.map_congr_left fun w _ => ef w
  have mx : (es.map fun w => if w.f = z.f then { w with h := h' } else w).map Je.x = es.map Je.x := by
    rw [List.map_map]; exact List.map_congr_left fun w _ => ex w
  have mb : (es.map fun w => if w.f = z.f then { w with h := h' } else w).map Je.b = es.map Je.b := by
    rw [List.map_map]; exact List.map_congr_left fun w _ => eb w
  have mt : jt (es.map fun w => if w.f = z.f then { w with h := h' } else w) = jt es := by
    unfold jt
    rw [List.map_map]
    congr 1
    refine List.map_congr_left fun w _ => ?_
    simp only [Function.comp, ef, ex]
  refine ⟨f.get k.o (by simp [nj1, nj2]), by rw [mt]; exact f.get k.t (by simp [nd1, nd2]), fun w hw => ?_, rfl, by rw [mf]; exact k.nk, by rw [mx]; exact k.nx, by rw [mb]; exact k.nb, k.sj, k.sd, fun w hw => ?_, fun i hi => Nat.lt_of_lt_of_le (k.lt i hi) f.le, fun w hw => ?_⟩
  · obtain ⟨v, hv, rfl⟩ := List.mem_map.mp hw
    by_cases c : v.f = z.f
    · have := mem_uniq k.nk hv hz c
      subst this
      rw [if_pos rfl]
      exact hB
    · rw [if_neg c]
      have qv := k.e v hv
      have n1 : v.x ≠ z.x := fun e => c (by rw [mem_uniq k.nx hv hz e])
      have n2 : v.b ≠ z.b := fun e => c (by rw [mem_uniq k.nb hv hz e])
      have n3 : v.x ≠ z.b := by
        intro e
        have h1 := qv.o
        rw [e, q.d] at h1
        cases h1
      have n4 : v.b ≠ z.x := by
        intro e
        have h1 := qv.d
        rw [e, q.o] at h1
        cases h1
      exact qv.frame f (by simp [n1, n3]) (by simp [n2, n4])
  · obtain ⟨v, hv, rfl⟩ := List.mem_map.mp hw
    rw [ex, eb]
    exact k.se v hv
  · obtain ⟨v, hv, rfl⟩ := List.mem_map.mp hw
    split
    · exact hk
    · exact k.ok v hv

/-! a piece taken -/
open DL (Bytes)
theorem hold_in {h : Jh} {p : Pq} (k : (h.hold p).2 = true) : inB (h.hold p).1.en (h.hold p).1.kv = true := by
  unfold Jh.hold at k ⊢
  cases hm : p.m with
  | true => simp only [hm, if_true] at k ⊢; exact k
  | false =>
    simp only [hm, Bool.false_eq_true, if_false] at k ⊢
    cases he : h.en with
    | none => simp only [he] at k ⊢; exact k
    | some e =>
      simp only [he] at k ⊢
      split at k
      · cases k
      · rename_i q
        rw [if_neg q]; exact k
theorem wo_es {es : List Je} {f : Four} : (es.filter fun z => decide (z.f ≠ f)).map (fun z => (z.f, z.h)) = wo (es.map fun z => (z.f, z.h)) f := by
  unfold wo
  rw [List.filter_map]
  rfl
theorem wi_es {es : List Je} {f : Four} {h : Jh} : (es.map fun w => if w.f = f then { w with h := h } else w).map (fun z => (z.f, z.h)) = wi (es.map fun z => (z.f, z.h)) f h := by
  unfold wi
  rw [List.map_map, List.map_map]
  refine List.map_congr_left fun w _ => ?_
  simp only [Function.comp]
  split <;> rfl
theorem wo_wi {f : Four} {h : Jh} : ∀ {hs : List (Four × Jh)}, wo (wi hs f h) f = wo hs f
  | [] => rfl
  | z :: hs => by
    have ih := wo_wi (f := f) (h := h) (hs := hs)
    unfold wo wi at ih ⊢
    rw [List.map_cons]
    by_cases c : z.1 = f
    · rw [if_pos c, List.filter_cons_of_neg (by simp [c]), List.filter_cons_of_neg (by simp [c]), ih]
    · rw [if_neg c, List.filter_cons_of_pos (by simp [c]), List.filter_cons_of_pos (by simp [c]), ih]
/-- what a take tells -/
def Tol (A A1 : Hs) (v : D) : Option Pq → Prop
  | none => v = .non
  | some p => ∃ r, v = .ref r ∧ A1[r]? = some (.obj "Packet" p.fs) ∧ A.length ≤ r
noncomputable def tkW : S := (sIf (tAn (tOf (eOp oEq (eFld ["Packet"] "first" (eVar 1)) (eC (.int 0)))) (tNo (tOf (eFld ["Packet"] "more" (eVar 1))))) (sRet (eVar 1)) sNx)
noncomputable def tkE : S := (sIf (tOf (eOp oNotIn (eVar 3) (eFld ["Joiner"] "heaps" (eVar 0)))) (sPut (eFld ["Joiner"] "heaps" (eVar 0)) (eVar 3) (eMake "Heap" F_Heap___init__ (aCons (eVar 2) (aCons (eFld ["Packet"] "life" (eVar 1)) aNil)))) sNx)
noncomputable def tkT : S := (sSeq (sSet 4 (eOp oDGet (eFld ["Joiner"] "heaps" (eVar 0)) (eVar 3))) (sSeq (sIf (tNo (tOf (eMeth "hold" [("Heap", F_Heap_hold)] (eVar 4) (aCons (eVar 1) aNil)))) (sSeq (sDrop (eBD (d1_ oDPopT) (eFld ["Joiner"] "heaps" (eVar 0)) (aCons (eVar 3) aNil))) (sRet (eC .non))) sNx) (sSeq (sIf (tOf (eMeth "is_there" [("Heap", F_Heap_is_there)] (eVar 4) aNil)) (sSeq (sDrop (eBD (d1_ oDPopT) (eFld ["Joiner"] "heaps" (eVar 0)) (aCons (eVar 3) aNil))) (sRet (eMeth "packet_made" [("Heap", F_Heap_packet_made)] (eVar 4) (aCons (eVar 3) aNil)))) sNx) (sSeq (sDrop (eMeth "let_first_go" [("Joiner", F_Joiner_let_first_go)] (eVar 0) aNil)) (sRet (eC .non))))))
noncomputable def tkR : S := (sSeq tkW (sSeq (sSet 3 (eTup (aCons (eFld ["Packet"] "source" (eVar 1)) (aCons (eFld ["Packet"] "target" (eVar 1)) (aCons (eFld ["Packet"] "kind" (eVar 1)) (aCons (eFld ["Packet"] "name" (eVar 1)) aNil)))))) (sSeq tkE tkT)))
theorem tk_eq : F_Joiner_take = mkFn 3 5 (sSeq (sIf (tOo (tOf (eCB (c2 (oIsi os_ xs_ tb_)) (aCons (eVar 2) (aCons (eC (.ty "bool")) aNil)))) (tOo (tNo (tOf (eCB (c2 (oIsi os_ xs_ tb_)) (aCons (eVar 2) (aCons (eC (.ty "int")) aNil))))) (tOf (eOp oLt (eVar 2) (eFld ["Joiner"] "last_tick" (eVar 0)))))) (sRaise "NoTick") sNx) (sSeq (sFl ["Joiner"] "last_tick" (eVar 0) (eVar 2)) (sSeq (sDrop (eMeth "let_old_go" [("Joiner", F_Joiner_let_old_go)] (eVar 0) (aCons (eVar 2) aNil))) tkR))) := rfl
/-- what a take does -/
def Jn.hs2 (J : Jn) (p : Pq) (tick : Int) : List (Four × Jh) × Option Pq :=
  tk1 (ens (old J.pat tick J.hs) p tick) p ((hen (old J.pat tick J.hs) p tick).hold p)

/-! the first goes, by the least of (since, packet) -/
open DL (Bytes)
def pyF (f : Four) : PyData := .tuple [.int f.1, .int f.2.1, .int f.2.2.1, .int f.2.2.2]
def py2 (z : Four × Jh) : PyData := .tuple [.int z.2.since, pyF z.1]
def bst (hs : List (Four × Jh)) : Nat := L2.bix false (hs.map py2)
def fgoN : Nat → Int → List (Four × Jh) → List (Four × Jh)
  | 0, _, hs => hs
  | n + 1, room, hs => if room < held hs then (match hs[bst hs]? with
    | some z => fgoN n room (wo hs z.1)
    | none => hs) else hs
def fgo (room : Int) (hs : List (Four × Jh)) : List (Four × Jh) := fgoN hs.length room hs
theorem fgo_small {room : Int} {hs : List (Four × Jh)} (h : held hs ≤ room) : fgo room hs = hs := by
  unfold fgo
  cases hs.length with
  | zero => rfl
  | succ n =>
    unfold fgoN
    rw [if_neg (by omega)]
theorem argBest_le (bt : Nat → Nat → Bool) : ∀ n, argBest bt n ≤ n
  | 0 => Nat.le_refl _
  | n + 1 => by
    unfold argBest
    have := argBest_le bt n
    split <;> omega
theorem bix_lt {ds : List PyData} (h : 0 < ds.length) : L2.bix false ds < ds.length := by
  have := argBest_le (fun i j => if false = true then PySem.W.dataLt (ds.getD j .none) (ds.getD i .none) else PySem.W.dataLt (ds.getD i .none) (ds.getD j .none)) (ds.length - 1)
  unfold L2.bix
  omega
theorem bst_lt {hs : List (Four × Jh)} (h : 0 < hs.length) : bst hs < hs.length := by
  have := bix_lt (ds := hs.map py2) (by rw [List.length_map]; exact h)
  rw [List.length_map] at this
  exact this
def kd1 (z : Je) : D := .tup [.int z.h.since, fD z.f]
theorem py_kd1 {A : Hs} (es : List Je) : pyAll A (es.map kd1) = some ((es.map fun z => (z.f, z.h)).map py2) := by
  induction es with
  | nil => rfl
  | cons z es ih =>
    unfold pyAll at ih ⊢
    rw [List.map_cons, List.map_cons, List.map_cons, List.map_cons]
    have e : pyA A 40 (kd1 z) = some (py2 (z.f, z.h)) := rfl
    rw [e]
    unfold allSome
    rw [ih]
    rfl
theorem alike_py2 (hs : List (Four × Jh)) : alikeB (hs.map py2) = true ∧ (hs.map py2).all nonone = true := by
  constructor
  · unfold alikeB
    rw [List.all_eq_true]
    intro x hx
    rw [List.all_eq_true]
    intro y hy
    obtain ⟨a, _, rfl⟩ := List.mem_map.mp hx
    obtain ⟨b, _, rfl⟩ := List.mem_map.mp hy
    rfl
  · rw [List.all_eq_true]
    intro x hx
    obtain ⟨a, _, rfl⟩ := List.mem_map.mp hx
    rfl
theorem best_ok {B : Hs} {r : Nat} {es : List Je} (h : B[r]? = some (.lst (es.map kd1))) (hne : 0 < es.length) : ∃ z, es[bst (es.map fun z => (z.f, z.h))]? = some z ∧ oBest false (.ref r) B = .ok (kd1 z) B := by
  have hb := bst_lt (hs := es.map fun z => (z.f, z.h)) (by rw [List.length_map]; exact hne)
  rw [List.length_map] at hb
  refine ⟨es[bst (es.map fun z => (z.f, z.h))]'hb, List.getElem?_eq_getElem hb, ?_⟩
  unfold oBest
  have e1 : seqL B (.ref r) = some (es.map kd1) := by rw [z5c, h]; rfl
  have e2 := py_kd1 (A := B) es
  have al := alike_py2 (es.map fun z => (z.f, z.h))
  rw [e1]
  simp only
  rw [e2]
  simp only
  rw [if_pos ⟨al.1, al.2, by rw [List.length_map, List.length_map]; exact hne⟩]
  have e3 : (es.map kd1)[L2.bix false ((es.map fun z => (z.f, z.h)).map py2)]? = some (kd1 (es[bst (es.map fun z => (z.f, z.h))]'hb)) := by
    rw [List.getElem?_map]
    show (es[bst (es.map fun z => (z.f, z.h))]?).map kd1 = _
    rw [List.getElem?_eq_getElem hb]
    rfl
  rw [e3]
theorem filter_len {f : Four} : ∀ {l : List Je}, (l.map Je.f).Nodup → f ∈ l.map Je.f → (l.filter (fun w => decide (w.f ≠ f))).length + 1 = l.length
  | [], _, h => by simp at h
  | a :: l, hn, h => by
    rw [List.map_cons, List.nodup_cons] at hn
    by_cases c : a.f = f
    · rw [List.filter_cons_of_neg (by simp [c]), List.length_cons]
      have : l.filter (fun w => decide (w.f ≠ f)) = l := by
        rw [List.filter_eq_self]
        intro w hw
        simp only [decide_eq_true_eq]
        rintro rfl
        exact hn.1 (by rw [c]; exact List.mem_map.mpr ⟨w, hw, rfl⟩)
      rw [this]
    · rw [List.filter_cons_of_pos (by simp [c]), List.length_cons, List.length_cons]
      rw [List.map_cons, List.mem_cons] at h
      rw [filter_len hn.2 (h.resolve_left fun e => c e.symm)]
/-- the pairs (since, packet) -/
theorem pairs_ok {B : Hs} {j d : Nat} {J : Jn} {es : List Je} {S : List Nat} (k : IsJ B j d J es S) (hl : es.length ≤ 100000) :
    lcL (gT [(SM.gN 2), (SM.gN 1)]) tYe (eTup (aCons (eFld ["Heap"] "since" (eVar 1)) (aCons (eVar 2) aNil))) (fun A' => A'[d]? = some (.dic true true (jt es))) [some (.ref j), none, none] (es.map fun z => D.tup [fD z.f, .ref z.x]) [] (B.set d (.dic true true (jt es))) = .ok (es.map kd1) (B.set d (.dic true true (jt es))) := by
  have hd := lt_of_get k.t
  suffices H : Rk (lcL (gT [(SM.gN 2), (SM.gN 1)]) tYe (eTup (aCons (eFld ["Heap"] "since" (eVar 1)) (aCons (eVar 2) aNil))) (fun A' => A'[d]? = some (.dic true true (jt es))) [some (.ref j), none, none] (es.map fun z => D.tup [fD z.f, .ref z.x]) [] (B.set d (.dic true true (jt es)))) fun l A1 => l = es.map kd1 ∧ A1 = B.set d (.dic true true (jt es)) by
    obtain ⟨_, _, e, rfl, rfl⟩ := H.ex
    exact e
  refine (lc_run (gd := fun A' => A'[d]? = some (.dic true true (jt es))) (fun i acc E => acc = (es.take i).map kd1 ∧ E = B.set d (.dic true true (jt es))) (ds := es.map fun z => D.tup [fD z.f, .ref z.x]) ⟨by simp, rfl⟩ (by rw [List.length_map]; omega) (fun i l A h => by obtain ⟨_, rfl⟩ := h; exact zaz hd) ?_).mono ?_
  · intro i y hy acc E hP
    obtain ⟨rfl, rfl⟩ := hP
    rw [List.getElem?_map] at hy
    obtain ⟨z, hz, rfl⟩ := Option.map_eq_some_iff.mp hy
    have hzm := List.mem_of_getElem? hz
    have q := k.e z hzm
    have n1 : d ≠ z.x := by rintro rfl; have := k.t; rw [q.o] at this; cases this
    have o1 : (B.set d (.dic true true (jt es)))[z.x]? = some (.obj "Heap" (z.h.fs z.b)) := by rw [z4b n1]; exact q.o
    unfold Jh.fs at o1
    show Got _ _
    simp_arith [o1]
    rw [List.take_succ, hz, Option.toList_some, List.map_append]
    rfl
  · rintro l E ⟨h1, h2⟩
    rw [List.length_map, List.take_length] at h1
    exact ⟨h1, h2⟩
theorem jt_items {es : List Je} : (jt es).map (fun p => D.tup [p.1, p.2]) = es.map fun z => D.tup [fD z.f, .ref z.x] := by
  unfold jt kvG
  rw [List.map_map, List.map_map]
  rfl
theorem firstR_ok {B : Hs} {j d : Nat} {J : Jn} {es : List Je} {S : List Nat} (k : IsJ B j d J es S) (hl : es.length ≤ 90000) (hr : 0 ≤ J.room) : Rk (F_Joiner_let_first_go [.ref j] B) fun v A1 => v = .non ∧ ∃ es2, IsJ A1 j d { J with hs := fgo J.room J.hs } es2 S ∧ es2.length ≤ es.length ∧ Fr [d] B A1 := by
  unfold F_Joiner_let_first_go
  simp_arith []
  refine wh_go (fun n e C => ∃ es', n = es'.length ∧ e = [some (.ref j), none, none] ∧ IsJ C j d { J with hs := es'.map fun z => (z.f, z.h) } es' S ∧ fgo J.room (es'.map fun z => (z.f, z.h)) = fgo J.room J.hs ∧ es'.length ≤ es.length ∧ Fr [d] B C) (fun rs => Rk (finR rs) _) (n := es.length) ⟨es, rfl, rfl, by rw [k.p]; exact k, by rw [k.p], Nat.le_refl _, .refl⟩ ?_
  rintro n e C ⟨es', rfl, rfl, kC, hfg, hle, fC⟩
  have o1 := kC.o
  have t1 := kC.t
  have hd := lt_of_get t1
  have key := held_ok kC (by omega)
  have hs := held_sum (hs := es'.map fun z => (z.f, z.h)) (es := es') rfl
  unfold jfs at o1
  obtain ⟨C1, hC1⟩ : ∃ C1, C1 = C.set d (.dic true true (jt es')) := ⟨_, rfl⟩
  have oC : C1[j]? = some (.obj "Joiner" [("patience", .int J.pat), ("most_held", .int J.room), ("last_tick", .int J.last), ("heaps", .ref d)]) := by rw [hC1, z4b kC.ne.symm]; exact o1
  have tC : C1[d]? = some (.dic true true (jt es')) := by rw [hC1]; exact zaz hd
  have lC : C1.length = C.length := by rw [hC1]; simp
  have uC : (C1 ++ [O.lst (es'.map fun (z : Je) => D.int (z.h.kv.length : Int))])[d]? = some (.dic true true (jt es')) := get_push tC
  have ei : intsOf (es'.map fun z => D.int (z.h.kv.length : Int)) = some (es'.map fun z => (z.h.kv.length : Int)) := by
    have := z09 (es'.map fun z => (z.h.kv.length : Int))
    rwa [List.map_map] at this
  rw [← hC1] at key
  have eF : (C1 ++ [O.lst (es'.map fun (z : Je) => D.int (z.h.kv.length : Int))]).set d (.dic true false (jt es')) = C ++ [O.lst (es'.map fun (z : Je) => D.int (z.h.kv.length : Int))] := by
    rw [hC1, List.set_append_left _ _ (by simpa using hd), List.set_set, set_same t1]
  obtain ⟨G, hG⟩ : ∃ G, G = C ++ [O.lst (es'.map fun (z : Je) => D.int (z.h.kv.length : Int))] := ⟨_, rfl⟩
  have kG : IsJ G j d { J with hs := es'.map fun z => (z.f, z.h) } es' S := by rw [hG]; exact kC.frame (s := []) .push (by simp)
  have vC : G[C1.length]? = some (.lst (es'.map fun (z : Je) => D.int (z.h.kv.length : Int))) := by rw [hG, lC]; exact zar
  have oG := kG.o
  have tG := kG.t
  unfold jfs at oG
  rw [← hG] at eF
  by_cases c : J.room < (es'.map fun z => (z.h.kv.length : Int)).sum
  · have hne : 0 < es'.length := by
      cases es' with
      | nil => simp at c; omega
      | cons z es' => simp
    obtain ⟨G1, hG1⟩ : ∃ G1, G1 = G.set d (.dic true true (jt es')) := ⟨_, rfl⟩
    have hdG := lt_of_get tG
    have tG1 : G1[d]? = some (.dic true true (jt es')) := by rw [hG1]; exact zaz hdG
    have oG1 : G1[j]? = some (.obj "Joiner" [("patience", .int J.pat), ("most_held", .int J.room), ("last_tick", .int J.last), ("heaps", .ref d)]) := by rw [hG1, z4b kG.ne.symm]; exact oG
    have lG1 : G1.length = G.length := by rw [hG1]; simp
    have key2 := pairs_ok kG (by omega)
    rw [← hG1] at key2
    have uG : (G1 ++ [O.lst (es'.map kd1)])[d]? = some (.dic true true (jt es')) := get_push tG1
    have eG : (G1 ++ [O.lst (es'.map kd1)]).set d (.dic true false (jt es')) = G ++ [O.lst (es'.map kd1)] := by
      rw [hG1, List.set_append_left _ _ (by simpa using hdG), List.set_set, set_same tG]
    obtain ⟨z, hz, ez⟩ := best_ok (B := G ++ [O.lst (es'.map kd1)]) (r := G1.length) (es := es') (by rw [lG1]; exact zar) hne
    have hzm := List.mem_of_getElem? hz
    have kH : IsJ (G ++ [O.lst (es'.map kd1)]) j d { J with hs := es'.map fun z => (z.f, z.h) } es' S := kG.frame (s := []) .push (by simp)
    have tH := kH.t
    have pB := z7t (A := G ++ [O.lst (es'.map kd1)]) (i := d) fD_ok (jt_get kH.nk hzm)
    rw [jt_del] at pB
    have ez : oBest false (.ref G1.length) (G ++ [O.lst (es'.map kd1)]) = .ok (.tup [.int z.h.since, fD z.f]) (G ++ [O.lst (es'.map kd1)]) := ez
    simp_arith [o1, t1, ← hC1, oC, tC, jt_vals, key, uC, eF, vC, oG, ei, c, tG, ← hG1, tG1, oG1, jt_items, key2, uG, eG, ez, tH, pB]
    have hlen := filter_len (f := z.f) kC.nk (List.mem_map.mpr ⟨z, hzm, rfl⟩)
    refine ⟨(es'.filter fun w => decide (w.f ≠ z.f)).length, by omega, es'.filter fun w => decide (w.f ≠ z.f), rfl, kH.sub (es2 := es'.filter fun w => decide (w.f ≠ z.f)) List.filter_sublist, ?_, by omega, ?_⟩
    · rw [← hfg, wo_es]
      unfold fgo
      have e1 : (es'.map fun z => (z.f, z.h)).length = (wo (es'.map fun z => (z.f, z.h)) z.f).length + 1 := by
        rw [← wo_es, List.length_map, List.length_map]; omega
      rw [e1]
      conv => rhs; unfold fgoN
      rw [if_pos (by rw [← hs]; exact c), List.getElem?_map, hz]
      rfl
    · rw [hG]
      exact (((fC.then_push).then_push).then_set (.inl (by simp)))
  · simp_arith [o1, t1, ← hC1, oC, tC, jt_vals, key, uC, eF, vC, oG, ei, c]
    refine ⟨es', ?_, hle, by rw [hG]; exact fC.then_push⟩
    rw [← hfg, fgo_small (by rw [← hs]; omega)]
    exact kG

/-! takes where the first may go -/
open DL (Bytes)
def tk3 (room : Int) (hs : List (Four × Jh)) (p : Pq) (h : Jh × Bool) : List (Four × Jh) :=
  if h.2 = false then wo hs p.four else if h.1.there = true then wo hs p.four else fgo room (wi hs p.four h.1)
def Jn.hs3 (J : Jn) (p : Pq) (tick : Int) : List (Four × Jh) := tk3 J.room (ens (old J.pat tick J.hs) p tick) p ((hen (old J.pat tick J.hs) p tick).hold p)
theorem tail_okR {B : Hs} {j d q : Nat} {J : Jn} {es : List Je} {S : List Nat} {z : Je} {p : Pq} {tick : Int} {o4 : Option D} (k : IsJ B j d J es S) (hz : z ∈ es) (hf : z.f = p.four) (hp : p.Ok) (hq : B[q]? = some (.obj "Packet" p.fs)) (hl : es.length ≤ 90000)
    (hr : 0 ≤ J.room) :
    Rk (finR (tkT [some (.ref j), some (.ref q), some (.int tick), some (fD p.four), o4] B)) fun v A1 => Tol B A1 v (tk1 J.hs p (z.h.hold p)).2 ∧ ∃ es2, IsJ A1 j d { J with hs := tk3 J.room J.hs p (z.h.hold p) } es2 S ∧ es2.length ≤ es.length ∧ Fr S B A1 := by
  have o1 := k.o
  have t1 := k.t
  have kz := k.e z hz
  have oz := kz.o
  have g1 := jt_get k.nk hz
  rw [hf] at g1
  obtain ⟨_, B1, e1, rfl, kz1, f1⟩ := (hold_ok kz (k.ok z hz) hp hq).ex
  have hok := (k.ok z hz).hold hp
  have nj1 : j ≠ z.x := ne_obj o1 oz (by decide)
  have nj2 : j ≠ z.b := by rintro rfl; rw [kz.d] at o1; cases o1
  have o2 := f1.get o1 (by simp [nj1, nj2])
  have hS : ∀ i ∈ [z.x, z.b], i ∈ S := by
    intro i hi
    simp only [List.mem_cons, List.not_mem_nil, or_false] at hi
    rcases hi with rfl | rfl
    · exact (k.se z hz).1
    · exact (k.se z hz).2
  have fS : Fr S B B1 := f1.mono hS
  have k1 := k.upd hz f1 kz1 hok
  rw [wi_es, k.p, hf] at k1
  obtain ⟨es', hes⟩ : ∃ es', es' = es.map fun w => if w.f = p.four then { w with h := (z.h.hold p).1 } else w := ⟨_, rfl⟩
  rw [← hes] at k1
  have elen : es'.length = es.length := by rw [hes]; exact List.length_map _
  have hz' : ({ z with h := (z.h.hold p).1 } : Je) ∈ es' := by
    rw [hes]
    exact List.mem_map.mpr ⟨z, hz, if_pos hf⟩
  have g2 := jt_get k1.nk hz'
  have g2 : kget (jt es') (fD p.four) = some (.ref z.x) := by rw [← hf]; exact g2
  have t2 := k1.t
  have d1 := z7t (A := B1) (i := d) fD_ok g2
  have pop := k1.sub (es2 := es'.filter fun w => decide (w.f ≠ p.four)) List.filter_sublist
  rw [wo_es, k1.p] at pop
  simp only [wo_wi] at pop
  have oz1 := kz1.o
  have et := there_ok kz1
  rw [jt_del] at d1
  unfold jfs at o1 o2
  unfold Jh.fs at oz oz1
  have hSd : ∀ o, Fr S B (B1.set d o) := fun o => fS.then_set (.inl k.sd)
  unfold tk1 tk3
  unfold tkT
  by_cases c : (z.h.hold p).2 = false
  · rw [if_pos c, if_pos c]
    rw [c] at e1
    simp_arith [o1, t1, g1, oz, e1, o2, t2, d1, fD_ok]
    exact ⟨rfl, _, pop, by have := List.length_filter_le (fun w : Je => decide (w.f ≠ p.four)) es'; omega, hSd _⟩
  · rw [if_neg c, if_neg c]
    have c' : (z.h.hold p).2 = true := by simpa using c
    rw [c'] at e1
    by_cases c2 : (z.h.hold p).1.there = true
    · rw [if_pos c2, if_pos c2]
      rw [c2] at et
      have hin := hold_in c'
      obtain ⟨e, he⟩ : ∃ e, (z.h.hold p).1.en = some e := by
        unfold Jh.there at c2
        cases q : (z.h.hold p).1.en with
        | none => rw [q] at c2; cases c2
        | some e => exact ⟨e, rfl⟩
      have hb : mxp (z.h.hold p).1.kv < e := by
        unfold inB at hin
        rw [he] at hin
        exact of_decide_eq_true hin
      have hlen : ((z.h.hold p).1.kv.length : Int) = e := by
        unfold Jh.there at c2
        rw [he] at c2
        exact of_decide_eq_true c2
      have kz2 : IsH (B1.set d (.dic true false (jt (es'.filter fun w => decide (w.f ≠ p.four))))) z.x z.b (z.h.hold p).1 := by
        have n1 : d ≠ z.x := by rintro rfl; have := k1.t; rw [kz1.o] at this; cases this
        have n2 : d ≠ z.b := by rintro rfl; have := k1.t; rw [kz1.d] at this; cases this
        exact ⟨by rw [z4b n1]; exact kz1.o, by rw [z4b n2]; exact kz1.d⟩
      obtain ⟨_, B2, e2, r, rfl, g3, hr2, f2⟩ := (hmade_ok kz2 hok hp.four he hb hlen).ex
      have oz2 := kz2.o
      unfold Jh.fs at oz2
      rw [List.length_set] at hr2
      have := f1.le
      simp_arith [o1, t1, g1, oz, e1, o2, t2, d1, fD_ok, et, oz1, oz2, e2]
      exact ⟨⟨r, rfl, g3, by omega⟩, _, pop.frame f2 (by simp), by have := List.length_filter_le (fun w : Je => decide (w.f ≠ p.four)) es'; omega, (hSd _).trans (f2.mono (by simp))⟩
    · rw [if_neg c2, if_neg c2]
      have c2' : (z.h.hold p).1.there = false := by simpa using c2
      rw [c2'] at et
      obtain ⟨_, B2, e2, rfl, es2, k2, l2, f2⟩ := (firstR_ok k1 (by omega) hr).ex
      simp_arith [o1, t1, g1, oz, e1, o2, fD_ok, et, oz1, e2]
      exact ⟨rfl, es2, k2, by omega, fS.trans (f2.mono (by simp [k.sd]))⟩

/-! a joiner's take, whole -/
open DL (Bytes)
theorem IsJ.add {A B : Hs} {j d : Nat} {J : Jn} {es : List Je} {S : List Nat} {z : Je} (k : IsJ A j d J es S) (f : Fr [] A B) (kz : IsH B z.x z.b z.h) (hx : A.length ≤ z.x) (hb : A.length ≤ z.b) (hf : z.f ∉ es.map Je.f) (ok : z.h.Ok) :
    IsJ (B.set d (.dic true false (jt (es ++ [z])))) j d { J with hs := J.hs ++ [(z.f, z.h)] } (es ++ [z]) (z.x :: z.b :: S) := by
  have k1 := k.frame f (by simp)
  have hd := k.lt d k.sd
  have hd1 := lt_of_get k1.t
  have nd1 : d ≠ z.x := by omega
  have nd2 : d ≠ z.b := by omega
  have lx := lt_of_get kz.o
  have lb := lt_of_get kz.d
  refine ⟨by rw [z4b k.ne.symm]; exact k1.o, zaz hd1, fun w hw => ?_, by rw [List.map_append, k.p]; rfl, ?_, ?_, ?_, List.mem_cons_of_mem _ (List.mem_cons_of_mem _ k.sj), List.mem_cons_of_mem _ (List.mem_cons_of_mem _ k.sd), fun w hw => ?_, fun i hi => ?_, fun w hw => ?_⟩
  · rcases List.mem_append.mp hw with h | h
    · have q := k1.e w h
      have n1 : d ≠ w.x := by rintro rfl; have := k1.t; rw [q.o] at this; cases this
      have n2 : d ≠ w.b := by rintro rfl; have := k1.t; rw [q.d] at this; cases this
      exact ⟨by rw [z4b n1]; exact q.o, by rw [z4b n2]; exact q.d⟩
    · rw [List.mem_singleton] at h
      subst h
      exact ⟨by rw [z4b nd1]; exact kz.o, by rw [z4b nd2]; exact kz.d⟩
  · rw [List.map_append, List.map_cons, List.map_nil, List.nodup_append]
    refine ⟨k.nk, by simp, fun a ha c hc => ?_⟩
    rw [List.mem_singleton] at hc
    rw [hc]
    rintro rfl
    exact hf ha
  · rw [List.map_append, List.map_cons, List.map_nil, List.nodup_append]
    refine ⟨k.nx, by simp, fun a ha c hc => ?_⟩
    rw [List.mem_singleton] at hc
    obtain ⟨w, hw, rfl⟩ := List.mem_map.mp ha
    have := k.lt _ (k.se w hw).1
    omega
  · rw [List.map_append, List.map_cons, List.map_nil, List.nodup_append]
    refine ⟨k.nb, by simp, fun a ha c hc => ?_⟩
    rw [List.mem_singleton] at hc
    obtain ⟨w, hw, rfl⟩ := List.mem_map.mp ha
    have := k.lt _ (k.se w hw).2
    omega
  · rcases List.mem_append.mp hw with h | h
    · exact ⟨List.mem_cons_of_mem _ (List.mem_cons_of_mem _ (k.se w h).1), List.mem_cons_of_mem _ (List.mem_cons_of_mem _ (k.se w h).2)⟩
    · rw [List.mem_singleton] at h
      subst h
      exact ⟨List.mem_cons_self, List.mem_cons_of_mem _ List.mem_cons_self⟩
  · rw [List.length_set]
    simp only [List.mem_cons] at hi
    rcases hi with rfl | rfl | hi
    · exact lx
    · exact lb
    · exact Nat.lt_of_lt_of_le (k.lt i hi) f.le
  · rcases List.mem_append.mp hw with h | h
    · exact k.ok w h
    · rw [List.mem_singleton] at h; rw [h]; exact ok
theorem IsJ.keys {A : Hs} {j d : Nat} {J : Jn} {es : List Je} {S : List Nat} (k : IsJ A j d J es S) : J.hs.map Prod.fst = es.map Je.f := by
  rw [← k.p, List.map_map]; rfl
/-- the packet's heap is there -/
theorem ens_ok {B : Hs} {j d q : Nat} {J : Jn} {es : List Je} {S : List Nat} {p : Pq} {tick : Int} {o4 : Option D} (k : IsJ B j d J es S) (hp : p.Ok) (hq : B[q]? = some (.obj "Packet" p.fs)) (hl : es.length ≤ 50000) :
    ∃ B', tkE [some (.ref j), some (.ref q), some (.int tick), some (fD p.four), o4] B = .nx [some (.ref j), some (.ref q), some (.int tick), some (fD p.four), o4] B' ∧ ∃ es2 S2 z, IsJ B' j d { J with hs := ens J.hs p tick } es2 S2 ∧ es2.length ≤ es.length + 1 ∧ z ∈ es2 ∧ z.f = p.four ∧ z.h = hen J.hs p tick ∧ Fr [d] B B' ∧ (∀ i ∈ S2, i ∈ S ∨ B.length ≤ i) ∧ ∀ i ∈ S, i ∈ S2 := by
  have o1 := k.o
  have t1 := k.t
  have hq' : B[q]? = some (.obj "Packet" [("source", .int p.s), ("target", .int p.t), ("kind", .int p.k), ("life", .int p.l), ("name", .int p.n), ("first", .int p.f), ("more", .bl p.m), ("data", .tup (p.d.map D.int))]) := hq
  unfold jfs at o1
  have hkeys := k.keys
  unfold tkE
  cases c : J.hs.lookup p.four with
  | some h0 =>
    have hm : p.four ∈ es.map Je.f := by
      rw [← hkeys]
      by_cases w : p.four ∈ J.hs.map Prod.fst
      · exact w
      · rw [look_not w] at c; cases c
    obtain ⟨z, hz, hzf⟩ := List.mem_map.mp hm
    have g1 := jt_get k.nk hz
    rw [hzf] at g1
    have hz0 : J.hs.lookup p.four = some z.h := look_mem (by rw [hkeys]; exact k.nk) (by rw [← k.p]; exact List.mem_map.mpr ⟨z, hz, by rw [hzf]⟩)
    rw [c] at hz0
    cases hz0
    have e1 : ens J.hs p tick = J.hs := by unfold ens; rw [c]
    have e2 : hen J.hs p tick = z.h := by unfold hen; rw [c]; rfl
    rw [e1, e2]
    refine ⟨B, ?_, es, S, z, k, by omega, hz, hzf, rfl, .refl, fun i hi => .inl hi, fun i hi => hi⟩
    simp_arith [o1, t1, g1, fD_ok]
  | none =>
    have hm : p.four ∉ es.map Je.f := by
      rw [← hkeys]
      intro w
      obtain ⟨x, hx, e⟩ := List.mem_map.mp w
      have : ∃ v, J.hs.lookup p.four = some v := ⟨x.2, look_mem (v := x.2) (by rw [hkeys]; exact k.nk) (by rw [← e]; exact hx)⟩
      obtain ⟨v, hv⟩ := this
      rw [c] at hv; cases hv
    have g1 := jt_not hm
    obtain ⟨_, B1, e1, rfl, kz, f1⟩ := (heap_ok (A := B) (tick := tick) (l := p.l)).ex
    have o2 := f1.get o1 (by simp)
    have t2 := f1.get t1 (by simp)
    have put := jt_put (z := ⟨p.four, ⟨tick, p.l, none, []⟩, B.length, B.length + 1⟩) hm
    have put : kput (jt es) (fD p.four) (.ref B.length) = jt (es ++ [⟨p.four, ⟨tick, p.l, none, []⟩, B.length, B.length + 1⟩]) := put
    have hjl : (jt es).length < 16000000 := by rw [jt_len]; omega
    have ad := k.add (z := ⟨p.four, ⟨tick, p.l, none, []⟩, B.length, B.length + 1⟩) f1 kz (Nat.le_refl _) (Nat.le_succ _) hm ⟨hp.l, ⟨.nil, fun z hz => (by cases hz), fun z hz => (by cases hz)⟩, fun e h => (by cases h)⟩
    have e2 : ens J.hs p tick = J.hs ++ [(p.four, ⟨tick, p.l, none, []⟩)] := by unfold ens; rw [c]
    have e3 : hen J.hs p tick = ⟨tick, p.l, none, []⟩ := by unfold hen; rw [c]; rfl
    rw [e2, e3]
    refine ⟨_, ?_, _, _, ⟨p.four, ⟨tick, p.l, none, []⟩, B.length, B.length + 1⟩, ad, by simp, List.mem_append_right _ List.mem_cons_self, rfl, rfl, (f1.mono (by simp)).then_set (.inl (by simp)), fun i hi => ?_, fun i hi => List.mem_cons_of_mem _ (List.mem_cons_of_mem _ hi)⟩
    · have si := z9j (A := B1) (i := d) (y := fD p.four) (z := .ref B.length) (t := true) hjl
      rw [if_pos fD_ok, put] at si
      simp_arith [o1, t1, g1, fD_ok, hq', e1, o2, t2, si]
    · simp only [List.mem_cons] at hi
      rcases hi with rfl | rfl | hi
      · exact .inr (Nat.le_refl _)
      · exact .inr (Nat.le_succ _)
      · exact .inl hi
theorem IsJ.tick {A : Hs} {j d : Nat} {J : Jn} {es : List Je} {S : List Nat} {tick : Int} (k : IsJ A j d J es S) : IsJ (A.set j (.obj "Joiner" (jfs J.pat J.room tick d))) j d { J with last := tick } es S := by
  refine ⟨zaz (lt_of_get k.o), by rw [z4b k.ne]; exact k.t, fun z hz => ?_, k.p, k.nk, k.nx, k.nb, k.sj, k.sd, k.se, fun i hi => by rw [List.length_set]; exact k.lt i hi, k.ok⟩
  have q := k.e z hz
  have n1 : j ≠ z.x := ne_obj k.o q.o (by decide)
  have n2 : j ≠ z.b := by rintro rfl; have := k.o; rw [q.d] at this; cases this
  exact ⟨by rw [z4b n1]; exact q.o, by rw [z4b n2]; exact q.d⟩
theorem take_whole {A : Hs} {j d q : Nat} {J : Jn} {es : List Je} {S : List Nat} {p : Pq} {tick : Int} (k : IsJ A j d J es S) (hq : A[q]? = some (.obj "Packet" p.fs)) (hqS : q ∉ S) (ht : J.last ≤ tick) (hl : es.length ≤ 50000) (hw : p.f = 0 ∧ p.m = false) :
    Rk (F_Joiner_take [.ref j, .ref q, .int tick] A) fun v A1 => v = .ref q ∧ ∃ es2, IsJ A1 j d { J with last := tick, hs := old J.pat tick J.hs } es2 S ∧ es2.length ≤ es.length ∧ Fr S A A1 := by
  have o1 := k.o
  have ht' : ¬ tick < J.last := by omega
  have nj := lt_of_get o1
  have k1 := k.tick (tick := tick)
  have o2 := k1.o
  obtain ⟨_, B, e1, rfl, es2, k2, h2, f2⟩ := (old_ok (tick := tick) k1 (by omega)).ex
  have hq1 : (A.set j (.obj "Joiner" (jfs J.pat J.room tick d)))[q]? = some (.obj "Packet" p.fs) := by rw [z4b (fun e => hqS (by rw [← e]; exact k.sj))]; exact hq
  have hqd : q ∉ [d] := by rw [List.mem_singleton]; exact fun e => hqS (by rw [e]; exact k.sd)
  have hq2 : B[q]? = some (.obj "Packet" [("source", .int p.s), ("target", .int p.t), ("kind", .int p.k), ("life", .int p.l), ("name", .int p.n), ("first", .int p.f), ("more", .bl p.m), ("data", .tup (p.d.map D.int))]) := f2.get hq1 hqd
  rw [hw.1, hw.2] at hq2
  unfold jfs at o1 o2 e1
  rw [tk_eq]
  unfold tkR tkW
  simp_arith [o1, ht', o2, e1, hq2]
  exact ⟨es2, k2, h2, ((Fr.set k.sj).trans (f2.mono (by simp [k.sd])))⟩
theorem take_okR {A : Hs} {j d q : Nat} {J : Jn} {es : List Je} {S : List Nat} {p : Pq} {tick : Int} (k : IsJ A j d J es S) (hp : p.Ok) (hq : A[q]? = some (.obj "Packet" p.fs)) (hqS : q ∉ S) (ht : J.last ≤ tick) (hl : es.length ≤ 40000) (hw : ¬ (p.f = 0 ∧ p.m = false))
    (hr : 0 ≤ J.room) :
    Rk (F_Joiner_take [.ref j, .ref q, .int tick] A) fun v A1 => Tol A A1 v (J.hs2 p tick).2 ∧ ∃ es2 S2, IsJ A1 j d { J with last := tick, hs := J.hs3 p tick } es2 S2 ∧ es2.length ≤ es.length + 1 ∧ Fr S A A1 ∧ ∀ i ∈ S2, i ∈ S ∨ A.length ≤ i := by
  have o1 := k.o
  have ht' : ¬ tick < J.last := by omega
  have nj := lt_of_get o1
  have k1 := k.tick (tick := tick)
  have o2 := k1.o
  obtain ⟨_, B, e1, rfl, es2, k2, h2, f2⟩ := (old_ok (tick := tick) k1 (by omega)).ex
  have hq1 : (A.set j (.obj "Joiner" (jfs J.pat J.room tick d)))[q]? = some (.obj "Packet" p.fs) := by rw [z4b (fun e => hqS (by rw [← e]; exact k.sj))]; exact hq
  have hqd : q ∉ [d] := by rw [List.mem_singleton]; exact fun e => hqS (by rw [e]; exact k.sd)
  have hq2' := f2.get hq1 hqd
  have hq2 : B[q]? = some (.obj "Packet" [("source", .int p.s), ("target", .int p.t), ("kind", .int p.k), ("life", .int p.l), ("name", .int p.n), ("first", .int p.f), ("more", .bl p.m), ("data", .tup (p.d.map D.int))]) := hq2'
  obtain ⟨C, e3, es3, S3, z, k3, h3, hz, hzf, hzh, f3, hS3, hSS⟩ := ens_ok (tick := tick) (o4 := none) k2 hp hq2' (by omega)
  have hq3 := f3.get hq2' hqd
  have f12 : Fr S A B := (Fr.set k.sj).trans (f2.mono (by simp [k.sd]))
  have f13 : Fr S A C := f12.trans (f3.mono (by simp [k.sd]))
  have l2 := f12.le
  have tl := tail_okR (tick := tick) (o4 := none) k3 hz hzf hp hq3 (by omega) hr
  rw [hzh] at tl
  have ew : (decide (p.f = 0) && !p.m) = false := by
    cases hm : p.m with
    | true => simp
    | false => simp only [Bool.not_false, Bool.and_true, decide_eq_false_iff_not]; exact fun e => hw ⟨e, hm⟩
  have fin : Rk (finR (tkT [some (.ref j), some (.ref q), some (.int tick), some (fD p.four), none] C)) fun v A1 => Tol A A1 v (J.hs2 p tick).2 ∧ ∃ es2 S2, IsJ A1 j d { J with last := tick, hs := J.hs3 p tick } es2 S2 ∧ es2.length ≤ es.length + 1 ∧ Fr S A A1 ∧ ∀ i ∈ S2, i ∈ S ∨ A.length ≤ i := by
    refine tl.mono ?_
    rintro v A1 ⟨ht, es4, k4, h4, f4⟩
    refine ⟨?_, es4, S3, k4, by omega, ?_, fun i hi => (hS3 i hi).imp id fun h => by omega⟩
    · have ht : Tol C A1 v (J.hs2 p tick).2 := ht
      generalize (J.hs2 p tick).2 = r at ht ⊢
      cases r with
      | none => exact ht
      | some p' =>
        obtain ⟨r, h1, h2, h3⟩ := ht
        exact ⟨r, h1, h2, by have := f13.le; omega⟩
    · refine ⟨Nat.le_trans f13.le f4.le, fun i hi hn => ?_⟩
      rw [f4.2 i (by have := f13.le; omega) (fun h => (hS3 i h).elim hn fun h => by omega), f13.2 i hi hn]
  have fD_u : D.tup [.int p.s, .int p.t, .int p.k, .int p.n] = fD p.four := rfl
  unfold jfs at o1 o2 e1
  rw [tk_eq]
  unfold tkR tkW
  by_cases c : p.f = 0
  · have hm : p.m = true := by
      cases hm : p.m with
      | true => rfl
      | false => exact absurd ⟨c, hm⟩ hw
    rw [c, hm] at hq2
    simp_arith [o1, ht', o2, e1, hq2, fD_u, e3]
    exact fin
  · simp_arith [o1, ht', o2, e1, hq2, c, fD_u, e3]
    exact fin

/-! pieces that come together -/
theorem mxp_lt {kv : List (Int × Int)} {n : Int} (h : ∀ z ∈ kv, z.1 < n) (h0 : 0 ≤ n) : mxp kv < n := by
  unfold mxp
  split
  · omega
  · rename_i q
    obtain ⟨z, hz, e⟩ := List.mem_map.mp (mx_ok (l := kv.map Prod.fst) (by simpa using q)).1
    have := h z hz
    omega
theorem data_of_look {kv : List (Int × Int)} {d : List Int} (h : ∀ i : Nat, i < d.length → kv.lookup (i : Int) = d[i]?) : dataK kv d.length = d := by
  refine List.ext_getElem? fun i => ?_
  unfold dataK
  rw [List.getElem?_map]
  by_cases c : i < d.length
  · rw [List.getElem?_range c]
    show some ((kv.lookup (i : Int)).getD 0) = _
    rw [h i c, List.getElem?_eq_getElem c]
    rfl
  · rw [List.getElem?_eq_none (by simpa using c), List.getElem?_eq_none (by simpa using c)]
    rfl
/-! two pieces of one packet -/
section
variable {p : Pq} {d : List Int} {a : Nat}
end

/-! a joiner that stands above a place -/
open DL (Bytes)
/-- nothing below base changes -/
def Ub (base : Nat) (A B : Hs) : Prop := A.length ≤ B.length ∧ ∀ k, k < A.length → k < base → B[k]? = A[k]?
theorem Ub.refl {b : Nat} {A : Hs} : Ub b A A := ⟨Nat.le_refl _, fun _ _ _ => rfl⟩
theorem Ub.trans {b : Nat} {A B C : Hs} (f : Ub b A B) (g : Ub b B C) : Ub b A C := ⟨Nat.le_trans f.1 g.1, fun k h1 h2 => by rw [g.2 k (Nat.lt_of_lt_of_le h1 f.1) h2, f.2 k h1 h2]⟩
theorem Ub.of {b : Nat} {A B : Hs} {s : List Nat} (f : Fr s A B) (h : ∀ k ∈ s, b ≤ k) : Ub b A B := ⟨f.le, fun k h1 h2 => f.2 k h1 (fun hk => by have := h k hk; omega)⟩
theorem Ub.get {b i : Nat} {A B : Hs} {o : O} (f : Ub b A B) (h : A[i]? = some o) (hi : i < b) : B[i]? = some o := by rw [f.2 i (lt_of_get h) hi]; exact h
theorem Ub.fr {b : Nat} {A B : Hs} {s : List Nat} (f : Ub b A B) (h : A.length ≤ b) : Fr s A B := ⟨f.1, fun k h1 _ => f.2 k h1 (by omega)⟩
structure JA (A : Hs) (base j : Nat) (J : Jn) (d : Nat) : Prop where
  ex : ∃ es S, IsJ A j d J es S ∧ ∀ k ∈ S, base ≤ k
theorem JA.o {A : Hs} {base j d : Nat} {J : Jn} (h : JA A base j J d) : A[j]? = some (.obj "Joiner" (jfs J.pat J.room J.last d)) := by
  obtain ⟨es, S, k, _⟩ := h.ex
  exact k.o
theorem JA.frame {A B : Hs} {base j d : Nat} {J : Jn} {s : List Nat} (h : JA A base j J d) (f : Fr s A B) (hs : ∀ k ∈ s, k < base ∨ A.length ≤ k) : JA B base j J d := by
  obtain ⟨es, S, k, hb⟩ := h.ex
  exact ⟨es, S, k.frame f fun i hi hn => by have := hb i hi; have := k.lt i hi; have := hs i hn; omega, hb⟩
theorem IsJ.len {A : Hs} {j d : Nat} {J : Jn} {es : List Je} {S : List Nat} (k : IsJ A j d J es S) : es.length = J.hs.length := by rw [← k.p, List.length_map]
/-! what a take does, in general -/
section
variable {J : Jn} {q : Pq} {d : List Int} {a : Nat} {tick t0 : Int}
end
theorem same_non {A : Hs} : F_l_same [.non, .non] A = .ok (.bl true) A := by
  unfold F_l_same
  simp_arith []

/-! cut -/
open DL (Bytes)
/-- how many whole pieces -/
def Jq (L : Nat) (most : Int) (s J : Nat) : Prop := 14 + (L : Int) - (J * s : Nat) ≤ most ∧ ∀ i : Nat, i < J → most < 14 + (L : Int) - (i * s : Nat)
def pcs (p : Pq) (s J : Nat) : List Pq := ((List.range J).map fun j => p.cut (j * s) (j * s + s) true) ++ [p.cut (J * s) p.d.length p.m]
/-- objects of packets -/
def Objs (B : Hs) (a : Nat) (qs : List Nat) (ps : List Pq) : Prop := qs.length = ps.length ∧ ∀ (i x : Nat) (y : Pq), qs[i]? = some x → ps[i]? = some y → B[x]? = some (.obj "Packet" y.fs) ∧ a < x
theorem Objs.nil {B : Hs} {a : Nat} : Objs B a [] [] := ⟨rfl, fun i x y h => by simp at h⟩
theorem Objs.frame {B C : Hs} {a : Nat} {qs : List Nat} {ps : List Pq} (h : Objs B a qs ps) (k : ∀ x, a < x → ∀ o, B[x]? = some o → C[x]? = some o) : Objs C a qs ps := ⟨h.1, fun i x y h1 h2 => by
  obtain ⟨g1, g2⟩ := h.2 i x y h1 h2
  exact ⟨k x g2 _ g1, g2⟩⟩
theorem Objs.snoc {B : Hs} {a x : Nat} {qs : List Nat} {ps : List Pq} {y : Pq} (h : Objs B a qs ps) (g : B[x]? = some (.obj "Packet" y.fs)) (l : a < x) : Objs B a (qs ++ [x]) (ps ++ [y]) := ⟨by simp [h.1], fun i x' y' h1 h2 => by
  by_cases q : i < qs.length
  · rw [List.getElem?_append_left q] at h1
    rw [List.getElem?_append_left (by rw [← h.1]; exact q)] at h2
    exact h.2 i x' y' h1 h2
  · have hi : i = qs.length := by
      have := (List.getElem?_eq_some_iff.mp h1).1
      simp at this; omega
    subst hi
    rw [List.getElem?_append_right (Nat.le_refl _), Nat.sub_self] at h1
    rw [h.1, List.getElem?_append_right (Nat.le_refl _), Nat.sub_self] at h2
    cases h1; cases h2
    exact ⟨g, l⟩⟩
theorem pcs_snoc {p : Pq} {s j : Nat} : ((List.range (j + 1)).map fun j => p.cut (j * s) (j * s + s) true) = ((List.range j).map fun j => p.cut (j * s) (j * s + s) true) ++ [p.cut (j * s) (j * s + s) true] := by rw [List.range_succ, List.map_append]; rfl
theorem size_of {most : Int} (h : 22 ≤ most) : ∃ s : Nat, (most - 14) / 8 * 8 = (s : Int) ∧ 8 ≤ s ∧ (s : Int) ≤ most - 14 := ⟨((most - 14) / 8 * 8).toNat, by omega, by omega, by omega⟩
theorem cut_ok {p : Pq} {q s : Nat} {most : Int} {A : Hs} (h : p.Ok) (hq : A[q]? = some (.obj "Packet" p.fs)) (h1 : 22 ≤ most) (h2 : most ≤ 1000000000) (hs : (most - 14) / 8 * 8 = (s : Int)) (hs8 : 8 ≤ s) (hsm : (s : Int) ≤ most - 14) :
    Rk (F_cut [.ref q, .int most] A) fun v A1 => ∃ (J : Nat) (qs : List Nat), v = .ref A.length ∧ A1[A.length]? = some (.lst (qs.map D.ref)) ∧ Jq p.d.length most s J ∧ Objs A1 A.length qs (pcs p s J) ∧ Fr [] A A1 := by
  have hL : (p.d.length : Int) ≤ 1000 := by have := h.dl; have := h.f; omega
  have hq' : A[q]? = some (.obj "Packet" [("source", .int p.s), ("target", .int p.t), ("kind", .int p.k), ("life", .int p.l), ("name", .int p.n), ("first", .int p.f), ("more", .bl p.m), ("data", .tup (p.d.map D.int))]) := hq
  have nq := lt_of_get hq
  have n22 : ¬ most < 22 := by omega
  unfold F_cut
  simp_arith [n22, hs]
  refine wh_go (fun k e B => ∃ (j : Nat) (qs : List Nat), k = p.d.length - j * s ∧ e = [some (.ref q), some (.int most), some (.int (s : Int)), some (.ref A.length), some (.int ((j * s : Nat) : Int))] ∧ B[A.length]? = some (.lst (qs.map D.ref)) ∧ Objs B A.length qs ((List.range j).map fun j => p.cut (j * s) (j * s + s) true) ∧ (j = 0 ∨ j * s < p.d.length) ∧ (∀ i : Nat, i < j → most < 14 + (p.d.length : Int) - (i * s : Nat)) ∧ Fr [] A B) (fun rs => Rk (finR (seqR rs _)) _) ⟨0, [], rfl, by simp, zar, .nil, .inl rfl, (fun i hi => by omega), .push⟩ ?_
  rintro k e B ⟨j, qs, rfl, rfl, hB, hO, hj, hall, fB⟩
  have hqB : B[q]? = some (.obj "Packet" p.fs) := fB.get hq (by simp)
  have hqB' := fB.get hq' (by simp)
  have nB := fB.le
  have lB := lt_of_get hB
  by_cases c : most < 14 + (p.d.length : Int) - ((j * s : Nat) : Int)
  · have hjs : j * s + s < p.d.length := by omega
    obtain ⟨_, C, e1, rfl, gC, fC⟩ := (piece_ok (b := j * s) (e := j * s + s) (m := true) h hqB (by omega)).ex
    have hC := fC.get hB (by simp)
    have lC := lt_of_get gC
    have hqC' := fC.get hqB' (by simp)
    have hlen : (qs.map D.ref).length + 1 ≤ 16000000 := by
      have h5 := hO.1
      rw [List.length_map, List.length_range] at h5
      have : j ≤ j * s := Nat.le_mul_of_pos_right j (by omega)
      rw [List.length_map]; omega
    have e1' : F_piece_of [.ref q, .int ((j * s : Nat) : Int), .int (((j * s : Nat) : Int) + (s : Int)), .bl true] B = .ok (.ref B.length) C := by
      rw [show ((j * s : Nat) : Int) + (s : Int) = ((j * s + s : Nat) : Int) by omega]; exact e1
    simp_arith [hqB', hB, c, e1', hC, List.length_map]
    have ej : (((j + 1) * s : Nat) : Int) = ((j * s : Nat) : Int) + (s : Int) := by rw [Nat.succ_mul]; omega
    refine ⟨p.d.length - (j + 1) * s, by rw [Nat.succ_mul]; omega, j + 1, qs ++ [B.length], rfl, by rw [ej], ?_, ?_, .inr (by rw [Nat.succ_mul]; omega), ?_, ?_⟩
    · rw [List.map_append]; rfl
    · rw [pcs_snoc]
      refine ((hO.frame (fun x hx o ho => fC.get ho (by simp))).snoc gC (by omega)).frame fun x hx o ho => by rw [z4b (by omega)]; exact ho
    · intro i hi
      rcases Nat.lt_succ_iff_lt_or_eq.mp hi with q | q
      · exact hall i q
      · subst q; exact c
    · exact (fB.trans fC).then_set (.inr (Nat.le_refl _))
  · have hjl : j * s ≤ p.d.length := by
      rcases hj with rfl | hj
      · simp
      · omega
    obtain ⟨_, C, e1, rfl, gC, fC⟩ := (piece_ok (b := j * s) (e := p.d.length) (m := p.m) h hqB hjl).ex
    have hC := fC.get hB (by simp)
    have lC := lt_of_get gC
    have hlen : (qs.map D.ref).length + 1 ≤ 16000000 := by
      have h5 := hO.1
      rw [List.length_map, List.length_range] at h5
      have : j ≤ j * s := Nat.le_mul_of_pos_right j (by omega)
      rw [List.length_map]; omega
    simp_arith [hqB', hB, c, e1, hC, List.length_map]
    refine ⟨j, qs ++ [B.length], ?_, ⟨by omega, hall⟩, ?_, (fB.trans fC).then_set (.inr (Nat.le_refl _))⟩
    · rw [List.map_append]; rfl
    · exact ((hO.frame (fun x hx o ho => fC.get ho (by simp))).snoc gC (by omega)).frame fun x hx o ho => by rw [z4b (by omega)]; exact ho
/-! pieces of a whole packet -/
open DL (Bytes)
/-- y is a piece of w's data, or w itself, of any life -/
structure Pc (w y : Pq) : Prop where
  s : y.s = w.s
  t : y.t = w.t
  k : y.k = w.k
  n : y.n = w.n
  l : 0 ≤ y.l ∧ y.l ≤ 255
  f : 0 ≤ y.f
  e : y.f + (y.d.length : Int) ≤ (w.d.length : Int)
  d : y.d = (w.d.drop y.f.toNat).take y.d.length
  m : y.m = decide (y.f + (y.d.length : Int) < (w.d.length : Int))
  ne : y.d.length ≠ 0 ∨ w.d.length = 0
/-- w is whole -/
structure Wh (w : Pq) : Prop where
  ok : w.Ok
  f : w.f = 0
  m : w.m = false
theorem Pc.ok {w y : Pq} (h : Pc w y) (hw : Wh w) : y.Ok := by
  have a := hw.ok.dl
  have b := hw.f
  have e := h.e
  have f := h.f
  refine ⟨by rw [h.s]; exact hw.ok.s, by rw [h.t]; exact hw.ok.t, by rw [h.k]; exact hw.ok.k, h.l, by rw [h.n]; exact hw.ok.n, by omega, ?_, by omega⟩
  rw [h.d]
  exact fun x hx => hw.ok.b x (List.mem_of_mem_drop (List.mem_of_mem_take hx))
theorem Pc.self {w : Pq} (hw : Wh w) : Pc w w := by
  have b := hw.f
  refine ⟨rfl, rfl, rfl, rfl, hw.ok.l, by omega, by omega, ?_, ?_, ?_⟩
  · rw [b]
    show w.d = (w.d.drop 0).take w.d.length
    simp
  · rw [hw.m]
    exact (decide_eq_false (by omega)).symm
  · omega
theorem Pc.life {w y : Pq} (h : Pc w y) {l : Int} (hl : 0 ≤ l ∧ l ≤ 255) : Pc w { y with l := l } := ⟨h.s, h.t, h.k, h.n, hl, h.f, h.e, h.d, h.m, h.ne⟩
theorem Pc.four {w y : Pq} (h : Pc w y) : y.four = w.four := by
  unfold Pq.four
  rw [h.s, h.t, h.k, h.n]
/-- a part of a piece is a piece -/
theorem Pc.cut {w y : Pq} (h : Pc w y) {b e : Nat} (hb : b ≤ e) (he : e ≤ y.d.length) (hn : b < e ∨ w.d.length = 0) : Pc w (y.cut b e (if e < y.d.length then true else y.m)) := by
  have h1 := h.e
  have h2 := h.f
  have ld : ((y.d.drop b).take (e - b)).length = e - b := by rw [List.length_take, List.length_drop]; omega
  refine ⟨h.s, h.t, h.k, h.n, h.l, ?_, ?_, ?_, ?_, ?_⟩
  · show 0 ≤ y.f + (b : Int)
    omega
  · show y.f + (b : Int) + (((y.d.drop b).take (e - b)).length : Int) ≤ _
    rw [ld]
    omega
  · show (y.d.drop b).take (e - b) = (w.d.drop (y.f + (b : Int)).toNat).take ((y.d.drop b).take (e - b)).length
    rw [ld]
    conv => lhs; rw [h.d]
    rw [List.drop_take, List.drop_drop, List.take_take]
    congr 1
    · omega
    · congr 1
      omega
  · show (if e < y.d.length then true else y.m) = decide (y.f + (b : Int) + (((y.d.drop b).take (e - b)).length : Int) < _)
    rw [ld]
    by_cases c : e < y.d.length
    · rw [if_pos c]
      exact (decide_eq_true (by omega)).symm
    · rw [if_neg c, h.m]
      congr 1
      exact propext ⟨fun _ => by omega, fun _ => by omega⟩
  · show ((y.d.drop b).take (e - b)).length ≠ 0 ∨ _
    rw [ld]
    omega
theorem Pc.pcs {w y : Pq} (h : Pc w y) {most : Int} {s J : Nat} (hJ : Jq y.d.length most s J) (hs8 : 8 ≤ s) (hsm : (s : Int) ≤ most - 14) : ∀ x ∈ pcs y s J, Pc w x := by
  intro x hx
  unfold Kk.pcs at hx
  have key : ∀ i, i < J → i * s + s < y.d.length := fun i hi => by
    have := hJ.2 i hi
    omega
  rcases List.mem_append.mp hx with hx | hx
  · obtain ⟨i, hi, rfl⟩ := List.mem_map.mp hx
    have k1 := key i (List.mem_range.mp hi)
    have c := h.cut (b := i * s) (e := i * s + s) (by omega) (by omega) (.inl (by omega))
    rw [if_pos k1] at c
    exact c
  · rw [List.mem_singleton] at hx
    subst hx
    have hJs : J * s < y.d.length ∨ J * s = 0 := by
      cases J with
      | zero => exact .inr (Nat.zero_mul s)
      | succ J =>
        have := key J (Nat.lt_succ_self J)
        refine .inl ?_
        rw [Nat.succ_mul]
        exact this
    have c := h.cut (b := J * s) (e := y.d.length) (by omega) (Nat.le_refl _) (by have := h.ne; omega)
    rw [if_neg (by omega)] at c
    exact c

/-! a packet's pieces, some cut again -/
open DL (Bytes)
theorem objs_at {B : Hs} {a : Nat} {qs : List Nat} {ps : List Pq} (h : Objs B a qs ps) {i : Nat} {d : D} (hd : (qs.map D.ref)[i]? = some d) : ∃ x y, d = .ref x ∧ B[x]? = some (.obj "Packet" y.fs) ∧ y ∈ ps ∧ a < x := by
  rw [List.getElem?_map] at hd
  obtain ⟨x, hx, rfl⟩ := Option.map_eq_some_iff.mp hd
  have hi := lt_of_get hx
  have hi2 : i < ps.length := by rw [← h.1]; exact hi
  obtain ⟨h1, h2⟩ := h.2 i x ps[i] hx (List.getElem?_eq_getElem hi2)
  exact ⟨x, ps[i], rfl, h1, List.getElem_mem hi2, h2⟩
theorem most_ok {A : Hs} {i : Nat} {a b : Int} {c : Prop} [Decidable c] (dr : Drw A i) (ha : 1 ≤ a ∧ a ≤ 1000) (hb : 1 ≤ b ∧ b ≤ 1000) :
    ∃ (v : Int) (A1 : Hs) (n : Int), atI [D.int a, D.int b] (if c then 1 else 0) = some (.int n) ∧ 0 ≤ v ∧ v ≤ 1000 ∧ F_l_next [.ref i, .int n] (A ++ [.lst [.int a, .int b]]) = .ok (.int v) A1 ∧ Drw A1 i ∧ Fr [i] A A1 := by
  by_cases q : c
  · obtain ⟨v, A1, h1, h2, e, d, f⟩ := next_ok (n := b) (dr.pushed (x := .lst [.int a, .int b])) (by omega) (by omega)
    exact ⟨v, A1, b, by rw [if_pos q]; rfl, h1, by omega, e, d, (Fr.refl.then_push).trans f⟩
  · obtain ⟨v, A1, h1, h2, e, d, f⟩ := next_ok (n := a) (dr.pushed (x := .lst [.int a, .int b])) (by omega) (by omega)
    exact ⟨v, A1, a, by rw [if_neg q]; rfl, h1, by omega, e, d, (Fr.refl.then_push).trans f⟩
noncomputable def lcB : S := (sFor (wSeq (eVar 4)) (gN 5) (sSeq (sSet 6 (eMeth "told" [("Packet", F_Packet_told)] (eVar 5) aNil)) (sSeq (sIf (tAn (tOf (eOp oGt (eOp oIx (eVar 6) (eC (.int 3))) (eC (.int 0)))) (tOf (eOp oEq (eCall F_l_next (aCons (eVar 1) (aCons (eC (.int 4)) aNil))) (eC (.int 0))))) (sSet 6 (eOp oAdd (eOp oAdd (eSl oSl (eVar 6) oNo (oSo (eC (.int 3)))) (eTup (aCons (eOp oSub (eOp oIx (eVar 6) (eC (.int 3))) (eC (.int 1))) aNil))) (eSl oSl (eVar 6) (oSo (eC (.int 4))) oNo))) sNx) (sDrop (eBL oAppend (eVar 2) (aCons (eVar 6) aNil))))))
theorem lc_eq : F_l_cut = mkFn 2 7 (sSeq (sSet 2 (eLst aNil)) (sSeq (sFor (wSeq (eCall F_cut (aCons (eVar 0) (aCons (eOp oAdd (eC (.int 22)) (eCall F_l_next (aCons (eVar 1) (aCons (eOp oIx (eLst (aCons (eC (.int 64)) (aCons (eC (.int 600)) aNil))) (eCB (c1 oInt) (aCons (eOp oGt (eCB (c1 oLen) (aCons (eFld ["Packet"] "data" (eVar 0)) aNil)) (eC (.int 90))) aNil))) aNil)))) aNil)))) (gN 3) (sSeq (sSet 4 (eLst (aCons (eVar 3) aNil))) (sSeq (sIf (tOf (eOp oEq (eCall F_l_next (aCons (eVar 1) (aCons (eC (.int 3)) aNil))) (eC (.int 0)))) (sSet 4 (eCall F_cut (aCons (eVar 3) (aCons (eOp oAdd (eC (.int 22)) (eCall F_l_next (aCons (eVar 1) (aCons (eOp oIx (eLst (aCons (eC (.int 16)) (aCons (eC (.int 300)) aNil))) (eCB (c1 oInt) (aCons (eOp oGt (eCB (c1 oLen) (aCons (eFld ["Packet"] "data" (eVar 0)) aNil)) (eC (.int 90))) aNil))) aNil)))) aNil)))) sNx) lcB))) (sRet (eVar 2)))) := rfl
/-- the pieces of one piece, told and kept -/
theorem lcB_ok {A : Hs} {i q L a : Nat} {w : Pq} {qs : List Nat} {ys zs : List Pq} {o3 : Option D} {r : Nat} (dr : Drw A i) (hw : Wh w) (hL : A[L]? = some (.lst (zs.map Pq.row))) (hz : ∀ z ∈ zs, Pc w z) (hr : A[r]? = some (.lst (qs.map D.ref))) (ho : Objs A a qs ys) (hy : ∀ y ∈ ys, Pc w y)
    (hLi : L ≠ i) (hLa : L ≤ a) (hia : i ≤ a) (hra : a ≤ r) (hrL : r ≠ L) (hri : r ≠ i) (hzl : zs.length + qs.length ≤ 10000000) (R : RS → Prop)
    (hR : ∀ (B : Hs) (o5 o6 : Option D) (zs2 : List Pq), Drw B i → B[L]? = some (.lst (zs2.map Pq.row)) → (∀ z ∈ zs2, Pc w z) → zs2.length = zs.length + qs.length → Fr [i, L] A B → R (.nx [some (.ref q), some (.ref i), some (.ref L), o3, some (.ref r), o5, o6] B)) (o5 o6 : Option D) :
    R (lcB [some (.ref q), some (.ref i), some (.ref L), o3, some (.ref r), o5, o6] A) := by
  have lL := lt_of_get hL
  unfold lcB
  simp_arith [hr]
  refine for_go (R := R) (fun j e B => ∃ o5 o6 zs2, e = [some (.ref q), some (.ref i), some (.ref L), o3, some (.ref r), o5, o6] ∧ Drw B i ∧ B[L]? = some (.lst (zs2.map Pq.row)) ∧ (∀ z ∈ zs2, Pc w z) ∧ zs2.length = zs.length + j ∧ Fr [i, L] A B) ⟨o5, o6, zs, rfl, dr, hL, hz, rfl, .refl⟩ (fun j e B _ h => ?_) ?_ ?_
  · obtain ⟨_, _, _, _, _, _, _, _, f⟩ := h
    exact f.get hr (by simp [hrL, hri])
  · rintro j _ B d hd ⟨o5, o6, zs2, rfl, dB, gB, hz2, hl2, fB⟩
    have hj := lt_of_get hd
    rw [List.length_map] at hj
    obtain ⟨x, y, rfl, gx, hym, hax⟩ := objs_at ho hd
    have gx2 := fB.get gx (by simp only [List.mem_cons, List.not_mem_nil, or_false]; omega)
    have py := hy y hym
    have et := told_ok gx2
    have er : y.row = .tup [.int y.s, .int y.t, .int y.k, .int y.l, .int y.n, .int y.f, .bl y.m, .tup (y.d.map D.int)] := rfl
    have gx3 : B[x]? = some (.obj "Packet" [("source", .int y.s), ("target", .int y.t), ("kind", .int y.k), ("life", .int y.l), ("name", .int y.n), ("first", .int y.f), ("more", .bl y.m), ("data", rw_ y.d)]) := gx2
    obtain ⟨v, C, va, vb, e1, d1, f1⟩ := next_ok (n := 4) dB (by decide) (by decide)
    have gC := f1.get gB (by simp [hLi])
    have hlen : (zs2.map Pq.row).length + 1 ≤ 16000000 := by rw [List.length_map]; omega
    rw [er] at et
    show Got _ _
    have done : ∀ (D' : Hs) (z : Pq) (o6 : Option D), Pc w z → Drw D' i → D'[L]? = some (.lst (zs2.map Pq.row)) → Fr [i, L] B D' → ∃ (o5 o6_1 : Option D) (zs3 : List Pq), [some (D.ref q), some (.ref i), some (.ref L), o3, some (.ref r), some (.ref x), o6] = [some (.ref q), some (.ref i), some (.ref L), o3, some (.ref r), o5, o6_1] ∧ Drw (D'.set L (.lst (zs2.map Pq.row ++ [z.row]))) i ∧ (D'.set L (.lst (zs2.map Pq.row ++ [z.row])))[L]? = some (.lst (zs3.map Pq.row)) ∧ (∀ z ∈ zs3, Pc w z) ∧ zs3.length = zs.length + (j + 1) ∧ Fr [i, L] A (D'.set L (.lst (zs2.map Pq.row ++ [z.row]))) := by
      intro D' z o6 pz dD gD fD
      refine ⟨_, _, zs2 ++ [z], rfl, dD.frame (s := [L]) (.set (by simp)) (by simpa using Ne.symm hLi), ?_, fun u hu => ?_, ?_, (fB.trans fD).then_set (.inl (by simp))⟩
      · rw [zaz (lt_of_get gD), List.map_append]
        rfl
      · rcases List.mem_append.mp hu with h | h
        · exact hz2 u h
        · rw [List.mem_singleton] at h; rw [h]; exact pz
      · rw [List.length_append, List.length_singleton]
        omega
    by_cases c : 0 < y.l
    · by_cases c2 : v = 0
      · subst c2
        simp_arith [gx3, et, c, e1, gC]
        exact done C { y with l := y.l - 1 } _ (py.life (by have := py.l; omega)) d1 gC (f1.mono (by simp))
      · simp_arith [gx3, et, c, e1, c2, gC]
        exact done C y _ py d1 gC (f1.mono (by simp))
    · simp_arith [gx3, et, c, gB]
      exact done B y _ py dB gB .refl
  · rintro _ B ⟨o5, o6, zs2, rfl, dB, gB, hz2, hl2, fB⟩
    exact hR B o5 o6 zs2 dB gB hz2 (by rw [hl2, List.length_map]) fB
theorem J_le {L s J : Nat} {most : Int} (h : Jq L most s J) (hL : L ≤ 1000) (hs8 : 8 ≤ s) (hsm : (s : Int) ≤ most - 14) : J ≤ 1000 := by
  cases J with
  | zero => omega
  | succ J =>
    have h1 := h.2 J (Nat.lt_succ_self J)
    have h2 : J ≤ J * s := Nat.le_mul_of_pos_right J (by omega)
    omega
theorem cutL_ok {A : Hs} {i q : Nat} {w : Pq} (dr : Drw A i) (hw : Wh w) (hq : A[q]? = some (.obj "Packet" w.fs)) : Rk (F_l_cut [.ref q, .ref i] A) fun v A1 => ∃ (r : Nat) (zs : List Pq), v = .ref r ∧ A1[r]? = some (.lst (zs.map Pq.row)) ∧ (∀ z ∈ zs, Pc w z) ∧ (1 ≤ zs.length ∧ zs.length ≤ 2000000) ∧ Drw A1 i ∧ Fr [i] A A1 := by
  have nA := dr.lt
  have hqi : q ≠ i := by
    rintro rfl
    obtain ⟨_, _, h⟩ := dr
    rw [hq] at h
    cases h
  have wl : w.d.length ≤ 1000 := by have := hw.ok.dl; have := hw.f; omega
  have hq1 : (A ++ [O.lst []])[q]? = some (.obj "Packet" w.fs) := get_push hq
  have hq2 : (A ++ [O.lst []])[q]? = some (.obj "Packet" [("source", .int w.s), ("target", .int w.t), ("kind", .int w.k), ("life", .int w.l), ("name", .int w.n), ("first", .int w.f), ("more", .bl w.m), ("data", .tup (w.d.map D.int))]) := hq1
  obtain ⟨v, B1, n1, p1, va, vb, e1, d1, f1⟩ := most_ok (a := 64) (b := 600) (c := (90 : Int) < (w.d.length : Int)) (dr.pushed (x := .lst [])) (by omega) (by omega)
  have hqB := f1.get hq1 (by simp [hqi])
  have n1' := f1.le
  rw [List.length_append, List.length_singleton] at n1'
  obtain ⟨s, z1, z2, z3⟩ := size_of (most := 22 + v) (by omega)
  obtain ⟨_, C, e2, J, qs, rfl, gC, hJ, hO, fC⟩ := (cut_ok hw.ok hqB (by omega) (by omega) z1 z2 z3).ex
  have J1 := J_le hJ wl z2 z3
  have ql : qs.length = J + 1 := by rw [hO.1]; unfold pcs; simp
  have pP := (Pc.self hw).pcs hJ z2 z3
  have dC := d1.frame fC (by simp)
  have gL : C[A.length]? = some (.lst (([] : List Pq).map Pq.row)) := fC.get (f1.get zar (by rw [List.mem_singleton]; omega)) (by simp)
  have hq3 := get_push (u := .lst [.int 64, .int 600]) hq2
  have gC2 : C[B1.length]? = some (.lst (qs.map D.ref)) := gC
  have lC := lt_of_get gC
  rw [lc_eq]
  simp_arith [hq3, List.length_map, e1, p1, e2, gC2, -z66]
  refine for_go (R := fun rs => Rk (finR (seqR rs _)) _) (fun j e B => ∃ (o3 o4 o5 o6 : Option D) (zs : List Pq), e = [some (.ref q), some (.ref i), some (.ref A.length), o3, o4, o5, o6] ∧ Drw B i ∧ B[A.length]? = some (.lst (zs.map Pq.row)) ∧ (∀ z ∈ zs, Pc w z) ∧ (j ≤ zs.length ∧ zs.length ≤ j * 1001) ∧ Fr [i, A.length] C B) ⟨none, none, none, none, [], rfl, dC, gL, fun z hz => (by cases hz), ⟨Nat.le_refl _, by simp⟩, .refl⟩ (fun j e B _ h => ?_) ?_ ?_
  · obtain ⟨_, _, _, _, _, _, _, _, _, _, f⟩ := h
    exact f.get gC2 (by simp only [List.mem_cons, List.not_mem_nil, or_false]; omega)
  · rintro j _ B d hd ⟨o3, o4, o5, o6, zs, rfl, dB, gB, hz, hzl, fB⟩
    have hj := lt_of_get hd
    rw [List.length_map, ql] at hj
    obtain ⟨x, y, rfl, gx, hym, hax⟩ := objs_at hO hd
    have py := pP y hym
    have lB := fB.le
    have gxB := fB.get gx (by simp only [List.mem_cons, List.not_mem_nil, or_false]; omega)
    have qB := fB.get (fC.get hqB (by simp)) (by simp only [List.mem_cons, List.not_mem_nil, or_false]; have := lt_of_get hq; omega)
    have qB' : B[q]? = some (.obj "Packet" [("source", .int w.s), ("target", .int w.t), ("kind", .int w.k), ("life", .int w.l), ("name", .int w.n), ("first", .int w.f), ("more", .bl w.m), ("data", .tup (w.d.map D.int))]) := qB
    have yl : y.d.length ≤ 1000 := by have := py.e; have := py.f; omega
    have hzl2 : zs.length ≤ 1100000 := by
      have : j * 1001 ≤ 1001 * 1001 := Nat.mul_le_mul_right _ (by omega)
      have h2 := hzl.2
      omega
    obtain ⟨v3, B2, v3a, v3b, e3, d3, f3⟩ := next_ok (n := 3) (dB.pushed (x := .lst [.ref x])) (by decide) (by decide)
    have lB2 := f3.le
    rw [List.length_append, List.length_singleton] at lB2
    have fB2 : Fr [i] B B2 := (Fr.refl.then_push).trans f3
    have g2 := fB2.get gB (by rw [List.mem_singleton]; omega)
    have q2 := fB2.get qB' (by rw [List.mem_singleton]; exact hqi)
    have x2 := fB2.get gxB (by rw [List.mem_singleton]; omega)
    have r2 : B2[B.length]? = some (.lst ([x].map D.ref)) := f3.get zar (by rw [List.mem_singleton]; omega)
    show Got _ _
    by_cases c : v3 = 0
    · subst c
      obtain ⟨v4, B3, n4, p4, v4a, v4b, e4, d4, f4⟩ := most_ok (a := 16) (b := 300) (c := (90 : Int) < (w.d.length : Int)) d3 (by omega) (by omega)
      have x3 := f4.get x2 (by rw [List.mem_singleton]; omega)
      have q3 := get_push (u := .lst [.int 16, .int 300]) q2
      obtain ⟨s', y1, y2, y3⟩ := size_of (most := 22 + v4) (by omega)
      obtain ⟨_, E, e5, J', qs', rfl, gE, hJ', hO', fE⟩ := (cut_ok (py.ok hw) x3 (by omega) (by omega) y1 y2 y3).ex
      have J2 := J_le hJ' yl y2 y3
      have ql' : qs'.length = J' + 1 := by rw [hO'.1]; unfold pcs; simp
      have pP' := py.pcs hJ' y2 y3
      have n4' := f4.le
      have fBE : Fr [i] B E := (fB2.trans f4).trans (fE.mono (by simp))
      have gLE := fBE.get gB (by rw [List.mem_singleton]; omega)
      simp_arith [e3, q3, List.length_map, e4, p4, e5, -z66]
      refine lcB_ok (a := B3.length) (qs := qs') (ys := pcs y s' J') (zs := zs) (d4.frame fE (by simp)) hw gLE hz gE hO' pP' (by omega) (by omega) (by omega) (Nat.le_refl _) (by omega) (by omega) (by omega) _ (fun F o5 o6 zs2 dF gF hz2 hl2 fF => ?_) _ _
      refine ⟨_, _, _, _, zs2, rfl, dF, gF, hz2, ?_, (fB.trans (fBE.mono (by simp))).trans fF⟩
      rw [hl2, ql', Nat.succ_mul]
      have h1 := hzl.1
      have h2 := hzl.2
      omega
    · have hO1 : Objs B2 B1.length [x] [y] := ⟨rfl, fun i' x' y' h1 h2 => by
        cases i' with
        | zero => cases h1; cases h2; exact ⟨x2, hax⟩
        | succ i' => simp at h1⟩
      simp_arith [e3, c]
      refine lcB_ok (a := B1.length) (qs := [x]) (ys := [y]) (zs := zs) d3 hw g2 hz r2 hO1 (fun u hu => by rw [List.mem_singleton] at hu; rw [hu]; exact py) (by omega) (by omega) (by omega) (by omega) (by omega) (by omega) (by simp; omega) _ (fun F o5 o6 zs2 dF gF hz2 hl2 fF => ?_) _ _
      refine ⟨_, _, _, _, zs2, rfl, dF, gF, hz2, ?_, (fB.trans (fB2.mono (by simp))).trans fF⟩
      rw [hl2, List.length_singleton, Nat.succ_mul]
      have h1 := hzl.1
      have h2 := hzl.2
      omega
  · rintro _ B ⟨o3, o4, o5, o6, zs, rfl, dB, gB, hz, hzl, fB⟩
    rw [List.length_map, ql] at hzl
    simp_arith []
    refine ⟨_, zs, rfl, gB, hz, ?_, dB, ?_⟩
    · have : (J + 1) * 1001 ≤ 1001 * 1001 := Nat.mul_le_mul_right _ (by omega)
      have h1 := hzl.1
      have h2 := hzl.2
      omega
    · have fA : Fr [i] A C := ((Fr.refl.then_push).trans f1).trans (fC.mono (by simp))
      refine ⟨Nat.le_trans fA.le fB.le, fun k hk hn => ?_⟩
      have := fA.le
      rw [fB.2 k (by omega) (by simp only [List.mem_cons, List.not_mem_nil, or_false] at hn ⊢; omega), fA.2 k hk hn]

/-! the rows in a drawn order -/
open DL (Bytes)
theorem ins_ok {A : Hs} {r : Nat} {l : List D} {j : Int} {d : D} (h : A[r]? = some (.lst l)) (hl : l.length < 16000000) (hj : 0 ≤ j ∧ j < 20000000) : oInsert (.ref r) [.int j, d] A = .ok .non (A.set r (.lst (l.take j.toNat ++ [d] ++ l.drop j.toNat))) := by
  have e : lstAt A (.ref r) = some (r, l) := by unfold lstAt; simp only [h]
  unfold oInsert
  rw [e]
  simp only
  rw [if_pos ⟨Nat.lt_of_lt_of_le hl (by rw [sizeLine_eq]; decide), hj.1, Int.lt_of_lt_of_le hj.2 (by decide)⟩]
theorem order_ok {A : Hs} {i ro : Nat} {zs : List Pq} (dr : Drw A i) (hr : A[ro]? = some (.lst (zs.map Pq.row))) (h1 : 1 ≤ zs.length) (h2 : zs.length ≤ 9000000) : Rk (F_l_order [.ref ro, .ref i] A) fun v A1 => ∃ (r : Nat) (ys : List Pq), v = .ref r ∧ A1[r]? = some (.lst (ys.map Pq.row)) ∧ (∀ y ∈ ys, y ∈ zs) ∧ A.length ≤ r ∧ ys.length ≤ 10000000 ∧ Drw A1 i ∧ Fr [i] A A1 := by
  have nA := dr.lt
  have hri : ro ≠ i := by
    rintro rfl
    obtain ⟨a, b, h⟩ := dr
    rw [hr] at h
    cases zs with
    | nil => simp at h1
    | cons z zs => cases h
  obtain ⟨v, B, va, vb, e1, d1, f1⟩ := next_ok (n := 9) dr (by decide) (by decide)
  have hrB := f1.get hr (by simp [hri])
  have some_ : Rk (lcL (SM.gN 2) tYe (eOp oIx (eVar 0) (eCall0 F_l_next (aCons (eVar 1) (aCons (eCB (c1 oLen) (aCons (eVar 0) aNil)) aNil)))) tt [some (.ref ro), some (.ref i), none, none, none] (rgL 0 1 v.toNat) [] B) fun l E => ∃ us : List Pq, l = us.map Pq.row ∧ (∀ u ∈ us, u ∈ zs) ∧ us.length = v.toNat ∧ Drw E i ∧ Fr [i] B E := by
    refine (lc_run (fun j acc C => ∃ us : List Pq, acc = us.map Pq.row ∧ (∀ u ∈ us, u ∈ zs) ∧ us.length = j ∧ Drw C i ∧ Fr [i] B C) (ds := rgL 0 1 v.toNat) ⟨[], rfl, (fun x hx => by cases hx), rfl, d1, .refl⟩ (by rw [rgL_len]; omega) (fun _ _ _ _ => trivial) ?_).mono ?_
    · intro j d hd acc C hP
      obtain ⟨us, rfl, hu, hl, dC, fC⟩ := hP
      have hrC := fC.get hrB (by simp [hri])
      obtain ⟨x, D1, xa, xb, e2, d2, f2⟩ := next_ok (n := (zs.length : Int)) dC (by omega) (by omega)
      have hrD := f2.get hrC (by simp [hri])
      have hx : x.toNat < zs.length := by omega
      have hat : atI (zs.map Pq.row) x = some (zs[x.toNat].row) := by
        rw [z66 xa, List.getElem?_map, List.getElem?_eq_getElem hx]
        rfl
      obtain ⟨rfl, hj⟩ := rgL_get hd
      show Got _ _
      simp_arith [hrC, List.length_map, e2, hrD, hat, -z66]
      refine ⟨us ++ [zs[x.toNat]], by simp, fun u hu' => ?_, by simp [hl], d2, fC.trans f2⟩
      rcases List.mem_append.mp hu' with h | h
      · exact hu u h
      · rw [List.mem_singleton] at h; rw [h]; exact List.getElem_mem hx
    · rintro l C ⟨us, h1, h2, h3, h4, h5⟩
      exact ⟨us, h1, h2, by rw [h3, rgL_len], h4, h5⟩
  obtain ⟨_, C, e2, us, rfl, hu, hul, dC, fC⟩ := some_.ex
  have hrC := fC.get hrB (by simp [hri])
  have hlen : (zs.map Pq.row).length + (us.map Pq.row).length ≤ 16000000 := by rw [List.length_map, List.length_map, hul]; omega
  obtain ⟨ws, hws⟩ : ∃ ws, ws = zs ++ us := ⟨_, rfl⟩
  have hwm : zs.map Pq.row ++ us.map Pq.row = ws.map Pq.row := by rw [hws, List.map_append]
  have hwz : ∀ y ∈ ws, y ∈ zs := fun y hy => by
    rw [hws] at hy
    exact (List.mem_append.mp hy).elim id (hu y)
  have hwl : ws.length ≤ 9000010 := by rw [hws, List.length_append, hul]; omega
  have nB := f1.le
  have nC := fC.le
  obtain ⟨G, hG⟩ : ∃ G, G = C ++ [O.lst (us.map Pq.row)] ++ [O.lst (ws.map Pq.row)] ++ [O.lst []] := ⟨_, rfl⟩
  have lG : G.length = C.length + 3 := by rw [hG]; simp
  have gW : G[C.length + 1]? = some (.lst (ws.map Pq.row)) := by rw [hG]; exact get_push (getp (by simp))
  have gF : G[C.length + 2]? = some (.lst (([] : List Pq).map Pq.row)) := by rw [hG]; exact getp (by simp)
  have fG : Fr [i] A G := by rw [hG]; exact (((f1.trans fC).then_push).then_push).then_push
  have dG : Drw G i := by rw [hG]; exact dC.pushed.pushed.pushed
  have hrC2 := get_push (u := .lst (us.map Pq.row)) hrC
  unfold F_l_order
  simp_arith [e1, e2, hrC2, hwm]
  rw [← hG]
  refine for_go (R := fun rs => Rk (finR (seqR rs _)) _) (fun j e B => ∃ (o2 o4 : Option D) (ys : List Pq), e = [some (.ref (C.length + 1)), some (.ref i), o2, some (.ref (C.length + 2)), o4] ∧ Drw B i ∧ B[C.length + 2]? = some (.lst (ys.map Pq.row)) ∧ (∀ y ∈ ys, y ∈ zs) ∧ ys.length = j ∧ Fr [i, C.length + 2] G B) ⟨none, none, [], rfl, dG, gF, fun y hy => (by cases hy), rfl, .refl⟩ (fun j e B _ h => ?_) ?_ ?_
  · obtain ⟨_, _, _, _, _, _, _, _, f⟩ := h
    exact f.get gW (by simp only [List.mem_cons, List.not_mem_nil, or_false]; omega)
  · rintro j _ B d hd ⟨o2, o4, ys, rfl, dB, gB, hy, hyl, fB⟩
    have hj := lt_of_get hd
    rw [List.length_map] at hj
    rw [List.getElem?_map] at hd
    obtain ⟨y, hyj, rfl⟩ := Option.map_eq_some_iff.mp hd
    obtain ⟨x, D1, xa, xb, e3, d3, f3⟩ := next_ok (n := (ys.length : Int) + 1) dB (by omega) (by omega)
    have gD := f3.get gB (by rw [List.mem_singleton]; omega)
    have ins := ins_ok (j := x) (d := y.row) gD (by rw [List.length_map]; omega) (by omega)
    show Got _ _
    simp_arith [gB, List.length_map, e3, gD, ins]
    refine ⟨_, _, ys.take x.toNat ++ [y] ++ ys.drop x.toNat, rfl, d3.frame (s := [C.length + 2]) (.set (by simp)) (by rw [List.mem_singleton]; omega), ?_, fun u hu' => ?_, ?_, (fB.trans (f3.mono (by simp))).then_set (.inl (by simp))⟩
    · rw [zaz (lt_of_get gD), List.map_append, List.map_append, List.map_take, List.map_drop]
      rfl
    · rcases List.mem_append.mp hu' with h | h
      · rcases List.mem_append.mp h with h | h
        · exact hy u (List.mem_of_mem_take h)
        · rw [List.mem_singleton] at h; rw [h]; exact hwz y (List.mem_of_getElem? hyj)
      · exact hy u (List.mem_of_mem_drop h)
    · rw [List.length_append, List.length_append, List.length_take, List.length_drop, List.length_singleton]
      omega
  · rintro _ B ⟨o2, o4, ys, rfl, dB, gB, hy, hyl, fB⟩
    rw [List.length_map] at hyl
    simp_arith []
    refine ⟨_, ys, rfl, gB, hy, by omega, by omega, dB, ?_⟩
    refine ⟨Nat.le_trans fG.le fB.le, fun k hk hn => ?_⟩
    have := fG.le
    rw [fB.2 k (by omega) (by simp only [List.mem_cons, List.not_mem_nil, or_false] at hn ⊢; omega), fG.2 k hk hn]

/-! two packets in one joiner -/
open DL (Bytes)
def Os (f : Four) : Option Jh → List (Four × Jh)
  | none => []
  | some h => [(f, h)]
def Sh (f g : Four) (hs : List (Four × Jh)) (a b : Option Jh) : Prop := hs = Os f a ++ Os g b ∨ hs = Os g b ++ Os f a
theorem Sh.swap {f g : Four} {hs : List (Four × Jh)} {a b : Option Jh} (h : Sh f g hs a b) : Sh g f hs b a := h.symm
theorem lkf {f g : Four} {h : Jh} {hs : List (Four × Jh)} : ((g, h) :: hs).lookup f = if f = g then some h else hs.lookup f := by
  rw [List.lookup_cons]
  by_cases c : f = g
  · subst c; simp
  · have : (f == g) = false := by simpa using c
    rw [this, if_neg c]
section
variable {f g : Four} {hs : List (Four × Jh)} {a b : Option Jh}
theorem Sh.look (n : f ≠ g) (h : Sh f g hs a b) : hs.lookup f = a := by
  rcases h with rfl | rfl <;> cases a <;> cases b <;> simp [Os, lkf, n, List.lookup]
theorem Sh.wo (n : f ≠ g) (h : Sh f g hs a b) : Sh f g (wo hs f) none b := by
  unfold Kk.wo
  rcases h with rfl | rfl <;> cases a <;> cases b <;> simp [Os, Sh, Ne.symm n, List.filter]
theorem Sh.held (h : Sh f g hs a b) : held hs = (((a.map fun x => x.kv.length).getD 0 : Nat) : Int) + (((b.map fun x => x.kv.length).getD 0 : Nat) : Int) := by
  unfold Kk.held
  rcases h with rfl | rfl <;> cases a <;> cases b <;> simp [Os] <;> omega
theorem Sh.old {pat tick : Int} (hp : 0 < pat) (h : Sh f g hs a b) (ha : ∀ x, a = some x → x.since = tick) (hb : ∀ x, b = some x → x.since = tick) : old pat tick hs = hs := by
  unfold Kk.old
  rw [List.filter_eq_self]
  intro z hz
  have : z.2.since = tick := by
    rcases h with rfl | rfl <;> cases a <;> cases b <;> simp [Os] at hz <;> first | (rcases hz with rfl | rfl) | subst hz | skip
    all_goals first | exact ha _ rfl | exact hb _ rfl
  rw [this]
  exact decide_eq_true (by omega)
theorem Sh.ens {p : Pq} {tick : Int} (n : p.four ≠ g) (h : Sh p.four g hs a b) : Sh p.four g (ens hs p tick) (some (a.getD ⟨tick, p.l, none, []⟩)) b ∧ hen hs p tick = a.getD ⟨tick, p.l, none, []⟩ := by
  have hl := h.look n
  unfold Kk.ens hen
  rw [hl]
  cases a with
  | some x => exact ⟨h, rfl⟩
  | none =>
    refine ⟨?_, rfl⟩
    have : hs = Os g b := by
      rcases h with h | h
      · simpa [Os] using h
      · simpa [Os] using h
    rw [this]
    exact .inr rfl
theorem Sh.wi {x h' : Jh} (n : f ≠ g) (h : Sh f g hs (some x) b) : Sh f g (wi hs f h') (some h') b := by
  unfold Kk.wi
  rcases h with rfl | rfl <;> cases b <;> simp [Os, Sh, Ne.symm n]
end
theorem mem_sds2 : ∀ {l : List Int} {kv : List (Int × Int)} {p : Int} {z : Int × Int}, z ∈ sds kv p l → z ∈ kv ∨ ∃ i : Nat, z.1 = p + i ∧ l[i]? = some z.2
  | [], kv, p, z, h => .inl h
  | b :: l, kv, p, z, h => by
    rw [sds] at h
    rcases mem_sds2 h with h | ⟨i, h1, h2⟩
    · unfold sd at h
      split at h
      · exact .inl h
      · rcases List.mem_append.mp h with h | h
        · exact .inl h
        · rw [List.mem_singleton] at h
          rw [h]
          exact .inr ⟨0, by simp, rfl⟩
    · exact .inr ⟨i + 1, by omega, by simpa using h2⟩
/-- what is held of w -/
structure Cs (w : Pq) (h : Jh) : Prop where
  kv : Kv h.kv
  by_ : ∀ z ∈ h.kv, 0 ≤ z.1 ∧ z.1 < (w.d.length : Int) ∧ w.d[z.1.toNat]? = some z.2
  en : h.en = none ∨ h.en = some (w.d.length : Int)
  no : h.en = none → ∀ z ∈ h.kv, z.1 + 1 < (w.d.length : Int)
  nl : h.kv.length < w.d.length
theorem hold_cs {w y : Pq} {h : Jh} (hw : Wh w) (py : Pc w y) (hc : Cs w h) (hn : ¬ (y.f = 0 ∧ y.m = false)) :
    ∃ en', h.hold y = (⟨h.since, min h.life y.l, en', sds h.kv y.f y.d⟩, true) ∧ (∀ f, f = w.four → (sds h.kv y.f y.d).length = w.d.length → (⟨h.since, min h.life y.l, en', sds h.kv y.f y.d⟩ : Jh).there = true ∧ (⟨h.since, min h.life y.l, en', sds h.kv y.f y.d⟩ : Jh).made f = { w with l := min h.life y.l }) ∧
      ((sds h.kv y.f y.d).length ≠ w.d.length → (⟨h.since, min h.life y.l, en', sds h.kv y.f y.d⟩ : Jh).there = false ∧ Cs w ⟨h.since, min h.life y.l, en', sds h.kv y.f y.d⟩) := by
  have yok := py.ok hw
  have e1 := py.e
  have e2 := py.f
  have dl := yok.dl
  have kv' : Kv (sds h.kv y.f y.d) := hc.kv.sds e2 (by omega) fun x hx => yok.b x hx
  have by' : ∀ z ∈ sds h.kv y.f y.d, 0 ≤ z.1 ∧ z.1 < (w.d.length : Int) ∧ w.d[z.1.toNat]? = some z.2 := by
    intro z hz
    rcases mem_sds2 hz with hz | ⟨i, h1, h2⟩
    · exact hc.by_ z hz
    · have hi := lt_of_get h2
      refine ⟨by omega, by omega, ?_⟩
      rw [py.d, List.getElem?_take, if_pos hi, List.getElem?_drop] at h2
      rw [← h2]
      congr 1
      omega
  have mx : mxp (sds h.kv y.f y.d) < (w.d.length : Int) := mxp_lt (fun z hz => (by' z hz).2.1) (by omega)
  obtain ⟨en', hen'⟩ : ∃ en' : Option Int, en' = if y.m = true then h.en else some (w.d.length : Int) := ⟨_, rfl⟩
  have en2 : en' = none ∨ en' = some (w.d.length : Int) := by
    rw [hen']
    split
    · exact hc.en
    · exact .inr rfl
  have ein : inB en' (sds h.kv y.f y.d) = true := by
    rcases en2 with e | e <;> rw [e]
    · rfl
    · exact decide_eq_true mx
  have no' : en' = none → ∀ z ∈ sds h.kv y.f y.d, z.1 + 1 < (w.d.length : Int) := by
    intro e z hz
    rw [hen'] at e
    by_cases c : y.m = true
    · rw [if_pos c] at e
      rw [py.m] at c
      have c := of_decide_eq_true c
      rcases mem_sds2 hz with hz | ⟨i, h1, h2⟩
      · exact hc.no e z hz
      · have hi := lt_of_get h2
        omega
    · rw [if_neg c] at e
      cases e
  have hd : h.hold y = (⟨h.since, min h.life y.l, en', sds h.kv y.f y.d⟩, true) := by
    unfold Jh.hold
    by_cases c : y.m = true
    · have e : en' = h.en := by rw [hen', if_pos c]
      rw [if_pos c]
      rw [e] at ein
      rw [ein, e]
    · have e : en' = some (w.d.length : Int) := by rw [hen', if_neg c]
      have hE : y.f + (y.d.length : Int) = (w.d.length : Int) := by
        rw [py.m] at c
        have c : ¬ (y.f + (y.d.length : Int) < (w.d.length : Int)) := fun q => c (decide_eq_true q)
        omega
      rw [if_neg c]
      rw [e] at ein
      rcases hc.en with q | q <;> rw [q] <;> simp only [hE] <;> rw [e]
      · rw [ein]
      · rw [if_neg (by simp), ein]
  have all : (sds h.kv y.f y.d).length = w.d.length → en' = some (w.d.length : Int) := by
    intro hl
    rcases en2 with e | e
    · exfalso
      have h0 := no' e
      have := (all_there (w.d.length - 1) kv'.nd (fun x hx => by
        obtain ⟨z, hz, rfl⟩ := List.mem_map.mp hx
        have a := by' z hz
        have b := h0 z hz
        omega)).1
      rw [List.length_map] at this
      have := hc.nl
      omega
    · exact e
  refine ⟨en', hd, fun f hf hl => ?_, fun hl => ⟨?_, kv', by', en2, no', ?_⟩⟩
  · have e := all hl
    subst hf
    refine ⟨?_, ?_⟩
    · unfold Jh.there
      simp only [e]
      exact decide_eq_true (by omega)
    · unfold Jh.made
      simp only [e, Option.getD_some, Int.toNat_natCast]
      have hdat : dataK (sds h.kv y.f y.d) w.d.length = w.d := by
        refine data_of_look fun i hi => ?_
        obtain ⟨b, hb, _⟩ := full_ (e := (w.d.length : Int)) kv' mx (by omega) i (by omega)
        have hm : ((i : Int), b) ∈ sds h.kv y.f y.d := by
          obtain ⟨b', h1, h2⟩ := look_some (kv := sds h.kv y.f y.d) (p := (i : Int)) (by
            by_cases q : (i : Int) ∈ (sds h.kv y.f y.d).map Prod.fst
            · exact q
            · rw [look_not q] at hb; cases hb)
          rw [hb] at h1
          cases h1
          exact h2
        have := (by' _ hm).2.2
        rw [hb, ← this]
        rfl
      rw [hdat]
      have hf := hw.f
      have hm := hw.m
      obtain ⟨ws, wt, wk, wl, wn, wf, wm, wd⟩ := w
      simp only at hf hm
      rw [hf, hm]
      rfl
  · unfold Jh.there
    rcases en2 with e | e <;> simp only [e]
    exact decide_eq_false (by omega)
  · have := (all_there w.d.length kv'.nd (fun x hx => by
      obtain ⟨z, hz, rfl⟩ := List.mem_map.mp hx
      have a := by' z hz
      omega)).1
    rw [List.length_map] at this
    show (sds h.kv y.f y.d).length < w.d.length
    omega
/-- what is held of w at a tick, if anything -/
def StA (w : Pq) (tick : Int) (a : Option Jh) : Prop := ∀ x, a = some x → x.since = tick ∧ Cs w x
theorem Cs.len {w : Pq} {h : Jh} (hw : Wh w) (c : Cs w h) : h.kv.length ≤ 1000 := by
  have := c.nl
  have := hw.ok.dl
  have := hw.f
  omega
theorem step_ok {J : Jn} {w v y : Pq} {g : Four} {a b : Option Jh} {tick : Int} (hw : Wh w) (hv : Wh v) (n : w.four ≠ g) (py : Pc w y) (hn : ¬ (y.f = 0 ∧ y.m = false)) (hp : 0 < J.pat) (hr : 2000 ≤ J.room)
    (h : Sh w.four g J.hs a b) (sa : StA w tick a) (sb : StA v tick b) :
    old J.pat tick J.hs = J.hs ∧ ∃ a', Sh w.four g (J.hs3 y tick) a' b ∧ StA w tick a' ∧
      ((sds (a.getD ⟨tick, y.l, none, []⟩).kv y.f y.d).length = w.d.length → (J.hs2 y tick).2 = some { w with l := min (a.getD ⟨tick, y.l, none, []⟩).life y.l } ∧ a' = none) ∧
      ((sds (a.getD ⟨tick, y.l, none, []⟩).kv y.f y.d).length ≠ w.d.length → (J.hs2 y tick).2 = none ∧ ∃ x, a' = some x ∧ x.life = min (a.getD ⟨tick, y.l, none, []⟩).life y.l ∧ x.kv = sds (a.getD ⟨tick, y.l, none, []⟩).kv y.f y.d) := by
  have ho := h.old (tick := tick) hp (fun x hx => (sa x hx).1) (fun x hx => (sb x hx).1)
  refine ⟨ho, ?_⟩
  have hL : 0 < w.d.length := by
    rcases Nat.eq_zero_or_pos w.d.length with q | q
    · exfalso
      have e := py.e
      have f := py.f
      refine hn ⟨by omega, ?_⟩
      rw [py.m]
      exact decide_eq_false (by omega)
    · exact q
  have yf := py.four
  obtain ⟨x, hx⟩ : ∃ x, x = a.getD ⟨tick, y.l, none, []⟩ := ⟨_, rfl⟩
  have cx : x.since = tick ∧ Cs w x := by
    rw [hx]
    cases a with
    | some z => exact sa z rfl
    | none => exact ⟨rfl, ⟨.nil, fun z hz => (by cases hz), fun z hz => (by cases hz)⟩, fun z hz => (by cases hz), .inl rfl, fun _ z hz => (by cases hz), hL⟩
  rw [← hx]
  have he := Sh.ens (p := y) (tick := tick) (g := g) (hs := J.hs) (a := a) (b := b) (by rw [yf]; exact n) (by rw [yf]; exact h)
  rw [yf, ← hx] at he
  obtain ⟨en', hd, full, part⟩ := hold_cs hw py cx.2 hn
  have e2 : (J.hs2 y tick) = tk1 (ens J.hs y tick) y (x.hold y) := by unfold Jn.hs2; rw [ho, he.2]
  have e3 : (J.hs3 y tick) = tk3 J.room (ens J.hs y tick) y (x.hold y) := by unfold Jn.hs3; rw [ho, he.2]
  rw [e2, e3, hd]
  by_cases c : (sds x.kv y.f y.d).length = w.d.length
  · obtain ⟨t1, t2⟩ := full y.four yf c
    have h2 : tk1 (ens J.hs y tick) y (⟨x.since, min x.life y.l, en', sds x.kv y.f y.d⟩, true) = (wo (ens J.hs y tick) y.four, some { w with l := min x.life y.l }) := by
      unfold tk1
      simp only [t1, t2, if_true]
      rfl
    have h3 : tk3 J.room (ens J.hs y tick) y (⟨x.since, min x.life y.l, en', sds x.kv y.f y.d⟩, true) = wo (ens J.hs y tick) y.four := by
      unfold tk3
      simp only [t1, if_true]
      rfl
    rw [h2, h3, yf]
    exact ⟨none, he.1.wo n, fun _ q => (by cases q), fun _ => ⟨rfl, rfl⟩, fun q => absurd c q⟩
  · obtain ⟨t1, cs⟩ := part c
    have h2 : tk1 (ens J.hs y tick) y (⟨x.since, min x.life y.l, en', sds x.kv y.f y.d⟩, true) = (wi (ens J.hs y tick) y.four ⟨x.since, min x.life y.l, en', sds x.kv y.f y.d⟩, none) := by
      unfold tk1
      simp only [t1]
      rfl
    have hwi : Sh w.four g (wi (ens J.hs y tick) w.four ⟨x.since, min x.life y.l, en', sds x.kv y.f y.d⟩) (some ⟨x.since, min x.life y.l, en', sds x.kv y.f y.d⟩) b := he.1.wi n
    have h3 : tk3 J.room (ens J.hs y tick) y (⟨x.since, min x.life y.l, en', sds x.kv y.f y.d⟩, true) = wi (ens J.hs y tick) w.four ⟨x.since, min x.life y.l, en', sds x.kv y.f y.d⟩ := by
      unfold tk3
      simp only [t1, yf]
      show fgo J.room _ = _
      refine fgo_small ?_
      rw [hwi.held]
      have l1 := cs.len hw
      have l1 : (sds x.kv y.f y.d).length ≤ 1000 := l1
      have l2 : ((b.map fun x => x.kv.length).getD 0 : Nat) ≤ 1000 := by
        cases b with
        | none => exact Nat.zero_le _
        | some z => exact (sb z rfl).2.len hv
      simp only [Option.map_some, Option.getD_some]
      omega
    rw [h2, h3]
    refine ⟨_, hwi, fun z hz => ?_, fun q => absurd q c, fun _ => ⟨rfl, _, rfl, rfl, rfl⟩⟩
    cases hz
    exact ⟨cx.1, cs⟩

/-! what has come, by the law -/
open DL (Bytes)
def kb (ks : List Int) : List (D × D) := kvG D.int (ks.map fun p => (p, D.bl true))
def kad (ks : List Int) (p : Int) : List Int := if p ∈ ks then ks else ks ++ [p]
theorem look_kb {ks : List Int} {p : Int} : (ks.map fun p => (p, D.bl true)).lookup p = if p ∈ ks then some (.bl true) else none := by
  induction ks with
  | nil => rfl
  | cons a ks ih =>
    rw [List.map_cons, lookG, ih]
    by_cases h : p = a
    · subst h; simp
    · simp [h]
theorem kput_kb {ks : List Int} {p : Int} : kput (kb ks) (.int p) (.bl true) = kb (kad ks p) := by
  unfold kad
  by_cases h : p ∈ ks
  · rw [if_pos h]
    have hh : khas (kb ks) (.int p) = true := by
      unfold khas kb kvG
      rw [List.any_eq_true]
      exact ⟨(.int p, .bl true), List.mem_map.mpr ⟨(p, .bl true), List.mem_map.mpr ⟨p, h, rfl⟩, rfl⟩, by rw [ii_keq]; exact decide_eq_true rfl⟩
    unfold kput
    rw [if_pos hh]
    unfold kb kvG
    clear h hh
    induction ks with
    | nil => rfl
    | cons a ks ih =>
      rw [List.map_cons, List.map_cons]
      first
        | (rw [z1c, ih, ii_keq]
           by_cases q : a = p
           · subst q; simp
           · simp [q])
        | (simp only [List.map_cons]; rw [ih]; by_cases q : a = p <;> simp [q, ii_keq])
  · rw [if_neg h]
    unfold kb
    rw [kput_kvG ii_keq (by rw [look_kb, if_neg h]), List.map_append]
    rfl
theorem keys_sd {kv : List (Int × Int)} {p b : Int} : (sd kv p b).map Prod.fst = kad (kv.map Prod.fst) p := by
  unfold sd kad
  cases q : kv.lookup p with
  | some x =>
    have : p ∈ kv.map Prod.fst := by
      by_cases h : p ∈ kv.map Prod.fst
      · exact h
      · rw [look_not h] at q; cases q
    rw [if_pos this]
  | none =>
    rw [if_neg (look_none q), List.map_append]
    rfl
def prs (f : Int) (n : Nat) : List (D × D) := (List.range n).map fun (i : Nat) => (D.int (f + i), D.bl true)
theorem prs_succ {f : Int} {n : Nat} : prs f (n + 1) = (.int f, .bl true) :: prs (f + 1) n := by
  unfold prs
  rw [List.range_succ_eq_map, List.map_cons, List.map_map]
  congr 1
  · simp
  · refine List.map_congr_left fun i _ => ?_
    simp only [Function.comp]
    congr 2
    omega
theorem merge_kb : ∀ {d : List Int} {kv : List (Int × Int)} {f : Int}, kmerge (kb (kv.map Prod.fst)) (prs f d.length) = kb ((sds kv f d).map Prod.fst)
  | [], kv, f => rfl
  | b :: d, kv, f => by
    rw [List.length_cons, prs_succ]
    unfold kmerge
    rw [kput_kb, ← keys_sd (b := b), merge_kb (d := d) (kv := sd kv f b) (f := f + 1)]
    rfl
theorem pairs_prs {f : Int} {n : Nat} : pairsD ((prs f n).map fun p => .tup [p.1, p.2]) = some (prs f n) := by
  unfold prs
  generalize List.range n = l
  induction l with
  | nil => rfl
  | cons i l ih =>
    rw [List.map_cons, List.map_cons]
    unfold pairsD
    have k : (keyK (D.int (f + (i : Int)))).isSome = true := rfl
    simp only [k, if_true, ih]
    rfl
theorem len_kb {ks : List Int} : (kb ks).length = ks.length := by unfold kb; rw [len_kvG, List.length_map]
theorem len_prs {f : Int} {n : Nat} : (prs f n).length = n := by unfold prs; simp

/-! a row, by the law -/
open DL (Bytes)
theorem take_3 {a b c : D} {r s : List D} : List.take 3 (a :: b :: c :: r) ++ s = a :: b :: c :: s := rfl
structure Cm (A : Hs) (c d : Nat) (l : Int) (ks : List Int) : Prop where
  c : A[c]? = some (.lst [.int l, .ref d])
  d : A[d]? = some (.dic false false (kb ks))
theorem Cm.frame {A B : Hs} {c d : Nat} {l : Int} {ks : List Int} (h : Cm A c d l ks) {s : List Nat} (f : Fr s A B) (hc : c ∉ s) (hd : d ∉ s) : Cm B c d l ks := ⟨f.get h.c hc, f.get h.d hd⟩
theorem Cm.ne {A : Hs} {c d : Nat} {l : Int} {ks : List Int} (h : Cm A c d l ks) : c ≠ d := by
  rintro rfl
  have := h.c
  rw [h.d] at this
  cases this
noncomputable def lpT : S := (sIf (tNo (tOf (eCall F_l_same (aCons (eMeth "take" [("Joiner", F_Joiner_take)] (eVar 2) (aCons (eCall F_l_packet_of (aCons (eVar 8) aNil)) (aCons (eVar 1) aNil))) (aCons (eVar 13) aNil))))) (sRet (eC (.bl false))) sNx)
noncomputable def lpI : S := (sIf (tOo (tOf (eOp oGt (eOp oIx (eVar 8) (eC (.int 5))) (eC (.int 0)))) (tOf (eOp oIx (eVar 8) (eC (.int 6))))) (sSeq (sPut (eVar 11) (eVar 12) (eLst (aCons (eCB (c2 oMin2) (aCons (eOp oIx (eOp oIx (eVar 11) (eVar 12)) (eC (.int 0))) (aCons (eOp oIx (eVar 8) (eC (.int 3))) aNil))) (aCons (eOp oIx (eOp oIx (eVar 11) (eVar 12)) (eC (.int 1))) aNil)))) (sSeq (sDrop (eBD (d1_ oUpdK) (eOp oIx (eOp oIx (eVar 11) (eVar 12)) (eC (.int 1))) (aCons (eLc (wAs rg1 (aCons (eCB (c1 oLen) (aCons (eOp oIx (eVar 8) (eC (.int 7))) aNil)) aNil)) (gN 14) tYe (eTup (aCons (eOp oAdd (eOp oIx (eVar 8) (eC (.int 5))) (eVar 14)) (aCons (eC (.bl true)) aNil))) [14]) aNil))) (sSeq (sSet 13 (eC .non)) (sIf (tOf (eOp oEq (eCB (c1 oLen) (aCons (eOp oIx (eOp oIx (eVar 11) (eVar 12)) (eC (.int 1))) aNil)) (eCB (c1 oLen) (aCons (eOp oIx (eOp oIx (eVar 7) (eVar 12)) (eC (.int 7))) aNil)))) (sSeq (sSet 13 (eOp oAdd (eOp oAdd (eSl oSl (eOp oIx (eVar 7) (eVar 12)) oNo (oSo (eC (.int 3)))) (eTup (aCons (eOp oIx (eOp oIx (eVar 11) (eVar 12)) (eC (.int 0))) aNil))) (eSl oSl (eOp oIx (eVar 7) (eVar 12)) (oSo (eC (.int 4))) oNo))) (sPut (eVar 11) (eVar 12) (eLst (aCons (eC (.int 255)) (aCons (eDNew false) aNil))))) sNx)))) sNx)
noncomputable def lpB : S := (sSeq (sSet 12 (eCB (c1 oInt) (aCons (eOp oNe (eOp oAdd (eSl oSl (eVar 8) oNo (oSo (eC (.int 3)))) (eSl oSl (eVar 8) (oSo (eC (.int 4))) (oSo (eC (.int 5))))) (eOp oAdd (eSl oSl (eOp oIx (eVar 7) (eC (.int 0))) oNo (oSo (eC (.int 3)))) (eSl oSl (eOp oIx (eVar 7) (eC (.int 0))) (oSo (eC (.int 4))) (oSo (eC (.int 5)))))) aNil))) (sSeq (sSet 13 (eVar 8)) (sSeq lpI lpT)))
noncomputable def lrR : S := (sSeq (sSet 6 (eOp oIx (eLst (aCons (eC (.int 90)) (aCons (eC (.int 1000)) aNil))) (eCB (c1 oInt) (aCons (eOp oEq (eCall F_l_next (aCons (eVar 0) (aCons (eC (.int 8)) aNil))) (eC (.int 5))) aNil)))) (sSeq (sSet 7 (eLst aNil)) (sSeq (sFor (wSeq (eTup (aCons (eVar 3) (aCons (eCB (c1 oTuple) (aCons (eVar 4) aNil)) aNil)))) (gN 8) (sDrop (eBL oAppend (eVar 7) (aCons (eOp oAdd (eVar 8) (eTup (aCons (eC (.int 0)) (aCons (eC (.bl false)) (aCons (eCall F_l_some_data (aCons (eVar 0) (aCons (eVar 6) aNil))) aNil))))) aNil)))) (sSeq (sSet 9 (eLst aNil)) (sSeq (sFor (wSeq (eVar 7)) (gN 10) (sSet 9 (eOp oAdd (eVar 9) (eCall F_l_cut (aCons (eCall F_l_packet_of (aCons (eVar 10) aNil)) (aCons (eVar 0) aNil)))))) (sSeq (sSet 11 (eLst (aCons (eLst (aCons (eC (.int 255)) (aCons (eDNew false) aNil))) (aCons (eLst (aCons (eC (.int 255)) (aCons (eDNew false) aNil))) aNil)))) (sSeq (sFor (wSeq (eCall F_l_order (aCons (eOp oAdd (eVar 9) (eSl oSl (eVar 7) oNo (oSo (eCall F_l_next (aCons (eVar 0) (aCons (eC (.int 3)) aNil)))))) (aCons (eVar 0) aNil)))) (gN 8) lpB) (sRet (eC (.bl true))))))))))
theorem lr_eq : F_l_right = mkFn 3 15 (sSeq (sSet 3 (eCB (c1 oTuple) (aCons (eCall F_l_head (aCons (eVar 0) aNil)) aNil))) (sSeq (sSet 4 (eCB (c1 oList) (aCons (eVar 3) aNil))) (sSeq (sSet 5 (eOp oIx (eLst (aCons (eC (.int 0)) (aCons (eC (.int 1)) (aCons (eC (.int 2)) (aCons (eC (.int 4)) aNil))))) (eCall F_l_next (aCons (eVar 0) (aCons (eC (.int 4)) aNil))))) (sSeq (sPut (eVar 4) (eVar 5) (eOp oMod (eOp oAdd (eOp oAdd (eOp oIx (eVar 4) (eVar 5)) (eC (.int 1))) (eCall F_l_next (aCons (eVar 0) (aCons (eC (.int 255)) aNil)))) (eC (.int 256)))) lrR)))) := rfl
theorem lpI_ok {A : Hs} {C Wl c d c2 st jn : Nat} {k tick l : Int} {w v y : Pq} {kv : List (Int × Int)} {CL WL : List D} {o3 o4 o5 o6 o9 o10 o14 : Option D} (hw : Wh w) (py : Pc w y) (hn : ¬ (y.f = 0 ∧ y.m = false))
    (gC : A[C]? = some (.lst CL)) (gW : A[Wl]? = some (.lst WL)) (hk : (k = 0 ∧ CL = [.ref c, .ref c2] ∧ WL = [w.row, v.row]) ∨ (k = 1 ∧ CL = [.ref c2, .ref c] ∧ WL = [v.row, w.row]))
    (cm : Cm A c d l (kv.map Prod.fst)) (hkl : kv.length ≤ 1000) (nCd : C ≠ d) (nCc : C ≠ c) (nWC : Wl ≠ C) (nWd : Wl ≠ d) (R : RS → Prop)
    (hR : ∀ (B : Hs) (c' d' : Nat) (l' : Int) (ks' : List Int) (due : D) (o14 : Option D), B[C]? = some (.lst (if k = 0 then [.ref c', .ref c2] else [.ref c2, .ref c'])) → Cm B c' d' l' ks' → (A.length ≤ c') → (d' = d ∨ A.length ≤ d') → Fr [C, d] A B →
      ((sds kv y.f y.d).length = w.d.length → due = ({ w with l := min l y.l } : Pq).row ∧ l' = 255 ∧ ks' = []) →
      ((sds kv y.f y.d).length ≠ w.d.length → due = .non ∧ l' = min l y.l ∧ ks' = (sds kv y.f y.d).map Prod.fst) →
      R (.nx [some (.ref st), some (.int tick), some (.ref jn), o3, o4, o5, o6, some (.ref Wl), some (.tup [.int y.s, .int y.t, .int y.k, .int y.l, .int y.n, .int y.f, .bl y.m, .tup (y.d.map D.int)]), o9, o10, some (.ref C), some (.int k), some due, o14] B)) :
    R (lpI [some (.ref st), some (.int tick), some (.ref jn), o3, o4, o5, o6, some (.ref Wl), some (.tup [.int y.s, .int y.t, .int y.k, .int y.l, .int y.n, .int y.f, .bl y.m, .tup (y.d.map D.int)]), o9, o10, some (.ref C), some (.int k), some (.tup [.int y.s, .int y.t, .int y.k, .int y.l, .int y.n, .int y.f, .bl y.m, .tup (y.d.map D.int)]), o14] A) := by
  have e1 := py.e
  have e2 := py.f
  have wl := hw.ok.dl
  have wf := hw.f
  have lC := lt_of_get gC
  have lW := lt_of_get gW
  have lc := lt_of_get cm.c
  have ld := lt_of_get cm.d
  -- the pairs
  have pr : ∀ (B : Hs) (env : Sl) (o13 : Option D), env = [some (.ref st), some (.int tick), some (.ref jn), o3, o4, o5, o6, some (.ref Wl), some (.tup [.int y.s, .int y.t, .int y.k, .int y.l, .int y.n, .int y.f, .bl y.m, .tup (y.d.map D.int)]), o9, o10, some (.ref C), some (.int k), o13, none] → lcL (SM.gN 14) tYe (eTup (aCons (eOp oAdd (eOp oIx (eVar 8) (eC (.int 5))) (eVar 14)) (aCons (eC (.bl true)) aNil))) tt env (rgL 0 1 y.d.length) [] B = .ok ((prs y.f y.d.length).map fun p => .tup [p.1, p.2]) B := by
    intro B env o13 he
    subst he
    rw [lc_go (fun _ => true) (fun x => match x with | .int i => .tup [.int (y.f + i), .bl true] | _ => .non) trivial (by rw [rgL_len]; omega)]
    · rw [List.filter_eq_self.mpr (by simp)]
      congr 1
      unfold rgL prs
      rw [List.map_map, List.map_map]
      refine List.map_congr_left fun i _ => ?_
      simp only [Function.comp]
      rw [show (0 : Int) + (i : Int) * 1 = (i : Int) by omega]
    · intro x hx
      obtain ⟨i, hi, rfl⟩ := mem_rgL hx
      show Got _ _
      simp_arith []
      first | exact fun _ => rfl | trivial
  have mg := merge_kb (d := y.d) (kv := kv) (f := y.f)
  have ylen : y.d.length ≤ 1000 := by omega
  rcases hk with ⟨rfl, rfl, rfl⟩ | ⟨rfl, rfl, rfl⟩
  · have cc := cm.c
    have cd := cm.d
    have gC1 := get_push (u := .lst [.int (min l y.l), .ref d]) gC
    have gW1 := get_push (u := .lst [.int (min l y.l), .ref d]) gW
    obtain ⟨A2, hA2⟩ : ∃ A2, A2 = (A ++ [O.lst [.int (min l y.l), .ref d]]).set C (.lst [.ref A.length, .ref c2]) := ⟨_, rfl⟩
    have l2 : A2.length = A.length + 1 := by rw [hA2]; simp
    have C2 : A2[C]? = some (.lst [.ref A.length, .ref c2]) := by rw [hA2]; exact zaz (by rw [List.length_append]; omega)
    have W2 : A2[Wl]? = some (.lst [w.row, v.row]) := by rw [hA2, z4b (Ne.symm nWC)]; exact gW1
    have c2' : A2[A.length]? = some (.lst [.int (min l y.l), .ref d]) := by rw [hA2, z4b (by omega)]; exact zar
    have d2' : A2[d]? = some (.dic false false (kb (kv.map Prod.fst))) := by rw [hA2, z4b nCd]; exact get_push cd
    obtain ⟨A3, hA3⟩ : ∃ A3, A3 = A2 ++ [O.lst ((prs y.f y.d.length).map fun p => .tup [p.1, p.2])] := ⟨_, rfl⟩
    have p3 : A3[A2.length]? = some (.lst ((prs y.f y.d.length).map fun p => .tup [p.1, p.2])) := by rw [hA3]; exact zar
    rw [l2] at p3
    have d3 : A3[d]? = some (.dic false false (kb (kv.map Prod.fst))) := by rw [hA3]; exact get_push d2'
    have up := za6 (A := A3) (i := d) (l := kb (kv.map Prod.fst)) (r := (prs y.f y.d.length).map fun p => .tup [p.1, p.2]) pairs_prs (by rw [len_kb, len_prs, List.length_map]; omega)
    rw [mg] at up
    obtain ⟨A4, hA4⟩ : ∃ A4, A4 = A3.set d (.dic false false (kb ((sds kv y.f y.d).map Prod.fst))) := ⟨_, rfl⟩
    rw [← hA4] at up
    have C4 : A4[C]? = some (.lst [.ref A.length, .ref c2]) := by rw [hA4, z4b (Ne.symm nCd), hA3]; exact get_push C2
    have W4 : A4[Wl]? = some (.lst [w.row, v.row]) := by rw [hA4, z4b (Ne.symm nWd), hA3]; exact get_push W2
    have c4 : A4[A.length]? = some (.lst [.int (min l y.l), .ref d]) := by rw [hA4, z4b (by omega), hA3]; exact get_push c2'
    have d4 : A4[d]? = some (.dic false false (kb ((sds kv y.f y.d).map Prod.fst))) := by rw [hA4]; exact zaz (lt_of_get d3)
    have f4 : Fr [C, d] A A4 := by
      rw [hA4, hA3, hA2]
      exact (((Fr.refl.then_push).then_set (.inl (by simp))).then_push).then_set (.inl (by simp))
    have wr : w.row = .tup [.int w.s, .int w.t, .int w.k, .int w.l, .int w.n, .int w.f, .bl w.m, .tup (w.d.map D.int)] := rfl
    by_cases full : (sds kv y.f y.d).length = w.d.length
    · have dr : ({ w with l := min l y.l } : Pq).row = .tup [.int w.s, .int w.t, .int w.k, .int (min l y.l), .int w.n, .int w.f, .bl w.m, .tup (w.d.map D.int)] := rfl
      have l4 : A4.length = A.length + 2 := by rw [hA4, hA3]; simp [l2]
      obtain ⟨A6, hA6⟩ : ∃ A6, A6 = (A4 ++ [O.dic false false []] ++ [O.lst [.int 255, .ref (A.length + 2)]]).set C (.lst [.ref (A.length + 3), .ref c2]) := ⟨_, rfl⟩
      have C6 : A6[C]? = some (.lst [.ref (A.length + 3), .ref c2]) := by rw [hA6]; exact zaz (by rw [List.length_append, List.length_append]; omega)
      have c6 : A6[A.length + 3]? = some (.lst [.int 255, .ref (A.length + 2)]) := by rw [hA6, z4b (by omega)]; exact getp (by simp [l4])
      have d6 : A6[A.length + 2]? = some (.dic false false (kb [])) := by rw [hA6, z4b (by omega)]; exact get_push (getp (by simp [l4]))
      have C5 := get_push (u := O.lst [.int 255, .ref (A.length + 2)]) (get_push (u := O.dic false false []) C4)
      have f6 : Fr [C, d] A A6 := by rw [hA6]; exact ((f4.then_push).then_push).then_set (.inl (by simp))
      have hh := hR A6 (A.length + 3) (A.length + 2) 255 [] ({ w with l := min l y.l } : Pq).row o14 (by rw [C6]; rfl) ⟨c6, d6⟩ (by omega) (.inr (by omega)) f6 (fun _ => ⟨rfl, rfl, rfl⟩) (fun q => absurd full q)
      have full' : (((sds kv y.f y.d).length : Nat) : Int) = (w.d.length : Int) := by omega
      rw [wr] at W4
      rw [dr] at hh
      unfold lpI
      by_cases q : 0 < y.f
      · simp_arith [q, gC, gC1, cc, get_push cc, ← hA2, C2, c2', d2', l2, pr _ _ _ rfl, ← hA3, p3, d3, up, C4, c4, d4, W4, take_3, l4, C5,  len_kb, List.length_map, full', List.set_cons_zero, List.set_cons_succ, Int.toNat_natCast]
        rw [← hA6]
        exact hh
      · have qm : y.m = true := by
          cases hm : y.m with
          | true => rfl
          | false => exact absurd ⟨by omega, hm⟩ hn
        have qf : y.f = 0 := by omega
        simp_arith [q, (eq_true qm), gC, gC1, cc, get_push cc, ← hA2, C2, c2', d2', l2, pr _ _ _ rfl, ← hA3, p3, d3, up, C4, c4, d4, W4, take_3, l4, C5,  len_kb, List.length_map, full', List.set_cons_zero, List.set_cons_succ, Int.toNat_natCast]
        rw [← hA6]
        exact hh
    · have hh := hR A4 A.length d (min l y.l) ((sds kv y.f y.d).map Prod.fst) .non o14 (by rw [C4]; rfl) ⟨c4, d4⟩ (Nat.le_refl _) (.inl rfl) f4 (fun q => absurd q full) (fun _ => ⟨rfl, rfl, rfl⟩)
      have full' : ¬ (((sds kv y.f y.d).length : Nat) : Int) = (w.d.length : Int) := by omega
      rw [wr] at W4
      unfold lpI
      by_cases q : 0 < y.f
      · simp_arith [q, gC, gC1, cc, get_push cc, ← hA2, C2, c2', d2', l2, pr _ _ _ rfl, ← hA3, p3, d3, up, C4, c4, d4, W4, len_kb, List.length_map, full', List.set_cons_zero, List.set_cons_succ, Int.toNat_natCast]
        exact hh
      · have qm : y.m = true := by
          cases hm : y.m with
          | true => rfl
          | false => exact absurd ⟨by omega, hm⟩ hn
        have qf : y.f = 0 := by omega
        simp_arith [q, (eq_true qm), gC, gC1, cc, get_push cc, ← hA2, C2, c2', d2', l2, pr _ _ _ rfl, ← hA3, p3, d3, up, C4, c4, d4, W4, len_kb, List.length_map, full', List.set_cons_zero, List.set_cons_succ, Int.toNat_natCast]
        exact hh
  · have cc := cm.c
    have cd := cm.d
    have gC1 := get_push (u := .lst [.int (min l y.l), .ref d]) gC
    have gW1 := get_push (u := .lst [.int (min l y.l), .ref d]) gW
    obtain ⟨A2, hA2⟩ : ∃ A2, A2 = (A ++ [O.lst [.int (min l y.l), .ref d]]).set C (.lst [.ref c2, .ref A.length]) := ⟨_, rfl⟩
    have l2 : A2.length = A.length + 1 := by rw [hA2]; simp
    have C2 : A2[C]? = some (.lst [.ref c2, .ref A.length]) := by rw [hA2]; exact zaz (by rw [List.length_append]; omega)
    have W2 : A2[Wl]? = some (.lst [v.row, w.row]) := by rw [hA2, z4b (Ne.symm nWC)]; exact gW1
    have c2' : A2[A.length]? = some (.lst [.int (min l y.l), .ref d]) := by rw [hA2, z4b (by omega)]; exact zar
    have d2' : A2[d]? = some (.dic false false (kb (kv.map Prod.fst))) := by rw [hA2, z4b nCd]; exact get_push cd
    obtain ⟨A3, hA3⟩ : ∃ A3, A3 = A2 ++ [O.lst ((prs y.f y.d.length).map fun p => .tup [p.1, p.2])] := ⟨_, rfl⟩
    have p3 : A3[A2.length]? = some (.lst ((prs y.f y.d.length).map fun p => .tup [p.1, p.2])) := by rw [hA3]; exact zar
    rw [l2] at p3
    have d3 : A3[d]? = some (.dic false false (kb (kv.map Prod.fst))) := by rw [hA3]; exact get_push d2'
    have up := za6 (A := A3) (i := d) (l := kb (kv.map Prod.fst)) (r := (prs y.f y.d.length).map fun p => .tup [p.1, p.2]) pairs_prs (by rw [len_kb, len_prs, List.length_map]; omega)
    rw [mg] at up
    obtain ⟨A4, hA4⟩ : ∃ A4, A4 = A3.set d (.dic false false (kb ((sds kv y.f y.d).map Prod.fst))) := ⟨_, rfl⟩
    rw [← hA4] at up
    have C4 : A4[C]? = some (.lst [.ref c2, .ref A.length]) := by rw [hA4, z4b (Ne.symm nCd), hA3]; exact get_push C2
    have W4 : A4[Wl]? = some (.lst [v.row, w.row]) := by rw [hA4, z4b (Ne.symm nWd), hA3]; exact get_push W2
    have c4 : A4[A.length]? = some (.lst [.int (min l y.l), .ref d]) := by rw [hA4, z4b (by omega), hA3]; exact get_push c2'
    have d4 : A4[d]? = some (.dic false false (kb ((sds kv y.f y.d).map Prod.fst))) := by rw [hA4]; exact zaz (lt_of_get d3)
    have f4 : Fr [C, d] A A4 := by
      rw [hA4, hA3, hA2]
      exact (((Fr.refl.then_push).then_set (.inl (by simp))).then_push).then_set (.inl (by simp))
    have wr : w.row = .tup [.int w.s, .int w.t, .int w.k, .int w.l, .int w.n, .int w.f, .bl w.m, .tup (w.d.map D.int)] := rfl
    by_cases full : (sds kv y.f y.d).length = w.d.length
    · have dr : ({ w with l := min l y.l } : Pq).row = .tup [.int w.s, .int w.t, .int w.k, .int (min l y.l), .int w.n, .int w.f, .bl w.m, .tup (w.d.map D.int)] := rfl
      have l4 : A4.length = A.length + 2 := by rw [hA4, hA3]; simp [l2]
      obtain ⟨A6, hA6⟩ : ∃ A6, A6 = (A4 ++ [O.dic false false []] ++ [O.lst [.int 255, .ref (A.length + 2)]]).set C (.lst [.ref c2, .ref (A.length + 3)]) := ⟨_, rfl⟩
      have C6 : A6[C]? = some (.lst [.ref c2, .ref (A.length + 3)]) := by rw [hA6]; exact zaz (by rw [List.length_append, List.length_append]; omega)
      have c6 : A6[A.length + 3]? = some (.lst [.int 255, .ref (A.length + 2)]) := by rw [hA6, z4b (by omega)]; exact getp (by simp [l4])
      have d6 : A6[A.length + 2]? = some (.dic false false (kb [])) := by rw [hA6, z4b (by omega)]; exact get_push (getp (by simp [l4]))
      have C5 := get_push (u := O.lst [.int 255, .ref (A.length + 2)]) (get_push (u := O.dic false false []) C4)
      have f6 : Fr [C, d] A A6 := by rw [hA6]; exact ((f4.then_push).then_push).then_set (.inl (by simp))
      have hh := hR A6 (A.length + 3) (A.length + 2) 255 [] ({ w with l := min l y.l } : Pq).row o14 (by rw [C6]; rfl) ⟨c6, d6⟩ (by omega) (.inr (by omega)) f6 (fun _ => ⟨rfl, rfl, rfl⟩) (fun q => absurd full q)
      have full' : (((sds kv y.f y.d).length : Nat) : Int) = (w.d.length : Int) := by omega
      rw [wr] at W4
      rw [dr] at hh
      unfold lpI
      by_cases q : 0 < y.f
      · simp_arith [q, gC, gC1, cc, get_push cc, ← hA2, C2, c2', d2', l2, pr _ _ _ rfl, ← hA3, p3, d3, up, C4, c4, d4, W4, take_3, l4, C5,  len_kb, List.length_map, full', List.set_cons_zero, List.set_cons_succ, Int.toNat_natCast]
        rw [← hA6]
        exact hh
      · have qm : y.m = true := by
          cases hm : y.m with
          | true => rfl
          | false => exact absurd ⟨by omega, hm⟩ hn
        have qf : y.f = 0 := by omega
        simp_arith [q, (eq_true qm), gC, gC1, cc, get_push cc, ← hA2, C2, c2', d2', l2, pr _ _ _ rfl, ← hA3, p3, d3, up, C4, c4, d4, W4, take_3, l4, C5,  len_kb, List.length_map, full', List.set_cons_zero, List.set_cons_succ, Int.toNat_natCast]
        rw [← hA6]
        exact hh
    · have hh := hR A4 A.length d (min l y.l) ((sds kv y.f y.d).map Prod.fst) .non o14 (by rw [C4]; rfl) ⟨c4, d4⟩ (Nat.le_refl _) (.inl rfl) f4 (fun q => absurd q full) (fun _ => ⟨rfl, rfl, rfl⟩)
      have full' : ¬ (((sds kv y.f y.d).length : Nat) : Int) = (w.d.length : Int) := by omega
      rw [wr] at W4
      unfold lpI
      by_cases q : 0 < y.f
      · simp_arith [q, gC, gC1, cc, get_push cc, ← hA2, C2, c2', d2', l2, pr _ _ _ rfl, ← hA3, p3, d3, up, C4, c4, d4, W4, len_kb, List.length_map, full', List.set_cons_zero, List.set_cons_succ, Int.toNat_natCast]
        exact hh
      · have qm : y.m = true := by
          cases hm : y.m with
          | true => rfl
          | false => exact absurd ⟨by omega, hm⟩ hn
        have qf : y.f = 0 := by omega
        simp_arith [q, (eq_true qm), gC, gC1, cc, get_push cc, ← hA2, C2, c2', d2', l2, pr _ _ _ rfl, ← hA3, p3, d3, up, C4, c4, d4, W4, len_kb, List.length_map, full', List.set_cons_zero, List.set_cons_succ, Int.toNat_natCast]
        exact hh

/-! rows compared -/
theorem py_ints {A : Hs} {n : Nat} : ∀ a : List Int, allSome ((a.map D.int).map (pyA A n)) = some (a.map PyData.int)
  | [] => rfl
  | b :: a => by
    rw [List.map_cons, List.map_cons]
    have e : pyA A n (.int b) = some (.int b) := by cases n <;> rfl
    rw [e]
    unfold allSome
    rw [py_ints a]; rfl
theorem eqv_ints : ∀ a b : List Int, PyData.eqvAll (a.map PyData.int) (b.map PyData.int) = decide (a = b)
  | [], [] => by simp [PyData.eqvAll]
  | [], b :: bs => by simp [PyData.eqvAll]
  | a :: as, [] => by simp [PyData.eqvAll]
  | a :: as, b :: bs => by
    rw [List.map_cons, List.map_cons, PyData.eqvAll, eqv_ints as bs, PyData.eqv]
    by_cases c : a = b <;> by_cases d : as = bs <;> simp [c, d]
theorem eqA_rows {a b : List Int} {A : Hs} : eqA A (rw_ a) (rw_ b) = some (decide (a = b)) := by
  unfold eqA rw_
  have e : ∀ a : List Int, pyA A 40 (.tup (a.map D.int)) = some (.tuple (a.map PyData.int)) := fun a => by
    show (allSome ((a.map D.int).map (pyA A 39))).map PyData.tuple = _
    rw [py_ints]; rfl
  rw [e, e]
  simp only [PyData.eqv, eqv_ints]
theorem oNe_rows {a b : List Int} {A : Hs} : oNe (rw_ a) (rw_ b) A = .ok (.bl (!decide (a = b))) A := neA_of eqA_rows

/-! a row taken and judged -/
open DL (Bytes)
def lf : Option Jh → Int
  | none => 255
  | some x => x.life
def kf : Option Jh → List Int
  | none => []
  | some x => x.kv.map Prod.fst
structure Kq (A : Hs) (jn dj : Nat) (tick : Int) (w v : Pq) (c d c2 d2 : Nat) (X : List Nat) : Prop where
  ex : ∃ (last : Int) (hs : List (Four × Jh)) (es : List Je) (S : List Nat) (a b : Option Jh), IsJ A jn dj ⟨100, 4000, last, hs⟩ es S ∧ last ≤ tick ∧ Sh w.four v.four hs a b ∧ StA w tick a ∧ StA v tick b ∧ Cm A c d (lf a) (kf a) ∧ Cm A c2 d2 (lf b) (kf b) ∧ (∀ x ∈ X, x ∉ S) ∧ (c ∉ S ∧ d ∉ S ∧ c2 ∉ S ∧ d2 ∉ S)
  dd : d ≠ d2
  dX : ∀ x ∈ X, x ≠ d ∧ x ≠ d2 ∧ x < A.length
theorem Kq.swap {A : Hs} {jn dj : Nat} {tick : Int} {w v : Pq} {c d c2 d2 : Nat} {X : List Nat} (h : Kq A jn dj tick w v c d c2 d2 X) : Kq A jn dj tick v w c2 d2 c d X := by
  obtain ⟨⟨last, hs, es, S, a, b, h1, h2, h3, h4, h5, h6, h7, h8, h9, h10, h11, h12⟩, hd, hx⟩ := h
  exact ⟨⟨last, hs, es, S, b, a, h1, h2, h3.swap, h5, h4, h7, h6, h8, h11, h12, h9, h10⟩, Ne.symm hd, fun x q => ⟨(hx x q).2.1, (hx x q).1, (hx x q).2.2⟩⟩
theorem Sh.len {f g : Four} {hs : List (Four × Jh)} {a b : Option Jh} (h : Sh f g hs a b) : hs.length ≤ 2 := by
  rcases h with rfl | rfl <;> cases a <;> cases b <;> simp [Os]
theorem take_row {A : Hs} {jn dj : Nat} {tick last : Int} {w v y : Pq} {hs : List (Four × Jh)} {es : List Je} {S : List Nat} {a b : Option Jh} (hw : Wh w) (hv : Wh v) (n : w.four ≠ v.four) (py : Pc w y)
    (k : IsJ A jn dj ⟨100, 4000, last, hs⟩ es S) (hl : last ≤ tick) (h : Sh w.four v.four hs a b) (sa : StA w tick a) (sb : StA v tick b) :
    ∃ (B C : Hs) (t : D) (due : D) (E : Hs) (hs' : List (Four × Jh)) (es' : List Je) (S' : List Nat) (a' : Option Jh), F_l_packet_of [y.row] A = .ok (.ref A.length) B ∧ B[jn]? = some (.obj "Joiner" (jfs 100 4000 last dj)) ∧ F_Joiner_take [.ref jn, .ref A.length, .int tick] B = .ok t C ∧ F_l_same [t, due] C = .ok (.bl true) E ∧
      IsJ E jn dj ⟨100, 4000, tick, hs'⟩ es' S' ∧ Sh w.four v.four hs' a' b ∧ StA w tick a' ∧ (∀ i ∈ S', i ∈ S ∨ A.length < i) ∧ Fr S A E ∧
      ((y.f = 0 ∧ y.m = false) → due = y.row ∧ a' = a) ∧
      (¬ (y.f = 0 ∧ y.m = false) → (sds (a.getD ⟨tick, y.l, none, []⟩).kv y.f y.d).length = w.d.length → due = ({ w with l := min (lf a) y.l } : Pq).row ∧ a' = none) ∧
      (¬ (y.f = 0 ∧ y.m = false) → (sds (a.getD ⟨tick, y.l, none, []⟩).kv y.f y.d).length ≠ w.d.length → due = .non ∧ ∃ x, a' = some x ∧ x.life = min (lf a) y.l ∧ x.kv = sds (a.getD ⟨tick, y.l, none, []⟩).kv y.f y.d) := by
  have yok := py.ok hw
  obtain ⟨_, B, e1, rfl, g1, f1⟩ := (of_ok (A := A) yok).ex
  have kB := k.frame f1 (by simp)
  have hqS : A.length ∉ S := fun hi => by have := k.lt _ hi; omega
  have el : es.length ≤ 2 := by rw [k.len]; exact h.len
  have n1 := lt_of_get g1
  have ydl : y.d.length ≤ 1000 := by have := yok.dl; have := yok.f; omega
  have wdl : w.d.length ≤ 1000 := by have := hw.ok.dl; have := hw.f; omega
  by_cases hn : y.f = 0 ∧ y.m = false
  · obtain ⟨_, C, e2, rfl, es3, k3, l3, f3⟩ := (take_whole (tick := tick) kB g1 hqS hl (by omega) hn).ex
    obtain ⟨E, e5, f5⟩ := same_ok (f3.get g1 hqS) (by omega)
    have ho := h.old (pat := 100) (tick := tick) (by decide) (fun x hx => (sa x hx).1) (fun x hx => (sb x hx).1)
    have kE := k3.frame f5 (by simp)
    have kE : IsJ E jn dj ⟨100, 4000, tick, old 100 tick hs⟩ es3 S := kE
    rw [ho] at kE
    exact ⟨B, C, _, y.row, E, hs, es3, S, a, e1, kB.o, e2, e5, kE, h, sa, fun i hi => .inl hi, ((f1.mono (by simp)).trans f3).trans (f5.mono (by simp)), fun _ => ⟨rfl, rfl⟩, fun q => absurd hn q, fun q => absurd hn q⟩
  · obtain ⟨t, C, e2, T, es3, S3, k3, l3, f3, hS3⟩ := (take_okR (tick := tick) kB yok g1 hqS hl (by omega) hn (by show (0 : Int) ≤ 4000; decide)).ex
    obtain ⟨ho, a', sh', sa', full, part⟩ := step_ok (J := ⟨100, 4000, last, hs⟩) hw hv n py hn (by show (0 : Int) < 100; decide) (by show (2000 : Int) ≤ 4000; decide) h sa sb
    have lfa : min (a.getD ⟨tick, y.l, none, []⟩).life y.l = min (lf a) y.l := by
      cases a with
      | some x => rfl
      | none =>
        show min y.l y.l = min 255 y.l
        have := py.l
        omega
    rw [lfa] at full part
    have sub : ∀ i ∈ S3, i ∈ S ∨ A.length < i := fun i hi => (hS3 i hi).imp id fun q => by omega
    by_cases c : (sds (a.getD ⟨tick, y.l, none, []⟩).kv y.f y.d).length = w.d.length
    · obtain ⟨t1, t2⟩ := full c
      rw [t1] at T
      obtain ⟨r, rfl, g2, hr⟩ := T
      obtain ⟨E, e5, f5⟩ := same_ok g2 (by show w.d.length ≤ 100000; omega)
      exact ⟨B, C, _, _, E, _, es3, S3, a', e1, kB.o, e2, e5, k3.frame f5 (by simp), sh', sa', sub, ((f1.mono (by simp)).trans f3).trans (f5.mono (by simp)), fun q => absurd q hn, fun _ _ => ⟨rfl, t2⟩, fun _ q => absurd c q⟩
    · obtain ⟨t1, t2⟩ := part c
      rw [t1] at T
      have T : t = .non := T
      subst T
      exact ⟨B, C, _, .non, C, _, es3, S3, a', e1, kB.o, e2, same_non, k3, sh', sa', sub, (f1.mono (by simp)).trans f3, fun q => absurd q hn, fun _ q => absurd q c, fun _ _ => ⟨rfl, t2⟩⟩

/-! the loop's body -/
open DL (Bytes)
theorem td_4 {a b c d e : D} {r : List D} : List.take 1 (List.drop 4 (a :: b :: c :: d :: e :: r)) = [e] := rfl
theorem body_ok {A : Hs} {jn dj C Wl c d c2 d2 st : Nat} {k tick : Int} {w v y : Pq} {CL WL : List D} {X : List Nat} {o3 o4 o5 o6 o9 o10 o12 o13 o14 : Option D} (hw : Wh w) (hv : Wh v) (n : w.four ≠ v.four) (py : Pc w y)
    (K : Kq A jn dj tick w v c d c2 d2 X) (hC : C ∈ X) (hWX : Wl ∈ X) (hCW : Wl ≠ C)
    (gC : A[C]? = some (.lst CL)) (gW : A[Wl]? = some (.lst WL)) (hk : (k = 0 ∧ CL = [.ref c, .ref c2] ∧ WL = [w.row, v.row]) ∨ (k = 1 ∧ CL = [.ref c2, .ref c] ∧ WL = [v.row, w.row])) (R : RS → Prop)
    (hR : ∀ (B : Hs) (c' d' : Nat) (o12 o13 o14 : Option D), Kq B jn dj tick w v c' d' c2 d2 X → B[C]? = some (.lst (if k = 0 then [.ref c', .ref c2] else [.ref c2, .ref c'])) → (∀ x ∈ X, x ≠ C → ∀ o, A[x]? = some o → B[x]? = some o) →
      R (.nx [some (.ref st), some (.int tick), some (.ref jn), o3, o4, o5, o6, some (.ref Wl), some (.tup [.int y.s, .int y.t, .int y.k, .int y.l, .int y.n, .int y.f, .bl y.m, .tup (y.d.map D.int)]), o9, o10, some (.ref C), o12, o13, o14] B)) :
    R (lpB [some (.ref st), some (.int tick), some (.ref jn), o3, o4, o5, o6, some (.ref Wl), some (.tup [.int y.s, .int y.t, .int y.k, .int y.l, .int y.n, .int y.f, .bl y.m, .tup (y.d.map D.int)]), o9, o10, some (.ref C), o12, o13, o14] A) := by
  obtain ⟨⟨last, hs, es, S, a, b, kJ, hl, sh, sa, sb, ca, cb, hX, hc, hd, hc2, hd2⟩, hdd, hdX⟩ := K
  have lC := lt_of_get gC
  have lW := lt_of_get gW
  -- which of the two
  have wr : ∀ p : Pq, p.row = .tup [.int p.s, .int p.t, .int p.k, .int p.l, .int p.n, .int p.f, .bl p.m, .tup (p.d.map D.int)] := fun _ => rfl
  have lk : ∀ (D' : Hs) (p : Pq), oNe (.tup [.int y.s, .int y.t, .int y.k, .int y.n]) (.tup [.int p.s, .int p.t, .int p.k, .int p.n]) D' = .ok (.bl (!decide ([y.s, y.t, y.k, y.n] = [p.s, p.t, p.k, p.n]))) D' := fun D' p => oNe_rows (a := [y.s, y.t, y.k, y.n]) (b := [p.s, p.t, p.k, p.n])
  have yw : [y.s, y.t, y.k, y.n] = [w.s, w.t, w.k, w.n] := by rw [py.s, py.t, py.k, py.n]
  have yv : ¬ [y.s, y.t, y.k, y.n] = [v.s, v.t, v.k, v.n] := by
    rw [yw]
    intro e
    refine n ?_
    simp only [List.cons.injEq, and_true] at e
    unfold Pq.four
    rw [e.1, e.2.1, e.2.2.1, e.2.2.2]
  have rest : ∀ (B : Hs) (c' d' : Nat) (l' : Int) (ks' : List Int) (due : D) (o14 : Option D), B[C]? = some (.lst (if k = 0 then [.ref c', .ref c2] else [.ref c2, .ref c'])) → Cm B c' d' l' ks' → (c' = c ∨ A.length ≤ c') → (d' = d ∨ A.length ≤ d') → Fr [C, d] A B →
      ((y.f = 0 ∧ y.m = false) → due = y.row ∧ l' = lf a ∧ ks' = kf a) →
      (¬ (y.f = 0 ∧ y.m = false) → (sds (a.getD ⟨tick, y.l, none, []⟩).kv y.f y.d).length = w.d.length → due = ({ w with l := min (lf a) y.l } : Pq).row ∧ l' = 255 ∧ ks' = []) →
      (¬ (y.f = 0 ∧ y.m = false) → (sds (a.getD ⟨tick, y.l, none, []⟩).kv y.f y.d).length ≠ w.d.length → due = .non ∧ l' = min (lf a) y.l ∧ ks' = (sds (a.getD ⟨tick, y.l, none, []⟩).kv y.f y.d).map Prod.fst) →
      R (lpT [some (.ref st), some (.int tick), some (.ref jn), o3, o4, o5, o6, some (.ref Wl), some (.tup [.int y.s, .int y.t, .int y.k, .int y.l, .int y.n, .int y.f, .bl y.m, .tup (y.d.map D.int)]), o9, o10, some (.ref C), some (.int k), some due, o14] B) := by
    intro B c' d' l' ks' due o14 gC' cm' hc' hd' fB q1 q2 q3
    have hSd : ∀ i ∈ S, i ∉ [C, d] := fun i hi hm => by
      simp only [List.mem_cons, List.not_mem_nil, or_false] at hm
      rcases hm with rfl | rfl
      · exact hX _ hC hi
      · exact hd hi
    have kB := kJ.frame fB hSd
    obtain ⟨B2, C2, t, due', E, hs', es', S', a', e1, oB, e2, e3, kE, sh', sa', sub, fE, r1, r2, r3⟩ := take_row hw hv n py kB hl sh sa sb
    have nB := fB.le
    have lc' := lt_of_get cm'.c
    have ld' := lt_of_get cm'.d
    have c2C : c2 ≠ C := by
      rintro rfl
      have := cb.c
      rw [gC] at this
      rcases hk with ⟨_, rfl, _⟩ | ⟨_, rfl, _⟩ <;> cases this
    have c2d : c2 ≠ d := by
      rintro rfl
      have := cb.c
      rw [ca.d] at this
      cases this
    have cbB := cb.frame fB (by simp [c2C, c2d]) (by
      simp only [List.mem_cons, List.not_mem_nil, or_false]
      rintro (q | q)
      · exact (hdX C hC).2.1 q.symm
      · exact hdd q.symm)
    have S'n : ∀ x, x ∉ S → x < B.length → x ∉ S' := fun x hx hlt hm => (sub x hm).elim hx fun q => by omega
    have nS : ∀ x, A.length ≤ x → x ∉ S := fun x hx hm => by have := kJ.lt x hm; omega
    have hc's : c' ∉ S := hc'.elim (fun e => by rw [e]; exact hc) (nS c')
    have hd's : d' ∉ S := hd'.elim (fun e => by rw [e]; exact hd) (nS d')
    have ld2 := lt_of_get cb.d
    have lc2 := lt_of_get cb.c
    have xlt : ∀ x ∈ X, x ≠ C → ∀ o, A[x]? = some o → E[x]? = some o := fun x hx hxC o ho => fE.get (fB.get ho (by simp [hxC, (hdX x hx).1])) (hX x hx)
    have due_eq : due = due' ∧ l' = lf a' ∧ ks' = kf a' := by
      by_cases hn : y.f = 0 ∧ y.m = false
      · obtain ⟨h1, h2⟩ := r1 hn
        obtain ⟨g1, g2, g3⟩ := q1 hn
        rw [h1, h2]
        exact ⟨g1, g2, g3⟩
      · by_cases cc : (sds (a.getD ⟨tick, y.l, none, []⟩).kv y.f y.d).length = w.d.length
        · obtain ⟨h1, h2⟩ := r2 hn cc
          obtain ⟨g1, g2, g3⟩ := q2 hn cc
          rw [h1, h2]
          exact ⟨g1, g2, g3⟩
        · obtain ⟨h1, x, h2, h3, h4⟩ := r3 hn cc
          obtain ⟨g1, g2, g3⟩ := q3 hn cc
          rw [h1, h2]
          exact ⟨g1, by rw [g2]; exact h3.symm, by rw [g3, ← h4]; rfl⟩
    obtain ⟨rfl, rfl, rfl⟩ := due_eq
    have hXd : ∀ x ∈ X, x ≠ d' := fun x hx => hd'.elim (fun e => by rw [e]; exact (hdX x hx).1) fun q => by have := (hdX x hx).2.2; omega
    have nE := fE.le
    have oB0 := kB.o
    have done := hR E c' d' (some (.int k)) (some due) o14 ⟨⟨tick, hs', es', S', a', b, kE, Int.le_refl _, sh', sa', sb, cm'.frame fE hc's hd's, cbB.frame fE hc2 hd2, fun x hx => S'n x (hX x hx) (by have := (hdX x hx).2.2; omega), S'n c' hc's lc', S'n d' hd's ld', S'n c2 hc2 (by omega), S'n d2 hd2 (by omega)⟩, hd'.elim (fun e => by rw [e]; exact hdd) (fun q => by omega), fun x hx => ⟨hXd x hx, (hdX x hx).2.1, by have := (hdX x hx).2.2; omega⟩⟩ (fE.get gC' (hX C hC)) xlt
    rw [wr] at e1
    unfold jfs at oB oB0
    unfold lpT
    simp_arith [oB0, oB, e1, e2, e3]
    exact done
  have caK : Cm A c d (lf a) ((a.getD ⟨tick, y.l, none, []⟩).kv.map Prod.fst) := by
    cases a with
    | none => exact ca
    | some x => exact ca
  have hkl : (a.getD ⟨tick, y.l, none, []⟩).kv.length ≤ 1000 := by
    cases a with
    | none => exact Nat.zero_le _
    | some x => exact (sa x rfl).2.len hw
  have nCc : C ≠ c := by
    rintro rfl
    have := ca.c
    rw [gC] at this
    rcases hk with ⟨_, rfl, _⟩ | ⟨_, rfl, _⟩ <;> cases this
  unfold lpB
  rcases hk with ⟨rfl, rfl, rfl⟩ | ⟨rfl, rfl, rfl⟩
  · have l1 := lk A w
    rw [decide_eq_true yw] at l1
    have gWr := gW
    rw [wr w, wr v] at gWr
    simp_arith [gWr, gC, take_3, td_4, l1]
    by_cases hn : y.f = 0 ∧ y.m = false
    · have Q := rest A c d (lf a) (kf a) y.row o14 (by rw [gC]; rfl) ca (.inl rfl) (.inl rfl) .refl (fun _ => ⟨rfl, rfl, rfl⟩) (fun q => absurd hn q) (fun q => absurd hn q)
      rw [wr y] at Q
      have qf : ¬ 0 < y.f := by omega
      have qm : ¬ y.m = true := by rw [hn.2]; decide
      unfold lpI
      simp_arith [qf, (eq_false qm)]
      exact Q
    · refine lpI_ok (v := v) hw py hn gC gW (.inl ⟨rfl, rfl, rfl⟩) caK hkl (fun e => (hdX C hC).1 e) nCc hCW (hdX Wl hWX).1 (fun rs => R (seqR rs lpT)) (fun B c' d' l' ks' due o14 g1 g2 g3 g4 g5 g6 g7 => ?_)
      exact rest B c' d' l' ks' due o14 g1 g2 (.inr g3) g4 g5 (fun q => absurd q hn) (fun _ => g6) (fun _ => g7)
  · have l1 := lk A v
    rw [decide_eq_false yv] at l1
    have gWr := gW
    rw [wr w, wr v] at gWr
    simp_arith [gWr, gC, take_3, td_4, l1]
    by_cases hn : y.f = 0 ∧ y.m = false
    · have Q := rest A c d (lf a) (kf a) y.row o14 (by rw [gC]; rfl) ca (.inl rfl) (.inl rfl) .refl (fun _ => ⟨rfl, rfl, rfl⟩) (fun q => absurd hn q) (fun q => absurd hn q)
      rw [wr y] at Q
      have qf : ¬ 0 < y.f := by omega
      have qm : ¬ y.m = true := by rw [hn.2]; decide
      unfold lpI
      simp_arith [qf, (eq_false qm)]
      exact Q
    · refine lpI_ok (v := v) hw py hn gC gW (.inr ⟨rfl, rfl, rfl⟩) caK hkl (fun e => (hdX C hC).1 e) nCc hCW (hdX Wl hWX).1 (fun rs => R (seqR rs lpT)) (fun B c' d' l' ks' due o14 g1 g2 g3 g4 g5 g6 g7 => ?_)
      exact rest B c' d' l' ks' due o14 g1 g2 (.inr g3) g4 g5 (fun q => absurd q hn) (fun _ => g6) (fun _ => g7)

/-! a cell's packets -/
open DL (Bytes)
theorem wh_ok {s t k l n : Int} {ds : List Int} (hs : 0 ≤ s ∧ s ≤ 255) (ht : 0 ≤ t ∧ t ≤ 255) (hk : 0 ≤ k ∧ k ≤ 255) (hl : 0 ≤ l ∧ l ≤ 255) (hn : 0 ≤ n ∧ n ≤ 65535) (hb : Bytes ds) (hd : (ds.length : Int) ≤ 1000) : Wh ⟨s, t, k, l, n, 0, false, ds⟩ :=
  ⟨⟨hs, ht, hk, hl, hn, ⟨by show (0 : Int) ≤ 0; decide, by show (0 : Int) ≤ 1000; decide⟩, hb, by show (ds.length : Int) ≤ 1000 - 0; omega⟩, rfl, rfl⟩
theorem lrR_ok {A : Hs} {i jn dj ot : Nat} {tick s t k l n s2 t2 k2 n2 : Int} {S : List Nat} {o5 : Option D} (dr : Drw A i) (kJ : IsJ A jn dj ⟨100, 4000, 0, []⟩ [] S) (hiS : i ∉ S) (h0 : 0 ≤ tick)
    (hs : 0 ≤ s ∧ s ≤ 255) (ht : 0 ≤ t ∧ t ≤ 255) (hk : 0 ≤ k ∧ k ≤ 255) (hl : 0 ≤ l ∧ l ≤ 255) (hn : 0 ≤ n ∧ n ≤ 65535) (hs2 : 0 ≤ s2 ∧ s2 ≤ 255) (ht2 : 0 ≤ t2 ∧ t2 ≤ 255) (hk2 : 0 ≤ k2 ∧ k2 ≤ 255) (hn2 : 0 ≤ n2 ∧ n2 ≤ 65535)
    (hne : (s, t, k, n) ≠ (s2, t2, k2, n2)) (go : A[ot]? = some (.lst [.int s2, .int t2, .int k2, .int l, .int n2])) :
    Rk (finR (lrR [some (.ref i), some (.int tick), some (.ref jn), some (.tup [.int s, .int t, .int k, .int l, .int n]), some (.ref ot), o5, none, none, none, none, none, none, none, none, none] A)) fun v A1 => v = .bl true := by
  have nA := dr.lt
  have hoi : ot ≠ i := by
    rintro rfl
    obtain ⟨_, _, h⟩ := dr
    rw [go] at h
    cases h
  obtain ⟨v6, A1, a6, b6, e6, d1, f1⟩ := next_ok (n := 8) (dr.pushed (x := .lst [.int 90, .int 1000])) (by decide) (by decide)
  have n1 := f1.le
  rw [List.length_append, List.length_singleton] at n1
  have g6 : A1[A.length]? = some (.lst [.int 90, .int 1000]) := f1.get zar (by rw [List.mem_singleton]; omega)
  obtain ⟨most, p6, hm⟩ : ∃ m : Int, atI [D.int 90, .int 1000] (if v6 = 5 then 1 else 0) = some (.int m) ∧ (m = 90 ∨ m = 1000) := by
    by_cases q : v6 = 5
    · exact ⟨1000, by rw [if_pos q]; rfl, .inr rfl⟩
    · exact ⟨90, by rw [if_neg q]; rfl, .inl rfl⟩
  have o1 := f1.get (get_push (u := .lst [.int 90, .int 1000]) go) (by simp [hoi])
  have F1 : Fr [i] A A1 := (Fr.refl.then_push).trans f1
  have o2 := get_push (u := .lst []) o1
  obtain ⟨_, A3, e7, ds1, rfl, hb1, hl1, d3, f3⟩ := (some_data_ok (most := most) (d1.pushed (x := .lst [])) (by omega) (by omega)).ex
  have n3 := f3.le
  rw [List.length_append, List.length_singleton] at n3
  have W3 : A3[A1.length]? = some (.lst []) := f3.get zar (by rw [List.mem_singleton]; omega)
  obtain ⟨w, hw⟩ : ∃ w : Pq, w = ⟨s, t, k, l, n, 0, false, ds1⟩ := ⟨_, rfl⟩
  have Ww : Wh w := by rw [hw]; exact wh_ok hs ht hk hl hn hb1 (by omega)
  have wr : w.row = .tup [.int s, .int t, .int k, .int l, .int n, .int 0, .bl false, rw_ ds1] := by rw [hw]; rfl
  obtain ⟨A4, hA4⟩ : ∃ A4, A4 = A3.set A1.length (.lst [w.row]) := ⟨_, rfl⟩
  have l4 : A4.length = A3.length := by rw [hA4]; simp
  have W4 : A4[A1.length]? = some (.lst [w.row]) := by rw [hA4]; exact zaz (by omega)
  have d4 : Drw A4 i := by rw [hA4]; exact d3.frame (s := [A1.length]) (.set (by simp)) (by rw [List.mem_singleton]; omega)
  obtain ⟨_, A5, e8, ds2, rfl, hb2, hl2, d5, f5⟩ := (some_data_ok (most := most) d4 (by omega) (by omega)).ex
  have n5 := f5.le
  have W5 := f5.get W4 (by rw [List.mem_singleton]; omega)
  obtain ⟨v, hv⟩ : ∃ v : Pq, v = ⟨s2, t2, k2, l, n2, 0, false, ds2⟩ := ⟨_, rfl⟩
  have Wv : Wh v := by rw [hv]; exact wh_ok hs2 ht2 hk2 hl hn2 hb2 (by omega)
  have vr : v.row = .tup [.int s2, .int t2, .int k2, .int l, .int n2, .int 0, .bl false, rw_ ds2] := by rw [hv]; rfl
  have hne4 : w.four ≠ v.four := by rw [hw, hv]; exact hne
  obtain ⟨A6, hA6⟩ : ∃ A6, A6 = A5.set A1.length (.lst [w.row, v.row]) := ⟨_, rfl⟩
  have l6 : A6.length = A5.length := by rw [hA6]; simp
  have W6 : A6[A1.length]? = some (.lst [w.row, v.row]) := by rw [hA6]; exact zaz (by omega)
  have d6 : Drw A6 i := by rw [hA6]; exact d5.frame (s := [A1.length]) (.set (by simp)) (by rw [List.mem_singleton]; omega)
  have F6 : Fr [i] A A6 := by
    rw [hA6]
    refine Fr.then_set (Fr.trans ?_ f5) (.inr (by omega))
    rw [hA4]
    exact (((F1.then_push).trans f3).then_set (.inr (by omega)))
  -- the rows
  have W7 := get_push (u := .lst []) W6
  obtain ⟨_, B1, e9, rfl, q9, f9⟩ := (of_ok (A := A6 ++ [.lst []]) Ww.ok).ex
  have n9 := f9.le
  rw [List.length_append, List.length_singleton] at n9
  obtain ⟨_, B2, e10, r1, zs1, rfl, g10, pc1, zl1, d10, f10⟩ := (cutL_ok (d6.pushed.frame f9 (by simp)) Ww q9).ex
  have e10 : F_l_cut [.ref (A6.length + 1), .ref i] B1 = .ok (.ref r1) B2 := by
    have := e10
    rwa [List.length_append, List.length_singleton] at this
  have n10 := f10.le
  have R2 : B2[A6.length]? = some (.lst []) := f10.get (f9.get zar (by simp)) (by rw [List.mem_singleton]; have := F6.le; omega)
  have W10 := f10.get (f9.get W7 (by simp)) (by rw [List.mem_singleton]; omega)
  obtain ⟨B3, hB3⟩ : ∃ B3, B3 = B2 ++ [O.lst (zs1.map Pq.row)] := ⟨_, rfl⟩
  have l3 : B3.length = B2.length + 1 := by rw [hB3]; simp
  have R3 : B3[B2.length]? = some (.lst (zs1.map Pq.row)) := by rw [hB3]; exact zar
  have W11 : B3[A1.length]? = some (.lst [w.row, v.row]) := by rw [hB3]; exact get_push W10
  obtain ⟨_, B4, e11, rfl, q11, f11⟩ := (of_ok (A := B3) Wv.ok).ex
  have n11 := f11.le
  obtain ⟨_, B5, e12, r2, zs2, rfl, g12, pc2, zl2, d12, f12⟩ := (cutL_ok ((show Drw B3 i by rw [hB3]; exact d10.pushed).frame f11 (by simp)) Wv q11).ex
  have n12 := f12.le
  have R5 := f12.get (f11.get R3 (by simp)) (by rw [List.mem_singleton]; have := F6.le; omega)
  have W12 := f12.get (f11.get W11 (by simp)) (by rw [List.mem_singleton]; omega)
  obtain ⟨zs, hzs⟩ : ∃ zs, zs = zs1 ++ zs2 := ⟨_, rfl⟩
  have zm : zs1.map Pq.row ++ zs2.map Pq.row = zs.map Pq.row := by rw [hzs, List.map_append]
  obtain ⟨B6, hB6⟩ : ∃ B6, B6 = B5 ++ [O.lst (zs.map Pq.row)] := ⟨_, rfl⟩
  unfold lrR
  have zb1 : ([] : List D).length + (zs1.map Pq.row).length ≤ 16000000 := by rw [List.length_map]; simp; omega
  have zb2 : (zs1.map Pq.row).length + (zs2.map Pq.row).length ≤ 16000000 := by rw [List.length_map, List.length_map]; omega
  simp_arith [e6, g6, p6, o2, e7, -z66]
  rw [forL_cons trivial rfl]
  simp_arith [e7, W3]
  rw [← wr, ← hA4, forL_cons trivial rfl]
  simp_arith [e8, W4, W5]
  rw [← vr, ← hA6, forL_nil trivial]
  simp_arith [W7]
  rw [forL_cons W7 rfl]
  simp_arith [e9, e10, R2, g10, zb1]
  rw [← hB3, forL_cons W11 rfl]
  simp_arith [e11, e12, R5, g12, zb2, zm]
  have W13 := get_push (u := .lst (zs.map Pq.row)) W12
  rw [← hB6] at W13 ⊢
  rw [forL_nil W13]
  obtain ⟨L, hLl⟩ : ∃ L, L = B6.length := ⟨_, rfl⟩
  obtain ⟨B7, hB7⟩ : ∃ B7, B7 = B6 ++ [O.dic false false []] ++ [O.lst [.int 255, .ref L]] ++ [O.dic false false []] ++ [O.lst [.int 255, .ref (L + 2)]] ++ [O.lst [.ref (L + 1), .ref (L + 3)]] := ⟨_, rfl⟩
  have l7 : B7.length = L + 5 := by rw [hB7]; simp [hLl]
  have l6b : B6.length = B5.length + 1 := by rw [hB6]; simp
  have D7 : B7[L]? = some (.dic false false (kb [])) := by rw [hB7]; exact get_push (get_push (get_push (get_push (getp (by simp [hLl])))))
  have C71 : B7[L + 1]? = some (.lst [.int 255, .ref L]) := by rw [hB7]; exact get_push (get_push (get_push (getp (by simp [hLl]))))
  have D72 : B7[L + 2]? = some (.dic false false (kb [])) := by rw [hB7]; exact get_push (get_push (getp (by simp [hLl])))
  have C73 : B7[L + 3]? = some (.lst [.int 255, .ref (L + 2)]) := by rw [hB7]; exact get_push (getp (by simp [hLl]))
  have C74 : B7[L + 4]? = some (.lst [.ref (L + 1), .ref (L + 3)]) := by rw [hB7]; exact getp (by simp [hLl])
  have W14 : B7[A1.length]? = some (.lst [w.row, v.row]) := by rw [hB7]; exact get_push (get_push (get_push (get_push (get_push W13))))
  have f67 : Fr [] B6 B7 := by rw [hB7]; exact Fr.push.then_push.then_push.then_push.then_push
  have d6b : Drw B6 i := by rw [hB6]; exact d12.pushed
  have d7 := d6b.frame f67 (by simp)
  obtain ⟨v9, B8, a9, b9, e13, d8, f8⟩ := next_ok (n := 3) d7 (by decide) (by decide)
  have n8 := f8.le
  have lA1 : A1.length < L := by omega
  have Z7 : B7[B5.length]? = some (.lst (zs.map Pq.row)) := by
    refine f67.get ?_ (by simp)
    rw [hB6]
    exact zar
  have Z8 := f8.get Z7 (by rw [List.mem_singleton]; omega)
  have W15 := f8.get W14 (by rw [List.mem_singleton]; omega)
  obtain ⟨us, hus⟩ : ∃ us : List Pq, us = [w, v].take v9.toNat := ⟨_, rfl⟩
  have um : List.take v9.toNat [w.row, v.row] = us.map Pq.row := by rw [hus, List.map_take]; rfl
  have ul : us.length ≤ 2 := by rw [hus, List.length_take]; simp only [List.length_cons, List.length_nil]; omega
  have Z9 := get_push (u := .lst (us.map Pq.row)) Z8
  obtain ⟨xs, hxs⟩ : ∃ xs, xs = zs ++ us := ⟨_, rfl⟩
  have xm : zs.map Pq.row ++ us.map Pq.row = xs.map Pq.row := by rw [hxs, List.map_append]
  have zl : zs.length ≤ 4000000 := by rw [hzs, List.length_append]; omega
  have zl1 : 1 ≤ zs.length := by rw [hzs, List.length_append]; omega
  have xl : xs.length ≤ 9000000 := by rw [hxs, List.length_append]; omega
  have xb : (zs.map Pq.row).length + (us.map Pq.row).length ≤ 16000000 := by rw [List.length_map, List.length_map]; omega
  obtain ⟨B10, hB10⟩ : ∃ B10, B10 = B8 ++ [O.lst (us.map Pq.row)] ++ [O.lst (xs.map Pq.row)] := ⟨_, rfl⟩
  have l10 : B10.length = B8.length + 2 := by rw [hB10]; simp
  have X10 : B10[B8.length + 1]? = some (.lst (xs.map Pq.row)) := by rw [hB10]; exact getp (by simp)
  have d10b : Drw B10 i := by rw [hB10]; exact d8.pushed.pushed
  obtain ⟨_, B11, e14, r, ys, rfl, gY, hys, hr, hyl, d11, f14⟩ := (order_ok d10b X10 (by rw [hxs, List.length_append]; omega) xl).ex
  simp_arith []
  rw [← hLl, show L + 1 + 1 + 1 + 1 = L + 4 from rfl, show L + 1 + 1 + 1 = L + 3 from rfl, show L + 1 + 1 = L + 2 from rfl, ← hB7]
  simp_arith [e13, W15, um, Z9, xb, xm]
  rw [← hB10]
  simp_arith [e14, gY]
  have n11b := f14.le
  have fAll : Fr [i] A B11 := by
    have s1 : Fr [i] A6 B3 := by rw [hB3]; exact (((Fr.refl.then_push).trans (f9.mono (by simp))).trans f10).then_push
    have s2 : Fr [i] B3 B6 := by rw [hB6]; exact ((f11.mono (by simp)).trans f12).then_push
    have s3 : Fr [i] B6 B10 := by rw [hB10]; exact (((f67.mono (by simp)).trans f8).then_push).then_push
    exact ((F6.trans s1).trans (s2.trans s3)).trans f14
  have up7 : ∀ x o, x ≠ i → B7[x]? = some o → B11[x]? = some o := fun x o hx h => f14.get (by rw [hB10]; exact get_push (get_push (f8.get h (by simp [hx])))) (by simp [hx])
  have kq : Kq B11 jn dj tick w v (L + 1) L (L + 3) (L + 2) [L + 4, A1.length, r] := by
    refine ⟨⟨0, [], [], S, none, none, kJ.frame fAll (fun x hx hm => by rw [List.mem_singleton] at hm; rw [hm] at hx; exact hiS hx), h0, .inl rfl, (fun x hx => by cases hx), (fun x hx => by cases hx), ⟨up7 _ _ (by omega) C71, up7 _ _ (by omega) D7⟩, ⟨up7 _ _ (by omega) C73, up7 _ _ (by omega) D72⟩, fun x hx hm => ?_, ?_⟩, by omega, fun x hx => ?_⟩
    · have := kJ.lt x hm
      simp only [List.mem_cons, List.not_mem_nil, or_false] at hx
      omega
    · refine ⟨fun hm => ?_, fun hm => ?_, fun hm => ?_, fun hm => ?_⟩ <;> (have := kJ.lt _ hm; omega)
    · have := lt_of_get gY
      simp only [List.mem_cons, List.not_mem_nil, or_false] at hx
      omega
  have hyp : ∀ y ∈ ys, Pc w y ∨ Pc v y := by
    intro y hy
    have := hys y hy
    rw [hxs, hzs] at this
    rcases List.mem_append.mp this with h | h
    · rcases List.mem_append.mp h with h | h
      · exact .inl (pc1 y h)
      · exact .inr (pc2 y h)
    · rw [hus] at h
      have := List.mem_of_mem_take h
      simp only [List.mem_cons, List.not_mem_nil, or_false] at this
      rcases this with rfl | rfl
      · exact .inl (.self Ww)
      · exact .inr (.self Wv)
  refine for_go (R := fun rs => Rk (finR (seqR rs _)) _) (fun j e B => ∃ (c d c2 d2 : Nat) (o8 o12 o13 o14 : Option D), e = [some (.ref i), some (.int tick), some (.ref jn), some (.tup [.int s, .int t, .int k, .int l, .int n]), some (.ref ot), o5, some (.int most), some (.ref A1.length), o8, some (.ref B5.length), some v.row, some (.ref (L + 4)), o12, o13, o14] ∧ Kq B jn dj tick w v c d c2 d2 [L + 4, A1.length, r] ∧ B[L + 4]? = some (.lst [.ref c, .ref c2]) ∧ B[A1.length]? = some (.lst [w.row, v.row]) ∧ B[r]? = some (.lst (ys.map Pq.row)))
    ⟨L + 1, L, L + 3, L + 2, _, _, _, _, rfl, kq, up7 _ _ (by omega) C74, up7 _ _ (by omega) W14, gY⟩ (fun j e B _ h => ?_) ?_ ?_
  · obtain ⟨_, _, _, _, _, _, _, _, _, _, _, _, h⟩ := h
    exact h
  · rintro j _ B x hx ⟨c, d, c2, d2, o8, o12, o13, o14, rfl, K, gC, gW, gr⟩
    rw [List.getElem?_map] at hx
    obtain ⟨y, hy, rfl⟩ := Option.map_eq_some_iff.mp hx
    have yr : y.row = .tup [.int y.s, .int y.t, .int y.k, .int y.l, .int y.n, .int y.f, .bl y.m, .tup (y.d.map D.int)] := rfl
    have rl : L + 4 < r := by omega
    show Got _ _
    rw [yr]
    simp_arith []
    rcases hyp y (List.mem_of_getElem? hy) with py | py
    · refine body_ok (k := 0) Ww Wv hne4 py K (by simp) (by simp) (by omega) gC gW (.inl ⟨rfl, rfl, rfl⟩) _ (fun B' c' d' o12 o13 o14 K' gC' keep => ?_)
      exact ⟨c', d', c2, d2, _, _, _, _, rfl, K', gC', keep _ (by simp) (by omega) _ gW, keep _ (by simp) (by omega) _ gr⟩
    · refine body_ok (k := 1) Wv Ww (Ne.symm hne4) py K.swap (by simp) (by simp) (by omega) gC gW (.inr ⟨rfl, rfl, rfl⟩) _ (fun B' c' d' o12 o13 o14 K' gC' keep => ?_)
      exact ⟨c, d, c', d', _, _, _, _, rfl, K'.swap, gC', keep _ (by simp) (by omega) _ gW, keep _ (by simp) (by omega) _ gr⟩
  · rintro _ B ⟨c, d, c2, d2, o8, o12, o13, o14, rfl, _⟩
    simp_arith []

/-! the law -/
open DL (Bytes)
theorem at_50 {a b c d e : D} : atI [a, b, c, d, e] 0 = some a := rfl
theorem at_51 {a b c d e : D} : atI [a, b, c, d, e] 1 = some b := rfl
theorem at_52 {a b c d e : D} : atI [a, b, c, d, e] 2 = some c := rfl
theorem at_54 {a b c d e : D} : atI [a, b, c, d, e] 4 = some e := rfl
theorem right_ok {A : Hs} {i jn dj : Nat} {tick : Int} {S : List Nat} (dr : Drw A i) (kJ : IsJ A jn dj ⟨100, 4000, 0, []⟩ [] S) (hiS : i ∉ S) (h0 : 0 ≤ tick) : Rk (F_l_right [.ref i, .int tick, .ref jn] A) fun v A1 => v = .bl true := by
  have nA := dr.lt
  obtain ⟨_, B1, e1, r1, s, t, k, l, n, rfl, g1, hs, ht, hk, hl, hn, d1, f1⟩ := (head_ok dr).ex
  have n1 := f1.le
  obtain ⟨H, hH⟩ : ∃ H, H = B1 ++ [O.lst [.int s, .int t, .int k, .int l, .int n]] := ⟨_, rfl⟩
  have lH : H.length = B1.length + 1 := by rw [hH]; simp
  have gH : H[B1.length]? = some (.lst [.int s, .int t, .int k, .int l, .int n]) := by rw [hH]; exact zar
  have dH : Drw H i := by rw [hH]; exact d1.pushed
  obtain ⟨v5, B2, a5, b5, e5, d2, f2⟩ := next_ok (n := 4) (dH.pushed (x := .lst ([0, 1, 2, 4].map D.int))) (by decide) (by decide)
  have n2 := f2.le
  rw [List.length_append, List.length_singleton] at n2
  have g5 : B2[H.length]? = some (.lst ([0, 1, 2, 4].map D.int)) := f2.get zar (by rw [List.mem_singleton]; omega)
  obtain ⟨at_, hat, p5⟩ := pick_i (ns := [0, 1, 2, 4]) a5 b5
  simp only [List.map_cons, List.map_nil] at e5 g5 p5
  have o2 := f2.get (get_push (u := .lst [.int 0, .int 1, .int 2, .int 4]) gH) (by rw [List.mem_singleton]; omega)
  obtain ⟨v6, B3, a6, b6, e6, d3, f3⟩ := next_ok (n := 255) d2 (by decide) (by decide)
  have n3 := f3.le
  have o3 := f3.get o2 (by rw [List.mem_singleton]; omega)
  have F3 : Fr [i] A B3 := by
    rw [hH] at f2
    exact (((f1.then_push).then_push).trans f2).trans f3
  have fin : ∀ x : O, Drw (B3.set B1.length x) i ∧ IsJ (B3.set B1.length x) jn dj ⟨100, 4000, 0, []⟩ [] S ∧ (B3.set B1.length x)[B1.length]? = some x := by
    intro x
    refine ⟨d3.frame (s := [B1.length]) (.set (by simp)) (by rw [List.mem_singleton]; omega), (kJ.frame F3 (fun y hy hm => by rw [List.mem_singleton] at hm; rw [hm] at hy; exact hiS hy)).frame (s := [B1.length]) (.set (by simp)) (fun y hy hm => by rw [List.mem_singleton] at hm; have := kJ.lt y hy; omega), zaz (by omega)⟩
  rw [lr_eq]
  simp only [List.mem_cons, List.not_mem_nil, or_false] at hat
  rcases hat with rfl | rfl | rfl | rfl
  · simp_arith [e1, g1]
    rw [← hH]
    simp_arith [e5, g5, p5, o2, at_50, at_51, at_52, at_54, e6, o3, List.set_cons_zero, List.set_cons_succ, ← lH, -z66]
    obtain ⟨q1, q2, q3⟩ := fin (.lst [.int ((s + 1 + v6) % 256), .int t, .int k, .int l, .int n])
    exact lrR_ok q1 q2 hiS h0 hs ht hk hl hn (by omega) ht hk hn (fun e => by have : s = (s + 1 + v6) % 256 := congrArg (fun z : Int × Int × Int × Int => z.1) e; omega) q3
  · simp_arith [e1, g1]
    rw [← hH]
    simp_arith [e5, g5, p5, o2, at_50, at_51, at_52, at_54, e6, o3, List.set_cons_zero, List.set_cons_succ, ← lH, -z66]
    obtain ⟨q1, q2, q3⟩ := fin (.lst [.int s, .int ((t + 1 + v6) % 256), .int k, .int l, .int n])
    exact lrR_ok q1 q2 hiS h0 hs ht hk hl hn hs (by omega) hk hn (fun e => by have : t = (t + 1 + v6) % 256 := congrArg (fun z : Int × Int × Int × Int => z.2.1) e; omega) q3
  · simp_arith [e1, g1]
    rw [← hH]
    simp_arith [e5, g5, p5, o2, at_50, at_51, at_52, at_54, e6, o3, List.set_cons_zero, List.set_cons_succ, ← lH, -z66]
    obtain ⟨q1, q2, q3⟩ := fin (.lst [.int s, .int t, .int ((k + 1 + v6) % 256), .int l, .int n])
    exact lrR_ok q1 q2 hiS h0 hs ht hk hl hn hs ht (by omega) hn (fun e => by have : k = (k + 1 + v6) % 256 := congrArg (fun z : Int × Int × Int × Int => z.2.2.1) e; omega) q3
  · simp_arith [e1, g1]
    rw [← hH]
    simp_arith [e5, g5, p5, o2, at_50, at_51, at_52, at_54, e6, o3, List.set_cons_zero, List.set_cons_succ, ← lH, -z66]
    obtain ⟨q1, q2, q3⟩ := fin (.lst [.int s, .int t, .int k, .int l, .int ((n + 1 + v6) % 256)])
    exact lrR_ok q1 q2 hiS h0 hs ht hk hl hn hs ht hk (by omega) (fun e => by have : n = (n + 1 + v6) % 256 := congrArg (fun z : Int × Int × Int × Int => z.2.2.2) e; omega) q3
theorem cell_ok {ns : List Int} {k : Int} {A : Hs} (hk : 0 ≤ k) : ∃ n : Int, F_l_cell_at [.scr (ns.map D.int), .int k] A = .ok (.int n) A := by
  unfold F_l_cell_at
  by_cases q : k < (ns.length : Int)
  · have h : atI (ns.map D.int) k = some (.int (ns[k.toNat]'(by omega))) := by
      rw [z66 hk, List.getElem?_map, List.getElem?_eq_getElem (by omega)]; rfl
    refine ⟨ns[k.toNat]'(by omega), ?_⟩
    simp_arith [q, h, -z66]
  · refine ⟨0, ?_⟩
    simp_arith [q]
theorem law_true (ns : List Int) (hn : ns.length ≤ 63) : ∃ A, F_law [.scr (ns.map D.int)] [] = .ok (.bl true) A := by
  suffices H : Rk (F_law [.scr (ns.map D.int)] []) fun v A => v = .bl true by
    obtain ⟨_, A, e, rfl⟩ := H.ex; exact ⟨A, e⟩
  unfold F_law
  simp_arith []
  refine for_go (R := fun rs => Rk (finR (seqR rs _)) _) (fun j e B => ∃ o1, e = [some (.scr (ns.map D.int)), o1]) ⟨none, rfl⟩ (fun _ _ _ _ _ => trivial) ?_ ?_
  · rintro j _ B y hd ⟨o1, rfl⟩
    obtain ⟨rfl, hj⟩ := rgL_get hd
    have e0 : (0 : Int) + (j : Nat) * 1 = (j : Nat) := by omega
    rw [e0]
    obtain ⟨n0, e1⟩ := cell_ok (ns := ns) (k := (j : Nat)) (A := B) (by omega)
    obtain ⟨_, A1, e2, rfl, d1, f1⟩ := (state_ok (p := n0) (q := 1 + (j : Nat)) (A := B)).ex
    obtain ⟨_, A2, e3, rfl, kJ, f2⟩ := (joiner_ok (A := A1) (pat := 100) (room := 4000) (by decide) (by decide)).ex
    have l1 := d1.lt
    obtain ⟨_, A3, e4, rfl⟩ := (right_ok (tick := 7 * (j : Nat)) (d1.frame f2 (by simp)) kJ (fun hm => by simp only [List.mem_cons, List.not_mem_nil, or_false] at hm; omega) (by omega)).ex
    show Got _ _
    simp_arith [e1, e2, e3, e4]
    exact ⟨_, rfl⟩
  · rintro _ B ⟨o1, rfl⟩
    simp_arith []

end Kk

namespace Kk
open PySem L2 SM
open DL (op_addU op_subU op_mulA op_divU op_modU op_powU op_shlU op_shrU op_andU op_orU op_xorU op_ltU op_leU op_gtU op_geU op_isU op_notU call_lenU call_absU call_max2U call_min2U call_intU call_listU call_tupleU call_allU call_sumU call_isiA ix_U sl_U pi_seqU pe_dx pe_dx0 pe_mx pe_mx0 Dx Mx)
def topS (i : Nat) : Stmt := PySem.Challenge.pw_surewire_k40_whole_pieces_come_together.main.body.getD i (.Pass ⟨0, 0, 0, 0⟩)
structure Txt (K : PySem.W.Frag) (mg : Str → Option Value) (ca : CaT) : Prop where
  g_Heap : mg "Heap" = some (.ref (ca "Heap"))
  g_Joiner : mg "Joiner" = some (.ref (ca "Joiner"))
  g_NoNumber : mg "NoNumber" = some (.ref (ca "NoNumber"))
  g_NoPacket : mg "NoPacket" = some (.ref (ca "NoPacket"))
  g_NoTick : mg "NoTick" = some (.ref (ca "NoTick"))
  g_Packet : mg "Packet" = some (.ref (ca "Packet"))
  e_NoNumber : PySem.W.excIn K (ca "NoNumber") [.type "ValueError", .type "Exception", .type "BaseException", .type "object"] "ValueError.__new__" = true
  k_NoNumber : PySem.W.keepIn K (.ref (ca "NoNumber")) = true
  b_NoNumber : PySem.W.subIn K (.ref (ca "NoNumber")) (.type "BaseException") = some true
  t_NoNumber : PySem.W.typeIn K (.ref (ca "NoNumber")) = some (.type "type")
  e_NoPacket : PySem.W.excIn K (ca "NoPacket") [.type "ValueError", .type "Exception", .type "BaseException", .type "object"] "ValueError.__new__" = true
  k_NoPacket : PySem.W.keepIn K (.ref (ca "NoPacket")) = true
  b_NoPacket : PySem.W.subIn K (.ref (ca "NoPacket")) (.type "BaseException") = some true
  t_NoPacket : PySem.W.typeIn K (.ref (ca "NoPacket")) = some (.type "type")
  e_NoTick : PySem.W.excIn K (ca "NoTick") [.type "ValueError", .type "Exception", .type "BaseException", .type "object"] "ValueError.__new__" = true
  k_NoTick : PySem.W.keepIn K (.ref (ca "NoTick")) = true
  b_NoTick : PySem.W.subIn K (.ref (ca "NoTick")) (.type "BaseException") = some true
  t_NoTick : PySem.W.typeIn K (.ref (ca "NoTick")) = some (.type "type")
  cl_Heap : Cls K (ca "Heap")
  mk_Heap : PySem.W.makesIn K (ca "Heap") = true
  kc_Heap : PySem.W.keepIn K (.ref (ca "Heap")) = true
  n_Heap_by_places : PySem.W.findIn K (.ref (ca "Heap")) "by_places" = some none
  n_Heap_end_place : PySem.W.findIn K (.ref (ca "Heap")) "end_place" = some none
  n_Heap_least_life : PySem.W.findIn K (.ref (ca "Heap")) "least_life" = some none
  n_Heap_since : PySem.W.findIn K (.ref (ca "Heap")) "since" = some none
  cl_Joiner : Cls K (ca "Joiner")
  mk_Joiner : PySem.W.makesIn K (ca "Joiner") = true
  kc_Joiner : PySem.W.keepIn K (.ref (ca "Joiner")) = true
  n_Joiner_heaps : PySem.W.findIn K (.ref (ca "Joiner")) "heaps" = some none
  n_Joiner_last_tick : PySem.W.findIn K (.ref (ca "Joiner")) "last_tick" = some none
  n_Joiner_most_held : PySem.W.findIn K (.ref (ca "Joiner")) "most_held" = some none
  n_Joiner_patience : PySem.W.findIn K (.ref (ca "Joiner")) "patience" = some none
  cl_Packet : Cls K (ca "Packet")
  mk_Packet : PySem.W.makesIn K (ca "Packet") = true
  kc_Packet : PySem.W.keepIn K (.ref (ca "Packet")) = true
  n_Packet_data : PySem.W.findIn K (.ref (ca "Packet")) "data" = some none
  n_Packet_first : PySem.W.findIn K (.ref (ca "Packet")) "first" = some none
  n_Packet_kind : PySem.W.findIn K (.ref (ca "Packet")) "kind" = some none
  n_Packet_life : PySem.W.findIn K (.ref (ca "Packet")) "life" = some none
  n_Packet_more : PySem.W.findIn K (.ref (ca "Packet")) "more" = some none
  n_Packet_name : PySem.W.findIn K (.ref (ca "Packet")) "name" = some none
  n_Packet_source : PySem.W.findIn K (.ref (ca "Packet")) "source" = some none
  n_Packet_target : PySem.W.findIn K (.ref (ca "Packet")) "target" = some none
  isO : AllC (fun C => DL.InC K (ca C) ∧ btn C = false) os_
  isX : AllC (fun C => ExcC K (ca C) ∧ btn C = false) xs_
  isT : TbOk K ca tb_
  b_all : mg "all" = none
  b_bool : mg "bool" = none
  b_enumerate : mg "enumerate" = none
  b_int : mg "int" = none
  b_isinstance : mg "isinstance" = none
  b_len : mg "len" = none
  b_list : mg "list" = none
  b_max : mg "max" = none
  b_min : mg "min" = none
  b_range : mg "range" = none
  b_sum : mg "sum" = none
  b_tuple : mg "tuple" = none
  c_HEAD : ∃ t, mg "HEAD" = some (.int 14 t)
  c_LEAST : ∃ t, mg "LEAST" = some (.int 22 t)
  c_MOST_BYTE : ∃ t, mg "MOST_BYTE" = some (.int 255 t)
  c_MOST_TOGETHER : ∃ t, mg "MOST_TOGETHER" = some (.int 1000 t)
  c_MOST_WORD : ∃ t, mg "MOST_WORD" = some (.int 65535 t)
  one : True
abbrev s_need_many : Stmt := topS 13
abbrev N_need_many : List Str := ["thing"]
theorem sc_need_many : FnScope N_need_many ["thing"] (defScope s_need_many) := ⟨rfl, rfl, rfl, by decide +kernel, rfl, by decide +kernel, by decide +kernel⟩
theorem ok_need_many {P : Program} {w : World} {K : PySem.W.Frag} {mg : Str → Option Value} {base : Heap} {a : Addr} {fd : FuncData} {ca : CaT} (T : Txt K mg ca) (F : Fun K "need_many" "need_many" s_need_many a fd)  :
    FnOk P w K mg base (L2.CX P w) 1 a fd ["thing"] (SpF K ca F_need_many) := by
  refine SM.Fn.ofF F sc_need_many rfl fun cdv A outer s H E hr => ?_
  have nd := sc_need_many.nd
  refine ⟨_, (pss_one (ps_if (PW.pt (pw_or (pt_val (pe_callB (call_isiA (K := K)) (by rfl) T.b_isinstance (by decide +kernel) (pa_cons (pv 0) (pa_cons (pe_bltn (v := .ty "bool") (by rfl) T.b_bool (by decide +kernel) rfl) pa_nil)))) (pw_or (pt_not (pt_val (pe_callB (call_isiA (K := K)) (by rfl) T.b_isinstance (by decide +kernel) (pa_cons (pv 0) (pa_cons (pe_bltn (v := .ty "int") (by rfl) T.b_int (by decide +kernel) rfl) pa_nil))))) (pw_or1 (pt_cmpR op_ltU (pv 0) pe_int (nomark _)))))) (pss_one (DL.ps_raiseC rfl (takes_of rfl rfl rfl rfl) (pmk_own PySem.F.excBase_ValueError T.e_NoNumber T.g_NoNumber T.k_NoNumber (raises_own T.b_NoNumber T.t_NoNumber) rfl))) pss_nil)), ?_⟩
  exact (ss_if (st_or (st_b (se_cb (cs_isi T.isO T.isX T.isT) (sa_cons se_var (sa_cons se_ty sa_nil)))) (st_or (st_not (st_b (se_cb (cs_isi T.isO T.isX T.isT) (sa_cons se_var (sa_cons se_ty sa_nil))))) (st_test (se_op os_lt se_var se_int)))) (ss_raise rfl) ss_next)
abbrev s_Joiner___init__ : Stmt := inClass (topS 15) 0
abbrev N_Joiner___init__ : List Str := ["self", "patience", "room"]
theorem sc_Joiner___init__ : FnScope N_Joiner___init__ ["self", "patience", "room"] (defScope s_Joiner___init__) := ⟨rfl, rfl, rfl, by decide +kernel, rfl, by decide +kernel, by decide +kernel⟩
theorem ok_Joiner___init__ {P : Program} {w : World} {K : PySem.W.Frag} {mg : Str → Option Value} {base : Heap} {a : Addr} {fd : FuncData} {ca : CaT} (T : Txt K mg ca) (F : Fun K "__init__" "Joiner.__init__" s_Joiner___init__ a fd) (C_need_many : Dx P w K mg base 1 "need_many" (SpF K ca F_need_many)) :
    FnOk P w K mg base (L2.CX P w) 2 a fd ["self", "patience", "room"] (SpF K ca F_Joiner___init__) := by
  refine SM.Fn.ofF F sc_Joiner___init__ rfl fun cdv A outer s H E hr => ?_
  have nd := sc_Joiner___init__.nd
  refine ⟨_, (pss_cons (ps_expr (pe_dx C_need_many (takes_of rfl rfl rfl rfl) hr (by decide) rfl (pa_cons (pv 1) pa_nil))) (pss_cons (ps_expr (pe_dx C_need_many (takes_of rfl rfl rfl rfl) hr (by decide) rfl (pa_cons (pv 2) pa_nil))) (pss_cons (ps_fld (pv 0) (pv 1) rfl) (pss_cons (ps_fld (pv 0) (pv 2) rfl) (pss_cons (ps_fld (pv 0) pe_int rfl) (pss_one (ps_fld (pv 0) pe_dnewT rfl))))))), ?_⟩
  exact (ss_seq (ss_drop (se_call (sa_cons se_var sa_nil))) (ss_seq (ss_drop (se_call (sa_cons se_var sa_nil))) (ss_seq (ss_fl (by decide +kernel) ⟨⟨T.cl_Joiner, T.n_Joiner_patience⟩, trivial⟩ se_var se_var) (ss_seq (ss_fl (by decide +kernel) ⟨⟨T.cl_Joiner, T.n_Joiner_most_held⟩, trivial⟩ se_var se_var) (ss_seq (ss_fl (by decide +kernel) ⟨⟨T.cl_Joiner, T.n_Joiner_last_tick⟩, trivial⟩ se_var se_int) (ss_fl (by decide +kernel) ⟨⟨T.cl_Joiner, T.n_Joiner_heaps⟩, trivial⟩ se_var se_dnewT))))))
abbrev s_l_cell_at : Stmt := topS 22
abbrev N_l_cell_at : List Str := ["_law_script", "_law_k"]
theorem sc_l_cell_at : FnScope N_l_cell_at ["_law_script", "_law_k"] (defScope s_l_cell_at) := ⟨rfl, rfl, rfl, by decide +kernel, rfl, by decide +kernel, by decide +kernel⟩
theorem ok_l_cell_at {P : Program} {w : World} {K : PySem.W.Frag} {mg : Str → Option Value} {base : Heap} {a : Addr} {fd : FuncData} {ca : CaT} (T : Txt K mg ca) (F : Fun K "_law_cell_at" "_law_cell_at" s_l_cell_at a fd)  :
    FnOk P w K mg base (L2.CX P w) 1 a fd ["_law_script", "_law_k"] (SpF K ca F_l_cell_at) := by
  refine SM.Fn.ofF F sc_l_cell_at rfl fun cdv A outer s H E hr => ?_
  have nd := sc_l_cell_at.nd
  refine ⟨_, (pss_cons (ps_if (pt_cmpR op_ltU (pv 1) (pe_callB (call_lenU (K := K)) (by rfl) T.b_len (by decide +kernel) (pa_cons (pv 0) pa_nil)) (nomark _)) (pss_one (ps_ret (pe_ix (ix_U (K := K)) (pv 0) (pv 1) (fun _ _ => rfl)))) pss_nil) (pss_one (ps_ret pe_int))), ?_⟩
  exact (ss_seq (ss_if (st_test (se_op os_lt se_var (se_cb cs_len (sa_cons se_var sa_nil)))) (ss_ret (se_op os_ix se_var se_var)) ss_next) (ss_ret se_int))
abbrev s_Heap___init__ : Stmt := inClass (topS 14) 0
abbrev N_Heap___init__ : List Str := ["self", "tick", "life"]
theorem sc_Heap___init__ : FnScope N_Heap___init__ ["self", "tick", "life"] (defScope s_Heap___init__) := ⟨rfl, rfl, rfl, by decide +kernel, rfl, by decide +kernel, by decide +kernel⟩
theorem ok_Heap___init__ {P : Program} {w : World} {K : PySem.W.Frag} {mg : Str → Option Value} {base : Heap} {a : Addr} {fd : FuncData} {ca : CaT} (T : Txt K mg ca) (F : Fun K "__init__" "Heap.__init__" s_Heap___init__ a fd)  :
    FnOk P w K mg base (L2.CX P w) 1 a fd ["self", "tick", "life"] (SpF K ca F_Heap___init__) := by
  refine SM.Fn.ofF F sc_Heap___init__ rfl fun cdv A outer s H E hr => ?_
  have nd := sc_Heap___init__.nd
  refine ⟨_, (pss_cons (ps_fld (pv 0) (pv 1) rfl) (pss_cons (ps_fld (pv 0) (pv 2) rfl) (pss_cons (ps_fld (pv 0) pe_non rfl) (pss_one (ps_fld (pv 0) pe_dnewK rfl))))), ?_⟩
  exact (ss_seq (ss_fl (by decide +kernel) ⟨⟨T.cl_Heap, T.n_Heap_since⟩, trivial⟩ se_var se_var) (ss_seq (ss_fl (by decide +kernel) ⟨⟨T.cl_Heap, T.n_Heap_least_life⟩, trivial⟩ se_var se_var) (ss_seq (ss_fl (by decide +kernel) ⟨⟨T.cl_Heap, T.n_Heap_end_place⟩, trivial⟩ se_var se_non) (ss_fl (by decide +kernel) ⟨⟨T.cl_Heap, T.n_Heap_by_places⟩, trivial⟩ se_var se_dnewK))))
abbrev s_Heap_hold : Stmt := inClass (topS 14) 1
abbrev N_Heap_hold : List Str := ["self", "packet", "k", "byte", "end"]
theorem sc_Heap_hold : FnScope N_Heap_hold ["self", "packet"] (defScope s_Heap_hold) := ⟨rfl, rfl, rfl, by decide +kernel, rfl, by decide +kernel, by decide +kernel⟩
theorem ok_Heap_hold {P : Program} {w : World} {K : PySem.W.Frag} {mg : Str → Option Value} {base : Heap} {a : Addr} {fd : FuncData} {ca : CaT} (T : Txt K mg ca) (F : Fun K "hold" "Heap.hold" s_Heap_hold a fd)  :
    FnOk P w K mg base (L2.CX P w) 1 a fd ["self", "packet"] (SpF K ca F_Heap_hold) := by
  refine SM.Fn.ofF F sc_Heap_hold rfl fun cdv A outer s H E hr => ?_
  have nd := sc_Heap_hold.nd
  refine ⟨_, (pss_cons (ps_fld (pv 0) (pe_callB (call_min2U rfl) (by rfl) T.b_min (by decide +kernel) (pa_cons (pe_fld (pv 0) rfl) (pa_cons (pe_fld (pv 1) rfl) pa_nil))) rfl) (pss_cons (ps_for (passes_of rfl) rfl (pi_enumA (by rfl) T.b_enumerate (pa_cons (pe_fld (pv 1) rfl) pa_nil)) (pg_tup rfl (pgs_cons (pg_name (i := 2) nd rfl (by first | exact Or.inl rfl | exact Or.inr rfl)) (pgs_cons (pg_name (i := 3) nd rfl (by first | exact Or.inl rfl | exact Or.inr rfl)) pgs_nil))) (pss_one (ps_expr (pe_dsetd (pe_fld (pv 0) rfl) (pe_op (op_addU (K := K)) (pe_fld (pv 1) rfl) (pv 2)) (pv 3) ⟨rfl, rfl, rfl, rfl⟩)))) (pss_cons (ps_if (pt_not (pt_val (pe_fld (pv 1) rfl))) (pss_cons (ps_set (i := 4) nd rfl (by first | exact Or.inl rfl | exact Or.inr rfl) (pe_op (op_addU (K := K)) (pe_fld (pv 1) rfl) (pe_callB (call_lenU (K := K)) (by rfl) T.b_len (by decide +kernel) (pa_cons (pe_fld (pv 1) rfl) pa_nil)))) (pss_cons (ps_if (PW.pt (pw_and (pt_cmpR op_notU (pe_fld (pv 0) rfl) pe_non (nomark _)) (pw_and1 (pt_cmpR (op_nePK (K := K) (DL.room65 hr)) (pe_fld (pv 0) rfl) (pv 4) (nomark _))))) (pss_one (ps_ret pe_bl)) pss_nil) (pss_one (ps_fld (pv 0) (pv 4) rfl)))) pss_nil) (pss_one (ps_ret (pe_or (pe_cmpR op_isU (pe_fld (pv 0) rfl) pe_non (nomark _)) (pe_one (pe_cmpR op_ltU (L2.pe_callBK (L2.call_maxKDf rfl) (by rfl) T.b_max (by decide +kernel) (pa_cons (pe_fld (pv 0) rfl) pa_nil) (pk_cons (pe_un un_neg pe_int) pk_nil)) (pe_fld (pv 0) rfl) (nomark _))))))))), ?_⟩
  exact (ss_seq (ss_fl (by decide +kernel) ⟨⟨T.cl_Heap, T.n_Heap_least_life⟩, trivial⟩ se_var (se_cb cs_min2 (sa_cons (se_fld (by decide +kernel) ⟨⟨T.cl_Heap, T.n_Heap_least_life⟩, trivial⟩ se_var) (sa_cons (se_fld (by decide +kernel) ⟨⟨T.cl_Packet, T.n_Packet_life⟩, trivial⟩ se_var) sa_nil)))) (ss_seq (ss_for (sw_enumA (se_fld (by decide +kernel) ⟨⟨T.cl_Packet, T.n_Packet_data⟩, trivial⟩ se_var)) (sg_tup (sgs_cons sg_name (sgs_cons sg_name sgs_nil)) rfl) (ss_drop (se_dsetd (se_fld (by decide +kernel) ⟨⟨T.cl_Heap, T.n_Heap_by_places⟩, trivial⟩ se_var) (se_op os_add (se_fld (by decide +kernel) ⟨⟨T.cl_Packet, T.n_Packet_first⟩, trivial⟩ se_var) se_var) se_var))) (ss_seq (ss_if (st_not (st_b (se_fld (by decide +kernel) ⟨⟨T.cl_Packet, T.n_Packet_more⟩, trivial⟩ se_var))) (ss_seq (ss_set (se_op os_add (se_fld (by decide +kernel) ⟨⟨T.cl_Packet, T.n_Packet_first⟩, trivial⟩ se_var) (se_cb cs_len (sa_cons (se_fld (by decide +kernel) ⟨⟨T.cl_Packet, T.n_Packet_data⟩, trivial⟩ se_var) sa_nil)))) (ss_seq (ss_if (st_and (st_test (se_op os_isnot (se_fld (by decide +kernel) ⟨⟨T.cl_Heap, T.n_Heap_end_place⟩, trivial⟩ se_var) se_non)) (st_test (se_op os_ne (se_fld (by decide +kernel) ⟨⟨T.cl_Heap, T.n_Heap_end_place⟩, trivial⟩ se_var) se_var))) (ss_ret se_bl) ss_next) (ss_fl (by decide +kernel) ⟨⟨T.cl_Heap, T.n_Heap_end_place⟩, trivial⟩ se_var se_var))) ss_next) (ss_ret (se_or (se_op os_is (se_fld (by decide +kernel) ⟨⟨T.cl_Heap, T.n_Heap_end_place⟩, trivial⟩ se_var) se_non) (se_op os_lt (se_ck ck_maxKDf (se_fld (by decide +kernel) ⟨⟨T.cl_Heap, T.n_Heap_by_places⟩, trivial⟩ se_var) (se_un us_neg se_int)) (se_fld (by decide +kernel) ⟨⟨T.cl_Heap, T.n_Heap_end_place⟩, trivial⟩ se_var)))))))
abbrev s_Heap_is_there : Stmt := inClass (topS 14) 2
abbrev N_Heap_is_there : List Str := ["self"]
theorem sc_Heap_is_there : FnScope N_Heap_is_there ["self"] (defScope s_Heap_is_there) := ⟨rfl, rfl, rfl, by decide +kernel, rfl, by decide +kernel, by decide +kernel⟩
theorem ok_Heap_is_there {P : Program} {w : World} {K : PySem.W.Frag} {mg : Str → Option Value} {base : Heap} {a : Addr} {fd : FuncData} {ca : CaT} (T : Txt K mg ca) (F : Fun K "is_there" "Heap.is_there" s_Heap_is_there a fd)  :
    FnOk P w K mg base (L2.CX P w) 1 a fd ["self"] (SpF K ca F_Heap_is_there) := by
  refine SM.Fn.ofF F sc_Heap_is_there rfl fun cdv A outer s H E hr => ?_
  have nd := sc_Heap_is_there.nd
  refine ⟨_, (pss_one (ps_ret (pe_and (pe_cmpR op_notU (pe_fld (pv 0) rfl) pe_non (nomark _)) (pe_one (pe_cmpR (op_eqPK (K := K) (DL.room65 hr)) (pe_callB (call_lenU (K := K)) (by rfl) T.b_len (by decide +kernel) (pa_cons (pe_fld (pv 0) rfl) pa_nil)) (pe_fld (pv 0) rfl) (nomark _)))))), ?_⟩
  exact (ss_ret (se_and (se_op os_isnot (se_fld (by decide +kernel) ⟨⟨T.cl_Heap, T.n_Heap_end_place⟩, trivial⟩ se_var) se_non) (se_op os_eq (se_cb cs_len (sa_cons (se_fld (by decide +kernel) ⟨⟨T.cl_Heap, T.n_Heap_by_places⟩, trivial⟩ se_var) sa_nil)) (se_fld (by decide +kernel) ⟨⟨T.cl_Heap, T.n_Heap_end_place⟩, trivial⟩ se_var))))
abbrev s_is_number : Stmt := topS 9
abbrev N_is_number : List Str := ["thing", "most"]
theorem sc_is_number : FnScope N_is_number ["thing", "most"] (defScope s_is_number) := ⟨rfl, rfl, rfl, by decide +kernel, rfl, by decide +kernel, by decide +kernel⟩
theorem ok_is_number {P : Program} {w : World} {K : PySem.W.Frag} {mg : Str → Option Value} {base : Heap} {a : Addr} {fd : FuncData} {ca : CaT} (T : Txt K mg ca) (F : Fun K "is_number" "is_number" s_is_number a fd)  :
    FnOk P w K mg base (L2.CX P w) 1 a fd ["thing", "most"] (SpF K ca F_is_number) := by
  refine SM.Fn.ofF F sc_is_number rfl fun cdv A outer s H E hr => ?_
  have nd := sc_is_number.nd
  refine ⟨_, (pss_one (ps_ret (pe_and (pe_callB (call_isiA (K := K)) (by rfl) T.b_isinstance (by decide +kernel) (pa_cons (pv 0) (pa_cons (pe_bltn (v := .ty "int") (by rfl) T.b_int (by decide +kernel) rfl) pa_nil))) (pe_and (pe_not (pe_callB (call_isiA (K := K)) (by rfl) T.b_isinstance (by decide +kernel) (pa_cons (pv 0) (pa_cons (pe_bltn (v := .ty "bool") (by rfl) T.b_bool (by decide +kernel) rfl) pa_nil)))) (pe_one (pe_chain op_leU op_leU pe_int (pv 0) (pv 1))))))), ?_⟩
  exact (ss_ret (se_and (se_cb (cs_isi T.isO T.isX T.isT) (sa_cons se_var (sa_cons se_ty sa_nil))) (se_and (se_not (se_cb (cs_isi T.isO T.isX T.isT) (sa_cons se_var (sa_cons se_ty sa_nil)))) (se_ch os_le os_le se_int se_var se_var))))
abbrev s_are_bytes : Stmt := topS 10
abbrev N_are_bytes : List Str := ["thing", "most", "byte"]
theorem sc_are_bytes : FnScope N_are_bytes ["thing", "most"] (defScope s_are_bytes) := ⟨rfl, rfl, rfl, by decide +kernel, rfl, by decide +kernel, by decide +kernel⟩
theorem ok_are_bytes {P : Program} {w : World} {K : PySem.W.Frag} {mg : Str → Option Value} {base : Heap} {a : Addr} {fd : FuncData} {ca : CaT} (T : Txt K mg ca) (F : Fun K "are_bytes" "are_bytes" s_are_bytes a fd) (C_is_number : Dx P w K mg base 1 "is_number" (SpF K ca F_is_number)) :
    FnOk P w K mg base (L2.CX P w) 2 a fd ["thing", "most"] (SpF K ca F_are_bytes) := by
  refine SM.Fn.ofF F sc_are_bytes rfl fun cdv A outer s H E hr => ?_
  have nd := sc_are_bytes.nd
  refine ⟨_, (pss_one (ps_ret (pe_and (pe_callB (call_isiA (K := K)) (by rfl) T.b_isinstance (by decide +kernel) (pa_cons (pv 0) (pa_cons (pe_bltn (v := .ty "tuple") (by rfl) T.b_tuple (by decide +kernel) rfl) pa_nil))) (pe_and (pe_cmpR op_leU (pe_callB (call_lenU (K := K)) (by rfl) T.b_len (by decide +kernel) (pa_cons (pv 0) pa_nil)) (pv 1) (nomark _)) (pe_one (pe_callB (call_allU (K := K) rfl) (by rfl) T.b_all (by decide +kernel) (pa_cons (pe_lc (own := [("byte", 2)]) (g := (gName 2)) rfl nd (pi_seqU (K := K) (pv 0)) (blkOk_by (own := [("byte", 2)]) (N := N_are_bytes) (sc := defScope s_are_bytes) (by decide +kernel)) (fun _ _ _ _ _ => (pg_name (i := 2) nd rfl (by first | exact Or.inl rfl | exact Or.inr rfl))) (fun _ _ _ _ _ => pts_nil) (fun _ _ _ _ _ => (pe_dx0 C_is_number hr (by decide) rfl (pa_cons (pv 2) (pa_cons (pe_glob (v := .int 255) rfl T.c_MOST_BYTE.choose_spec ⟨_, rfl⟩) pa_nil))))) pa_nil))))))), ?_⟩
  exact (ss_ret (se_and (se_cb (cs_isi T.isO T.isX T.isT) (sa_cons se_var (sa_cons se_ty sa_nil))) (se_and (se_op os_le (se_cb cs_len (sa_cons se_var sa_nil)) se_var) (se_cb cs_all (sa_cons (se_lc (W2 := fun _ _ _ _ => False) (sw_seq se_var) sg_name (by decide) st_yes (se_call0 (sa_cons se_var (sa_cons se_int sa_nil)))) sa_nil)))))
abbrev s_Packet___init__ : Stmt := inClass (topS 11) 0
abbrev N_Packet___init__ : List Str := ["self", "source", "target", "kind", "life", "name", "first", "more", "data", "thing"]
theorem sc_Packet___init__ : FnScope N_Packet___init__ ["self", "source", "target", "kind", "life", "name", "first", "more", "data"] (defScope s_Packet___init__) := ⟨rfl, rfl, rfl, by decide +kernel, rfl, by decide +kernel, by decide +kernel⟩
theorem ok_Packet___init__ {P : Program} {w : World} {K : PySem.W.Frag} {mg : Str → Option Value} {base : Heap} {a : Addr} {fd : FuncData} {ca : CaT} (T : Txt K mg ca) (F : Fun K "__init__" "Packet.__init__" s_Packet___init__ a fd) (C_are_bytes : Dx P w K mg base 2 "are_bytes" (SpF K ca F_are_bytes)) (C_is_number : Dx P w K mg base 1 "is_number" (SpF K ca F_is_number)) :
    FnOk P w K mg base (L2.CX P w) 3 a fd ["self", "source", "target", "kind", "life", "name", "first", "more", "data"] (SpF K ca F_Packet___init__) := by
  refine SM.Fn.ofF F sc_Packet___init__ rfl fun cdv A outer s H E hr => ?_
  have nd := sc_Packet___init__.nd
  refine ⟨_, (pss_cons (ps_if (pt_not (pt_val (pe_callB (call_allU (K := K) rfl) (by rfl) T.b_all (by decide +kernel) (pa_cons (pe_lc (own := [("thing", 9)]) (g := (gName 9)) rfl nd (pi_seqU (K := K) (pe_tup (pa_cons (pv 1) (pa_cons (pv 2) (pa_cons (pv 3) (pa_cons (pv 4) pa_nil)))))) (blkOk_by (own := [("thing", 9)]) (N := N_Packet___init__) (sc := defScope s_Packet___init__) (by decide +kernel)) (fun _ _ _ _ _ => (pg_name (i := 9) nd rfl (by first | exact Or.inl rfl | exact Or.inr rfl))) (fun _ _ _ _ _ => pts_nil) (fun _ _ _ _ _ => (pe_dx0 C_is_number hr (by decide) rfl (pa_cons (pv 9) (pa_cons (pe_glob (v := .int 255) rfl T.c_MOST_BYTE.choose_spec ⟨_, rfl⟩) pa_nil))))) pa_nil)))) (pss_one (DL.ps_raiseC rfl (takes_of rfl rfl rfl rfl) (pmk_own PySem.F.excBase_ValueError T.e_NoPacket T.g_NoPacket T.k_NoPacket (raises_own T.b_NoPacket T.t_NoPacket) rfl))) pss_nil) (pss_cons (ps_if (PW.pt (pw_or (pt_not (pt_val (pe_dx C_is_number (takes_of rfl rfl rfl rfl) hr (by decide) rfl (pa_cons (pv 5) (pa_cons (pe_glob (v := .int 65535) rfl T.c_MOST_WORD.choose_spec ⟨_, rfl⟩) pa_nil))))) (pw_or (pt_not (pt_val (pe_dx C_is_number (takes_of rfl rfl rfl rfl) hr (by decide) rfl (pa_cons (pv 6) (pa_cons (pe_glob (v := .int 1000) rfl T.c_MOST_TOGETHER.choose_spec ⟨_, rfl⟩) pa_nil))))) (pw_or1 (pt_not (pt_val (pe_callB (call_isiA (K := K)) (by rfl) T.b_isinstance (by decide +kernel) (pa_cons (pv 7) (pa_cons (pe_bltn (v := .ty "bool") (by rfl) T.b_bool (by decide +kernel) rfl) pa_nil))))))))) (pss_one (DL.ps_raiseC rfl (takes_of rfl rfl rfl rfl) (pmk_own PySem.F.excBase_ValueError T.e_NoPacket T.g_NoPacket T.k_NoPacket (raises_own T.b_NoPacket T.t_NoPacket) rfl))) pss_nil) (pss_cons (ps_if (pt_not (pt_val (pe_dx C_are_bytes (takes_of rfl rfl rfl rfl) hr (by decide) rfl (pa_cons (pv 8) (pa_cons (pe_op op_subU (pe_glob (v := .int 1000) rfl T.c_MOST_TOGETHER.choose_spec ⟨_, rfl⟩) (pv 6)) pa_nil))))) (pss_one (DL.ps_raiseC rfl (takes_of rfl rfl rfl rfl) (pmk_own PySem.F.excBase_ValueError T.e_NoPacket T.g_NoPacket T.k_NoPacket (raises_own T.b_NoPacket T.t_NoPacket) rfl))) pss_nil) (pss_cons (ps_fld (pv 0) (pv 1) rfl) (pss_cons (ps_fld (pv 0) (pv 2) rfl) (pss_cons (ps_fld (pv 0) (pv 3) rfl) (pss_cons (ps_fld (pv 0) (pv 4) rfl) (pss_cons (ps_fld (pv 0) (pv 5) rfl) (pss_cons (ps_fld (pv 0) (pv 6) rfl) (pss_cons (ps_fld (pv 0) (pv 7) rfl) (pss_one (ps_fld (pv 0) (pv 8) rfl)))))))))))), ?_⟩
  exact (ss_seq (ss_if (st_not (st_b (se_cb cs_all (sa_cons (se_lc (W2 := fun _ _ _ _ => False) (sw_seq (se_tup (sa_cons se_var (sa_cons se_var (sa_cons se_var (sa_cons se_var sa_nil)))))) sg_name (by decide) st_yes (se_call0 (sa_cons se_var (sa_cons se_int sa_nil)))) sa_nil)))) (ss_raise rfl) ss_next) (ss_seq (ss_if (st_or (st_not (st_b (se_call (sa_cons se_var (sa_cons se_int sa_nil))))) (st_or (st_not (st_b (se_call (sa_cons se_var (sa_cons se_int sa_nil))))) (st_not (st_b (se_cb (cs_isi T.isO T.isX T.isT) (sa_cons se_var (sa_cons se_ty sa_nil))))))) (ss_raise rfl) ss_next) (ss_seq (ss_if (st_not (st_b (se_call (sa_cons se_var (sa_cons (se_op os_sub se_int se_var) sa_nil))))) (ss_raise rfl) ss_next) (ss_seq (ss_fl (by decide +kernel) ⟨⟨T.cl_Packet, T.n_Packet_source⟩, trivial⟩ se_var se_var) (ss_seq (ss_fl (by decide +kernel) ⟨⟨T.cl_Packet, T.n_Packet_target⟩, trivial⟩ se_var se_var) (ss_seq (ss_fl (by decide +kernel) ⟨⟨T.cl_Packet, T.n_Packet_kind⟩, trivial⟩ se_var se_var) (ss_seq (ss_fl (by decide +kernel) ⟨⟨T.cl_Packet, T.n_Packet_life⟩, trivial⟩ se_var se_var) (ss_seq (ss_fl (by decide +kernel) ⟨⟨T.cl_Packet, T.n_Packet_name⟩, trivial⟩ se_var se_var) (ss_seq (ss_fl (by decide +kernel) ⟨⟨T.cl_Packet, T.n_Packet_first⟩, trivial⟩ se_var se_var) (ss_seq (ss_fl (by decide +kernel) ⟨⟨T.cl_Packet, T.n_Packet_more⟩, trivial⟩ se_var se_var) (ss_fl (by decide +kernel) ⟨⟨T.cl_Packet, T.n_Packet_data⟩, trivial⟩ se_var se_var)))))))))))
abbrev s_Heap_packet_made : Stmt := inClass (topS 14) 3
abbrev N_Heap_packet_made : List Str := ["self", "four", "found", "place"]
theorem sc_Heap_packet_made : FnScope N_Heap_packet_made ["self", "four"] (defScope s_Heap_packet_made) := ⟨rfl, rfl, rfl, by decide +kernel, rfl, by decide +kernel, by decide +kernel⟩
theorem ok_Heap_packet_made {P : Program} {w : World} {K : PySem.W.Frag} {mg : Str → Option Value} {base : Heap} {a : Addr} {fd : FuncData} {ca : CaT} (T : Txt K mg ca) (F : Fun K "packet_made" "Heap.packet_made" s_Heap_packet_made a fd) (M_Packet : Mx P w K mg base 3 "Packet" (ca "Packet") (SpF K ca F_Packet___init__)) :
    FnOk P w K mg base (L2.CX P w) 5 a fd ["self", "four"] (SpF K ca F_Heap_packet_made) := by
  refine SM.Fn.ofF F sc_Heap_packet_made rfl fun cdv A outer s H E hr => ?_
  have nd := sc_Heap_packet_made.nd
  refine ⟨_, (pss_cons (ps_set (i := 2) nd rfl (by first | exact Or.inl rfl | exact Or.inr rfl) (pe_callTy (call_tupleU (K := K)) (by rfl) T.b_tuple (by decide +kernel) (pa_cons (pe_lc (own := [("place", 3)]) (g := (gName 3)) rfl nd (pi_range1 rfl T.b_range (pa_cons (pe_fld (pv 0) rfl) pa_nil)) (blkOk_by (own := [("place", 3)]) (N := N_Heap_packet_made) (sc := defScope s_Heap_packet_made) (by decide +kernel)) (fun _ _ _ _ _ => (pg_name (i := 3) nd rfl (by first | exact Or.inl rfl | exact Or.inr rfl))) (fun _ _ _ _ _ => pts_nil) (fun _ _ _ _ _ => (pe_dgetO (DL.room65 hr) (pe_fldK (K := K) rfl (pv 0) rfl) (pv 3) (fun _ _ => rfl)))) pa_nil))) (pss_one (ps_ret (pe_mx M_Packet (takes_of rfl rfl rfl rfl) hr (by decide) rfl (pa_cons (pe_ix (ix_U (K := K)) (pv 1) pe_int (fun _ _ => rfl)) (pa_cons (pe_ix (ix_U (K := K)) (pv 1) pe_int (fun _ _ => rfl)) (pa_cons (pe_ix (ix_U (K := K)) (pv 1) pe_int (fun _ _ => rfl)) (pa_cons (pe_fld (pv 0) rfl) (pa_cons (pe_ix (ix_U (K := K)) (pv 1) pe_int (fun _ _ => rfl)) (pa_cons pe_int (pa_cons pe_bl (pa_cons (pv 2) pa_nil)))))))))))), ?_⟩
  exact (ss_seq (ss_set (se_cb cs_tuple (sa_cons (se_lc (W2 := fun _ _ _ _ => False) (sw_r1 (sa_cons (se_fld (by decide +kernel) ⟨⟨T.cl_Heap, T.n_Heap_end_place⟩, trivial⟩ se_var) sa_nil)) sg_name (by decide) st_yes (se_op os_dget (se_fld (by decide +kernel) ⟨⟨T.cl_Heap, T.n_Heap_by_places⟩, trivial⟩ se_var) se_var)) sa_nil))) (ss_ret (se_make (sa_cons (se_op os_ix se_var se_int) (sa_cons (se_op os_ix se_var se_int) (sa_cons (se_op os_ix se_var se_int) (sa_cons (se_fld (by decide +kernel) ⟨⟨T.cl_Heap, T.n_Heap_least_life⟩, trivial⟩ se_var) (sa_cons (se_op os_ix se_var se_int) (sa_cons se_int (sa_cons se_bl (sa_cons se_var sa_nil)))))))))))
abbrev s_Joiner_let_first_go : Stmt := inClass (topS 15) 2
abbrev N_Joiner_let_first_go : List Str := ["self", "heap", "four"]
theorem sc_Joiner_let_first_go : FnScope N_Joiner_let_first_go ["self"] (defScope s_Joiner_let_first_go) := ⟨rfl, rfl, rfl, by decide +kernel, rfl, by decide +kernel, by decide +kernel⟩
theorem ok_Joiner_let_first_go {P : Program} {w : World} {K : PySem.W.Frag} {mg : Str → Option Value} {base : Heap} {a : Addr} {fd : FuncData} {ca : CaT} (T : Txt K mg ca) (F : Fun K "let_first_go" "Joiner.let_first_go" s_Joiner_let_first_go a fd)  :
    FnOk P w K mg base (L2.CX P w) 1 a fd ["self"] (SpF K ca F_Joiner_let_first_go) := by
  refine SM.Fn.ofF F sc_Joiner_let_first_go rfl fun cdv A outer s H E hr => ?_
  have nd := sc_Joiner_let_first_go.nd
  refine ⟨_, (pss_one (ps_while (passes_of rfl) (pt_cmpR op_gtU (pe_callB (call_sumU (K := K) rfl) (by rfl) T.b_sum (by decide +kernel) (pa_cons (pe_lock (pe_lc (own := [("heap", 1)]) (g := (gName 1)) rfl nd (L2.pi_valuesT (pe_fld (pv 0) rfl)) (blkOk_by (own := [("heap", 1)]) (N := N_Joiner_let_first_go) (sc := defScope s_Joiner_let_first_go) (by decide +kernel)) (fun _ _ _ _ _ => (pg_name (i := 1) nd rfl (by first | exact Or.inl rfl | exact Or.inr rfl))) (fun _ _ _ _ _ => pts_nil) (fun _ _ _ _ _ => (pe_callB (call_lenU (K := K)) (by rfl) T.b_len (by decide +kernel) (pa_cons (pe_fldK (K := K) rfl (pv 1) rfl) pa_nil))))) pa_nil)) (pe_fld (pv 0) rfl) (nomark _)) (pss_one (ps_expr (pe_bm PySem.F.plainAttrs_dict PySem.F.slot_dict_pop PySem.F.type_dict_pop (L2.mt_popT1 (DL.room65w hr)) (pe_fld (pv 0) rfl) (pa_cons (pe_ix (ix_U (K := K)) (pe_callB (L2.call_minU (K := K) (DL.room65 hr) rfl) (by rfl) T.b_min (by decide +kernel) (pa_cons (pe_lock (pe_lc (own := [("four", 2), ("heap", 1)]) (g := (gTup _ 2 (gCons (gName 2) (gCons (gName 1) gNil)))) rfl nd (L2.pi_itemsT (pe_fld (pv 0) rfl)) (blkOk_by (own := [("four", 2), ("heap", 1)]) (N := N_Joiner_let_first_go) (sc := defScope s_Joiner_let_first_go) (by decide +kernel)) (fun _ _ _ _ _ => (pg_tup rfl (pgs_cons (pg_name (i := 2) nd rfl (by first | exact Or.inl rfl | exact Or.inr rfl)) (pgs_cons (pg_name (i := 1) nd rfl (by first | exact Or.inl rfl | exact Or.inr rfl)) pgs_nil)))) (fun _ _ _ _ _ => pts_nil) (fun _ _ _ _ _ => (pe_tup (pa_cons (pe_fldK (K := K) rfl (pv 1) rfl) (pa_cons (pv 2) pa_nil)))))) pa_nil)) pe_int (fun _ _ => rfl)) pa_nil)))))), ?_⟩
  exact (ss_while (st_test (se_op os_gt (se_cb cs_sum (sa_cons (se_lk (se_lc (W2 := fun _ _ _ _ => False) (sw_valsT (se_fld (by decide +kernel) ⟨⟨T.cl_Joiner, T.n_Joiner_heaps⟩, trivial⟩ se_var)) sg_name (by decide) st_yes (se_cb cs_len (sa_cons (se_fld (by decide +kernel) ⟨⟨T.cl_Heap, T.n_Heap_by_places⟩, trivial⟩ se_var) sa_nil)))) sa_nil)) (se_fld (by decide +kernel) ⟨⟨T.cl_Joiner, T.n_Joiner_most_held⟩, trivial⟩ se_var))) (ss_drop (se_bd ms_popT1 (se_fld (by decide +kernel) ⟨⟨T.cl_Joiner, T.n_Joiner_heaps⟩, trivial⟩ se_var) (sa_cons (se_op os_ix (se_cb cs_best (sa_cons (se_lk (se_lc (W2 := fun _ _ _ _ => False) (sw_itemsT (se_fld (by decide +kernel) ⟨⟨T.cl_Joiner, T.n_Joiner_heaps⟩, trivial⟩ se_var)) (sg_tup (sgs_cons sg_name (sgs_cons sg_name sgs_nil)) rfl) (by decide) st_yes (se_tup (sa_cons (se_fld (by decide +kernel) ⟨⟨T.cl_Heap, T.n_Heap_since⟩, trivial⟩ se_var) (sa_cons se_var sa_nil))))) sa_nil)) se_int) sa_nil))))
abbrev s_Joiner_let_old_go : Stmt := inClass (topS 15) 1
abbrev N_Joiner_let_old_go : List Str := ["self", "tick", "four"]
theorem sc_Joiner_let_old_go : FnScope N_Joiner_let_old_go ["self", "tick"] (defScope s_Joiner_let_old_go) := ⟨rfl, rfl, rfl, by decide +kernel, rfl, by decide +kernel, by decide +kernel⟩
theorem ok_Joiner_let_old_go {P : Program} {w : World} {K : PySem.W.Frag} {mg : Str → Option Value} {base : Heap} {a : Addr} {fd : FuncData} {ca : CaT} (T : Txt K mg ca) (F : Fun K "let_old_go" "Joiner.let_old_go" s_Joiner_let_old_go a fd)  :
    FnOk P w K mg base (L2.CX P w) 1 a fd ["self", "tick"] (SpF K ca F_Joiner_let_old_go) := by
  refine SM.Fn.ofF F sc_Joiner_let_old_go rfl fun cdv A outer s H E hr => ?_
  have nd := sc_Joiner_let_old_go.nd
  refine ⟨_, (pss_one (ps_for (passes_of rfl) rfl (pi_seqU (K := K) (pe_callTy (L2.call_list_dT rfl) (by rfl) T.b_list (by decide +kernel) (pa_cons (pe_fld (pv 0) rfl) pa_nil))) (pg_name (i := 2) nd rfl (by first | exact Or.inl rfl | exact Or.inr rfl)) (pss_one (ps_if (pt_cmpR op_geU (pe_op op_subU (pv 1) (pe_fld (pe_dgetO (DL.room65 hr) (pe_fld (pv 0) rfl) (pv 2) (fun _ _ => rfl)) rfl)) (pe_fld (pv 0) rfl) (nomark _)) (pss_one (ps_expr (pe_bm PySem.F.plainAttrs_dict PySem.F.slot_dict_pop PySem.F.type_dict_pop (L2.mt_popT1 (DL.room65w hr)) (pe_fld (pv 0) rfl) (pa_cons (pv 2) pa_nil)))) pss_nil)))), ?_⟩
  exact (ss_for (sw_seq (se_cb cs_listT (sa_cons (se_fld (by decide +kernel) ⟨⟨T.cl_Joiner, T.n_Joiner_heaps⟩, trivial⟩ se_var) sa_nil))) sg_name (ss_if (st_test (se_op os_ge (se_op os_sub se_var (se_fld (by decide +kernel) ⟨⟨T.cl_Heap, T.n_Heap_since⟩, trivial⟩ (se_op os_dget (se_fld (by decide +kernel) ⟨⟨T.cl_Joiner, T.n_Joiner_heaps⟩, trivial⟩ se_var) se_var))) (se_fld (by decide +kernel) ⟨⟨T.cl_Joiner, T.n_Joiner_patience⟩, trivial⟩ se_var))) (ss_drop (se_bd ms_popT1 (se_fld (by decide +kernel) ⟨⟨T.cl_Joiner, T.n_Joiner_heaps⟩, trivial⟩ se_var) (sa_cons se_var sa_nil))) ss_next))
abbrev s_Joiner_take : Stmt := inClass (topS 15) 3
abbrev N_Joiner_take : List Str := ["self", "packet", "tick", "four", "heap"]
theorem sc_Joiner_take : FnScope N_Joiner_take ["self", "packet", "tick"] (defScope s_Joiner_take) := ⟨rfl, rfl, rfl, by decide +kernel, rfl, by decide +kernel, by decide +kernel⟩
theorem ok_Joiner_take {P : Program} {w : World} {K : PySem.W.Frag} {mg : Str → Option Value} {base : Heap} {a : Addr} {fd : FuncData} {ca : CaT} (T : Txt K mg ca) (F : Fun K "take" "Joiner.take" s_Joiner_take a fd) (M_Heap : Mx P w K mg base 1 "Heap" (ca "Heap") (SpF K ca F_Heap___init__)) (M_Heap_hold : SM.Mt P w K mg base 1 (ca "Heap") "hold" (SpF K ca F_Heap_hold)) (M_Heap_is_there : SM.Mt P w K mg base 1 (ca "Heap") "is_there" (SpF K ca F_Heap_is_there)) (M_Heap_packet_made : SM.Mt P w K mg base 5 (ca "Heap") "packet_made" (SpF K ca F_Heap_packet_made)) (M_Joiner_let_first_go : SM.Mt P w K mg base 1 (ca "Joiner") "let_first_go" (SpF K ca F_Joiner_let_first_go)) (M_Joiner_let_old_go : SM.Mt P w K mg base 1 (ca "Joiner") "let_old_go" (SpF K ca F_Joiner_let_old_go)) :
    FnOk P w K mg base (L2.CX P w) 6 a fd ["self", "packet", "tick"] (SpF K ca F_Joiner_take) := by
  refine SM.Fn.ofF F sc_Joiner_take rfl fun cdv A outer s H E hr => ?_
  have nd := sc_Joiner_take.nd
  refine ⟨_, (pss_cons (ps_if (PW.pt (pw_or (pt_val (pe_callB (call_isiA (K := K)) (by rfl) T.b_isinstance (by decide +kernel) (pa_cons (pv 2) (pa_cons (pe_bltn (v := .ty "bool") (by rfl) T.b_bool (by decide +kernel) rfl) pa_nil)))) (pw_or (pt_not (pt_val (pe_callB (call_isiA (K := K)) (by rfl) T.b_isinstance (by decide +kernel) (pa_cons (pv 2) (pa_cons (pe_bltn (v := .ty "int") (by rfl) T.b_int (by decide +kernel) rfl) pa_nil))))) (pw_or1 (pt_cmpR op_ltU (pv 2) (pe_fld (pv 0) rfl) (nomark _)))))) (pss_one (DL.ps_raiseC rfl (takes_of rfl rfl rfl rfl) (pmk_own PySem.F.excBase_ValueError T.e_NoTick T.g_NoTick T.k_NoTick (raises_own T.b_NoTick T.t_NoTick) rfl))) pss_nil) (pss_cons (ps_fld (pv 0) (pv 2) rfl) (pss_cons (ps_expr (pe_mtX M_Joiner_let_old_go (takes_of rfl rfl rfl rfl) hr (by decide) T.cl_Joiner (pv 0) (pa_cons (pv 2) pa_nil))) (pss_cons (ps_if (PW.pt (pw_and (pt_cmpR (op_eqPK (K := K) (DL.room65 hr)) (pe_fld (pv 1) rfl) pe_int (nomark _)) (pw_and1 (pt_not (pt_val (pe_fld (pv 1) rfl)))))) (pss_one (ps_ret (pv 1))) pss_nil) (pss_cons (ps_set (i := 3) nd rfl (by first | exact Or.inl rfl | exact Or.inr rfl) (pe_tup (pa_cons (pe_fld (pv 1) rfl) (pa_cons (pe_fld (pv 1) rfl) (pa_cons (pe_fld (pv 1) rfl) (pa_cons (pe_fld (pv 1) rfl) pa_nil)))))) (pss_cons (ps_if (pt_cmpR (op_notInAll (K := K) (DL.room65 hr)) (pv 3) (pe_fld (pv 0) rfl) rfl) (pss_one (PS.or (ps_asg (pe_mx M_Heap (takes_of rfl rfl rfl rfl) hr (by decide) rfl (pa_cons (pv 2) (pa_cons (pe_fld (pv 1) rfl) pa_nil))) (pg_sub (pe_fld (pv 0) rfl) (pv 3) set_list)) (ps_dput (DL.room65w hr) (pe_fld (pv 0) rfl) (pv 3) (pe_mx M_Heap (takes_of rfl rfl rfl rfl) hr (by decide) rfl (pa_cons (pv 2) (pa_cons (pe_fld (pv 1) rfl) pa_nil))) rfl))) pss_nil) (pss_cons (ps_set (i := 4) nd rfl (by first | exact Or.inl rfl | exact Or.inr rfl) (pe_dgetO (DL.room65 hr) (pe_fld (pv 0) rfl) (pv 3) (fun _ _ => rfl))) (pss_cons (ps_if (pt_not (pt_val (pe_mtX M_Heap_hold (takes_of rfl rfl rfl rfl) hr (by decide) T.cl_Heap (pv 4) (pa_cons (pv 1) pa_nil)))) (pss_cons (ps_expr (pe_bm PySem.F.plainAttrs_dict PySem.F.slot_dict_pop PySem.F.type_dict_pop (L2.mt_popT1 (DL.room65w hr)) (pe_fld (pv 0) rfl) (pa_cons (pv 3) pa_nil))) (pss_one (ps_ret pe_non))) pss_nil) (pss_cons (ps_if (pt_val (pe_mtX0 M_Heap_is_there (takes_of rfl rfl rfl rfl) hr (by decide) T.cl_Heap (pv 4))) (pss_cons (ps_expr (pe_bm PySem.F.plainAttrs_dict PySem.F.slot_dict_pop PySem.F.type_dict_pop (L2.mt_popT1 (DL.room65w hr)) (pe_fld (pv 0) rfl) (pa_cons (pv 3) pa_nil))) (pss_one (ps_ret (pe_mtX M_Heap_packet_made (takes_of rfl rfl rfl rfl) hr (by decide) T.cl_Heap (pv 4) (pa_cons (pv 3) pa_nil))))) pss_nil) (pss_cons (ps_expr (pe_mtX0 M_Joiner_let_first_go (takes_of rfl rfl rfl rfl) hr (by decide) T.cl_Joiner (pv 0))) (pss_one (ps_ret pe_non)))))))))))), ?_⟩
  exact (ss_seq (ss_if (st_or (st_b (se_cb (cs_isi T.isO T.isX T.isT) (sa_cons se_var (sa_cons se_ty sa_nil)))) (st_or (st_not (st_b (se_cb (cs_isi T.isO T.isX T.isT) (sa_cons se_var (sa_cons se_ty sa_nil))))) (st_test (se_op os_lt se_var (se_fld (by decide +kernel) ⟨⟨T.cl_Joiner, T.n_Joiner_last_tick⟩, trivial⟩ se_var))))) (ss_raise rfl) ss_next) (ss_seq (ss_fl (by decide +kernel) ⟨⟨T.cl_Joiner, T.n_Joiner_last_tick⟩, trivial⟩ se_var se_var) (ss_seq (ss_drop (meth_one (by decide +kernel) se_var (sa_cons se_var sa_nil))) (ss_seq (ss_if (st_and (st_test (se_op os_eq (se_fld (by decide +kernel) ⟨⟨T.cl_Packet, T.n_Packet_first⟩, trivial⟩ se_var) se_int)) (st_not (st_b (se_fld (by decide +kernel) ⟨⟨T.cl_Packet, T.n_Packet_more⟩, trivial⟩ se_var)))) (ss_ret se_var) ss_next) (ss_seq (ss_set (se_tup (sa_cons (se_fld (by decide +kernel) ⟨⟨T.cl_Packet, T.n_Packet_source⟩, trivial⟩ se_var) (sa_cons (se_fld (by decide +kernel) ⟨⟨T.cl_Packet, T.n_Packet_target⟩, trivial⟩ se_var) (sa_cons (se_fld (by decide +kernel) ⟨⟨T.cl_Packet, T.n_Packet_kind⟩, trivial⟩ se_var) (sa_cons (se_fld (by decide +kernel) ⟨⟨T.cl_Packet, T.n_Packet_name⟩, trivial⟩ se_var) sa_nil)))))) (ss_seq (ss_if (st_test (se_op os_notin se_var (se_fld (by decide +kernel) ⟨⟨T.cl_Joiner, T.n_Joiner_heaps⟩, trivial⟩ se_var))) (ss_put (se_fld (by decide +kernel) ⟨⟨T.cl_Joiner, T.n_Joiner_heaps⟩, trivial⟩ se_var) se_var (se_make (sa_cons se_var (sa_cons (se_fld (by decide +kernel) ⟨⟨T.cl_Packet, T.n_Packet_life⟩, trivial⟩ se_var) sa_nil)))) ss_next) (ss_seq (ss_set (se_op os_dget (se_fld (by decide +kernel) ⟨⟨T.cl_Joiner, T.n_Joiner_heaps⟩, trivial⟩ se_var) se_var)) (ss_seq (ss_if (st_not (st_b (meth_one (by decide +kernel) se_var (sa_cons se_var sa_nil)))) (ss_seq (ss_drop (se_bd ms_popT1 (se_fld (by decide +kernel) ⟨⟨T.cl_Joiner, T.n_Joiner_heaps⟩, trivial⟩ se_var) (sa_cons se_var sa_nil))) (ss_ret se_non)) ss_next) (ss_seq (ss_if (st_b (meth_one (by decide +kernel) se_var sa_nil)) (ss_seq (ss_drop (se_bd ms_popT1 (se_fld (by decide +kernel) ⟨⟨T.cl_Joiner, T.n_Joiner_heaps⟩, trivial⟩ se_var) (sa_cons se_var sa_nil))) (ss_ret (meth_one (by decide +kernel) se_var (sa_cons se_var sa_nil)))) ss_next) (ss_seq (ss_drop (meth_one (by decide +kernel) se_var sa_nil)) (ss_ret se_non)))))))))))
abbrev s_Packet_told : Stmt := inClass (topS 11) 1
abbrev N_Packet_told : List Str := ["self", "ends"]
theorem sc_Packet_told : FnScope N_Packet_told ["self"] (defScope s_Packet_told) := ⟨rfl, rfl, rfl, by decide +kernel, rfl, by decide +kernel, by decide +kernel⟩
theorem ok_Packet_told {P : Program} {w : World} {K : PySem.W.Frag} {mg : Str → Option Value} {base : Heap} {a : Addr} {fd : FuncData} {ca : CaT} (T : Txt K mg ca) (F : Fun K "told" "Packet.told" s_Packet_told a fd)  :
    FnOk P w K mg base (L2.CX P w) 1 a fd ["self"] (SpF K ca F_Packet_told) := by
  refine SM.Fn.ofF F sc_Packet_told rfl fun cdv A outer s H E hr => ?_
  have nd := sc_Packet_told.nd
  refine ⟨_, (pss_cons (ps_set (i := 1) nd rfl (by first | exact Or.inl rfl | exact Or.inr rfl) (pe_tup (pa_cons (pe_fld (pv 0) rfl) (pa_cons (pe_fld (pv 0) rfl) (pa_cons (pe_fld (pv 0) rfl) (pa_cons (pe_fld (pv 0) rfl) pa_nil)))))) (pss_one (ps_ret (pe_op (op_addU (K := K)) (pv 1) (pe_tup (pa_cons (pe_fld (pv 0) rfl) (pa_cons (pe_fld (pv 0) rfl) (pa_cons (pe_fld (pv 0) rfl) (pa_cons (pe_fld (pv 0) rfl) pa_nil))))))))), ?_⟩
  exact (ss_seq (ss_set (se_tup (sa_cons (se_fld (by decide +kernel) ⟨⟨T.cl_Packet, T.n_Packet_source⟩, trivial⟩ se_var) (sa_cons (se_fld (by decide +kernel) ⟨⟨T.cl_Packet, T.n_Packet_target⟩, trivial⟩ se_var) (sa_cons (se_fld (by decide +kernel) ⟨⟨T.cl_Packet, T.n_Packet_kind⟩, trivial⟩ se_var) (sa_cons (se_fld (by decide +kernel) ⟨⟨T.cl_Packet, T.n_Packet_life⟩, trivial⟩ se_var) sa_nil)))))) (ss_ret (se_op os_add se_var (se_tup (sa_cons (se_fld (by decide +kernel) ⟨⟨T.cl_Packet, T.n_Packet_name⟩, trivial⟩ se_var) (sa_cons (se_fld (by decide +kernel) ⟨⟨T.cl_Packet, T.n_Packet_first⟩, trivial⟩ se_var) (sa_cons (se_fld (by decide +kernel) ⟨⟨T.cl_Packet, T.n_Packet_more⟩, trivial⟩ se_var) (sa_cons (se_fld (by decide +kernel) ⟨⟨T.cl_Packet, T.n_Packet_data⟩, trivial⟩ se_var) sa_nil))))))))
abbrev s_l_next : Stmt := topS 24
abbrev N_l_next : List Str := ["_law_state_here", "_law_size", "_law_found", "_law_mixed"]
theorem sc_l_next : FnScope N_l_next ["_law_state_here", "_law_size"] (defScope s_l_next) := ⟨rfl, rfl, rfl, by decide +kernel, rfl, by decide +kernel, by decide +kernel⟩
theorem ok_l_next {P : Program} {w : World} {K : PySem.W.Frag} {mg : Str → Option Value} {base : Heap} {a : Addr} {fd : FuncData} {ca : CaT} (T : Txt K mg ca) (F : Fun K "_law_next" "_law_next" s_l_next a fd)  :
    FnOk P w K mg base (L2.CX P w) 1 a fd ["_law_state_here", "_law_size"] (SpF K ca F_l_next) := by
  refine SM.Fn.ofF F sc_l_next rfl fun cdv A outer s H E hr => ?_
  have nd := sc_l_next.nd
  refine ⟨_, (pss_cons (ps_if (pt_cmpR op_gtU (pe_ix (ix_U (K := K)) (pv 0) pe_int (fun _ _ => rfl)) pe_int (nomark _)) (pss_cons (ps_set (i := 2) nd rfl (by first | exact Or.inl rfl | exact Or.inr rfl) (pe_op op_modU (pe_ix (ix_U (K := K)) (pv 0) pe_int (fun _ _ => rfl)) (pv 1))) (pss_cons (PS.or (ps_asg (pe_op op_divU (pe_ix (ix_U (K := K)) (pv 0) pe_int (fun _ _ => rfl)) (pv 1)) (pg_sub (pv 0) pe_int set_list)) (ps_dput (DL.room65w hr) (pv 0) pe_int (pe_op op_divU (pe_ix (ix_U (K := K)) (pv 0) pe_int (fun _ _ => rfl)) (pv 1)) rfl)) (pss_one (ps_ret (pv 2))))) pss_nil) (pss_cons (PS.or (ps_asg (pe_op op_modU (pe_op (op_addU (K := K)) (pe_op (op_mulA (K := K)) (pe_ix (ix_U (K := K)) (pv 0) pe_int (fun _ _ => rfl)) pe_int) pe_int) pe_int) (pg_sub (pv 0) pe_int set_list)) (ps_dput (DL.room65w hr) (pv 0) pe_int (pe_op op_modU (pe_op (op_addU (K := K)) (pe_op (op_mulA (K := K)) (pe_ix (ix_U (K := K)) (pv 0) pe_int (fun _ _ => rfl)) pe_int) pe_int) pe_int) rfl)) (pss_cons (ps_set (i := 3) nd rfl (by first | exact Or.inl rfl | exact Or.inr rfl) (pe_op op_modU (pe_op (op_mulA (K := K)) (pe_ix (ix_U (K := K)) (pv 0) pe_int (fun _ _ => rfl)) (pe_ix (ix_U (K := K)) (pv 0) pe_int (fun _ _ => rfl))) pe_int)) (pss_one (ps_ret (pe_op op_modU (pe_op op_divU (pe_op op_modU (pe_op (op_addU (K := K)) (pe_op (op_mulA (K := K)) (pv 3) pe_int) (pe_ix (ix_U (K := K)) (pv 0) pe_int (fun _ _ => rfl))) pe_int) pe_int) (pv 1))))))), ?_⟩
  exact (ss_seq (ss_if (st_test (se_op os_gt (se_op os_ix se_var se_int) se_int)) (ss_seq (ss_set (se_op os_mod (se_op os_ix se_var se_int) se_var)) (ss_seq (ss_put se_var se_int (se_op os_div (se_op os_ix se_var se_int) se_var)) (ss_ret se_var))) ss_next) (ss_seq (ss_put se_var se_int (se_op os_mod (se_op os_add (se_op os_mul (se_op os_ix se_var se_int) se_int) se_int) se_int)) (ss_seq (ss_set (se_op os_mod (se_op os_mul (se_op os_ix se_var se_int) (se_op os_ix se_var se_int)) se_int)) (ss_ret (se_op os_mod (se_op os_div (se_op os_mod (se_op os_add (se_op os_mul se_var se_int) (se_op os_ix se_var se_int)) se_int) se_int) se_var)))))
abbrev s_piece_of : Stmt := topS 19
abbrev N_piece_of : List Str := ["packet", "begin", "end", "more", "head"]
theorem sc_piece_of : FnScope N_piece_of ["packet", "begin", "end", "more"] (defScope s_piece_of) := ⟨rfl, rfl, rfl, by decide +kernel, rfl, by decide +kernel, by decide +kernel⟩
theorem ok_piece_of {P : Program} {w : World} {K : PySem.W.Frag} {mg : Str → Option Value} {base : Heap} {a : Addr} {fd : FuncData} {ca : CaT} (T : Txt K mg ca) (F : Fun K "piece_of" "piece_of" s_piece_of a fd) (M_Packet : Mx P w K mg base 3 "Packet" (ca "Packet") (SpF K ca F_Packet___init__)) :
    FnOk P w K mg base (L2.CX P w) 5 a fd ["packet", "begin", "end", "more"] (SpF K ca F_piece_of) := by
  refine SM.Fn.ofF F sc_piece_of rfl fun cdv A outer s H E hr => ?_
  have nd := sc_piece_of.nd
  refine ⟨_, (pss_cons (ps_set (i := 4) nd rfl (by first | exact Or.inl rfl | exact Or.inr rfl) (pe_tup (pa_cons (pe_fld (pv 0) rfl) (pa_cons (pe_fld (pv 0) rfl) (pa_cons (pe_fld (pv 0) rfl) (pa_cons (pe_fld (pv 0) rfl) (pa_cons (pe_fld (pv 0) rfl) pa_nil))))))) (pss_one (ps_ret (pe_mx M_Packet (takes_of rfl rfl rfl rfl) hr (by decide) rfl (pa_cons (pe_ix (ix_U (K := K)) (pv 4) pe_int (fun _ _ => rfl)) (pa_cons (pe_ix (ix_U (K := K)) (pv 4) pe_int (fun _ _ => rfl)) (pa_cons (pe_ix (ix_U (K := K)) (pv 4) pe_int (fun _ _ => rfl)) (pa_cons (pe_ix (ix_U (K := K)) (pv 4) pe_int (fun _ _ => rfl)) (pa_cons (pe_ix (ix_U (K := K)) (pv 4) pe_int (fun _ _ => rfl)) (pa_cons (pe_op (op_addU (K := K)) (pe_fld (pv 0) rfl) (pv 1)) (pa_cons (pv 3) (pa_cons (pe_slice (sl_U (K := K)) (pe_fld (pv 0) rfl) (po_some (pv 1)) (po_some (pv 2))) pa_nil)))))))))))), ?_⟩
  exact (ss_seq (ss_set (se_tup (sa_cons (se_fld (by decide +kernel) ⟨⟨T.cl_Packet, T.n_Packet_source⟩, trivial⟩ se_var) (sa_cons (se_fld (by decide +kernel) ⟨⟨T.cl_Packet, T.n_Packet_target⟩, trivial⟩ se_var) (sa_cons (se_fld (by decide +kernel) ⟨⟨T.cl_Packet, T.n_Packet_kind⟩, trivial⟩ se_var) (sa_cons (se_fld (by decide +kernel) ⟨⟨T.cl_Packet, T.n_Packet_life⟩, trivial⟩ se_var) (sa_cons (se_fld (by decide +kernel) ⟨⟨T.cl_Packet, T.n_Packet_name⟩, trivial⟩ se_var) sa_nil))))))) (ss_ret (se_make (sa_cons (se_op os_ix se_var se_int) (sa_cons (se_op os_ix se_var se_int) (sa_cons (se_op os_ix se_var se_int) (sa_cons (se_op os_ix se_var se_int) (sa_cons (se_op os_ix se_var se_int) (sa_cons (se_op os_add (se_fld (by decide +kernel) ⟨⟨T.cl_Packet, T.n_Packet_first⟩, trivial⟩ se_var) se_var) (sa_cons se_var (sa_cons (se_sl sls_all (se_fld (by decide +kernel) ⟨⟨T.cl_Packet, T.n_Packet_data⟩, trivial⟩ se_var) (so_some se_var) (so_some se_var)) sa_nil)))))))))))
abbrev s_cut : Stmt := topS 20
abbrev N_cut : List Str := ["packet", "most", "size", "found", "at"]
theorem sc_cut : FnScope N_cut ["packet", "most"] (defScope s_cut) := ⟨rfl, rfl, rfl, by decide +kernel, rfl, by decide +kernel, by decide +kernel⟩
theorem ok_cut {P : Program} {w : World} {K : PySem.W.Frag} {mg : Str → Option Value} {base : Heap} {a : Addr} {fd : FuncData} {ca : CaT} (T : Txt K mg ca) (F : Fun K "cut" "cut" s_cut a fd) (C_piece_of : Dx P w K mg base 5 "piece_of" (SpF K ca F_piece_of)) :
    FnOk P w K mg base (L2.CX P w) 6 a fd ["packet", "most"] (SpF K ca F_cut) := by
  refine SM.Fn.ofF F sc_cut rfl fun cdv A outer s H E hr => ?_
  have nd := sc_cut.nd
  refine ⟨_, (pss_cons (ps_if (PW.pt (pw_or (pt_val (pe_callB (call_isiA (K := K)) (by rfl) T.b_isinstance (by decide +kernel) (pa_cons (pv 1) (pa_cons (pe_bltn (v := .ty "bool") (by rfl) T.b_bool (by decide +kernel) rfl) pa_nil)))) (pw_or (pt_not (pt_val (pe_callB (call_isiA (K := K)) (by rfl) T.b_isinstance (by decide +kernel) (pa_cons (pv 1) (pa_cons (pe_bltn (v := .ty "int") (by rfl) T.b_int (by decide +kernel) rfl) pa_nil))))) (pw_or1 (pt_cmpR op_ltU (pv 1) (pe_glob (v := .int 22) rfl T.c_LEAST.choose_spec ⟨_, rfl⟩) (nomark _)))))) (pss_one (DL.ps_raiseC rfl (takes_of rfl rfl rfl rfl) (pmk_own PySem.F.excBase_ValueError T.e_NoNumber T.g_NoNumber T.k_NoNumber (raises_own T.b_NoNumber T.t_NoNumber) rfl))) pss_nil) (pss_cons (ps_set (i := 2) nd rfl (by first | exact Or.inl rfl | exact Or.inr rfl) (pe_op (op_mulA (K := K)) (pe_op op_divU (pe_op op_subU (pv 1) (pe_glob (v := .int 14) rfl T.c_HEAD.choose_spec ⟨_, rfl⟩)) pe_int) pe_int)) (pss_cons (ps_set (i := 3) nd rfl (by first | exact Or.inl rfl | exact Or.inr rfl) (pe_lst pa_nil)) (pss_cons (ps_set (i := 4) nd rfl (by first | exact Or.inl rfl | exact Or.inr rfl) pe_int) (pss_cons (ps_while (passes_of rfl) (pt_cmpR op_gtU (pe_op op_subU (pe_op (op_addU (K := K)) (pe_glob (v := .int 14) rfl T.c_HEAD.choose_spec ⟨_, rfl⟩) (pe_callB (call_lenU (K := K)) (by rfl) T.b_len (by decide +kernel) (pa_cons (pe_fld (pv 0) rfl) pa_nil))) (pv 4)) (pv 1) (nomark _)) (pss_cons (ps_expr (pe_bm PySem.F.plainAttrs_list PySem.F.slot_list_append PySem.F.type_list_append mt_append (pv 3) (pa_cons (pe_dx C_piece_of (takes_of rfl rfl rfl rfl) hr (by decide) rfl (pa_cons (pv 0) (pa_cons (pv 4) (pa_cons (pe_op (op_addU (K := K)) (pv 4) (pv 2)) (pa_cons pe_bl pa_nil))))) pa_nil))) (pss_one (ps_aug (i := 4) nd rfl (by first | exact Or.inl rfl | exact Or.inr rfl) (pv 2) (ip_addA (K := K)))))) (pss_cons (ps_expr (pe_bm PySem.F.plainAttrs_list PySem.F.slot_list_append PySem.F.type_list_append mt_append (pv 3) (pa_cons (pe_dx C_piece_of (takes_of rfl rfl rfl rfl) hr (by decide) rfl (pa_cons (pv 0) (pa_cons (pv 4) (pa_cons (pe_callB (call_lenU (K := K)) (by rfl) T.b_len (by decide +kernel) (pa_cons (pe_fld (pv 0) rfl) pa_nil)) (pa_cons (pe_fld (pv 0) rfl) pa_nil))))) pa_nil))) (pss_one (ps_ret (pv 3))))))))), ?_⟩
  exact (ss_seq (ss_if (st_or (st_b (se_cb (cs_isi T.isO T.isX T.isT) (sa_cons se_var (sa_cons se_ty sa_nil)))) (st_or (st_not (st_b (se_cb (cs_isi T.isO T.isX T.isT) (sa_cons se_var (sa_cons se_ty sa_nil))))) (st_test (se_op os_lt se_var se_int)))) (ss_raise rfl) ss_next) (ss_seq (ss_set (se_op os_mul (se_op os_div (se_op os_sub se_var se_int) se_int) se_int)) (ss_seq (ss_set (se_lst sa_nil)) (ss_seq (ss_set se_int) (ss_seq (ss_while (st_test (se_op os_gt (se_op os_sub (se_op os_add se_int (se_cb cs_len (sa_cons (se_fld (by decide +kernel) ⟨⟨T.cl_Packet, T.n_Packet_data⟩, trivial⟩ se_var) sa_nil))) se_var) se_var)) (ss_seq (ss_drop (se_bl_ ms_append se_var (sa_cons (se_call (sa_cons se_var (sa_cons se_var (sa_cons (se_op os_add se_var se_var) (sa_cons se_bl sa_nil))))) sa_nil))) (ss_aug ips_add se_var))) (ss_seq (ss_drop (se_bl_ ms_append se_var (sa_cons (se_call (sa_cons se_var (sa_cons se_var (sa_cons (se_cb cs_len (sa_cons (se_fld (by decide +kernel) ⟨⟨T.cl_Packet, T.n_Packet_data⟩, trivial⟩ se_var) sa_nil)) (sa_cons (se_fld (by decide +kernel) ⟨⟨T.cl_Packet, T.n_Packet_more⟩, trivial⟩ se_var) sa_nil))))) sa_nil))) (ss_ret se_var)))))))
abbrev s_l_cut : Stmt := topS 29
abbrev N_l_cut : List Str := ["_law_packet", "_law_state_here", "_law_found", "_law_piece", "_law_some", "_law_one", "_law_row"]
theorem sc_l_cut : FnScope N_l_cut ["_law_packet", "_law_state_here"] (defScope s_l_cut) := ⟨rfl, rfl, rfl, by decide +kernel, rfl, by decide +kernel, by decide +kernel⟩
theorem ok_l_cut {P : Program} {w : World} {K : PySem.W.Frag} {mg : Str → Option Value} {base : Heap} {a : Addr} {fd : FuncData} {ca : CaT} (T : Txt K mg ca) (F : Fun K "_law_cut" "_law_cut" s_l_cut a fd) (M_Packet_told : SM.Mt P w K mg base 1 (ca "Packet") "told" (SpF K ca F_Packet_told)) (C_l_next : Dx P w K mg base 1 "_law_next" (SpF K ca F_l_next)) (C_cut : Dx P w K mg base 6 "cut" (SpF K ca F_cut)) :
    FnOk P w K mg base (L2.CX P w) 7 a fd ["_law_packet", "_law_state_here"] (SpF K ca F_l_cut) := by
  refine SM.Fn.ofF F sc_l_cut rfl fun cdv A outer s H E hr => ?_
  have nd := sc_l_cut.nd
  refine ⟨_, (pss_cons (ps_set (i := 2) nd rfl (by first | exact Or.inl rfl | exact Or.inr rfl) (pe_lst pa_nil)) (pss_cons (ps_for (passes_of rfl) rfl (pi_seqU (K := K) (pe_dx C_cut (takes_of rfl rfl rfl rfl) hr (by decide) rfl (pa_cons (pv 0) (pa_cons (pe_op (op_addU (K := K)) pe_int (pe_dx C_l_next (takes_of rfl rfl rfl rfl) hr (by decide) rfl (pa_cons (pv 1) (pa_cons (pe_ix (ix_U (K := K)) (pe_lst (pa_cons pe_int (pa_cons pe_int pa_nil))) (pe_callTy call_intU (by rfl) T.b_int (by decide +kernel) (pa_cons (pe_cmpR op_gtU (pe_callB (call_lenU (K := K)) (by rfl) T.b_len (by decide +kernel) (pa_cons (pe_fld (pv 0) rfl) pa_nil)) pe_int (nomark _)) pa_nil)) (fun _ _ => rfl)) pa_nil)))) pa_nil)))) (pg_name (i := 3) nd rfl (by first | exact Or.inl rfl | exact Or.inr rfl)) (pss_cons (ps_set (i := 4) nd rfl (by first | exact Or.inl rfl | exact Or.inr rfl) (pe_lst (pa_cons (pv 3) pa_nil))) (pss_cons (ps_if (pt_cmpR (op_eqPK (K := K) (DL.room65 hr)) (pe_dx C_l_next (takes_of rfl rfl rfl rfl) hr (by decide) rfl (pa_cons (pv 1) (pa_cons pe_int pa_nil))) pe_int (nomark _)) (pss_one (ps_set (i := 4) nd rfl (by first | exact Or.inl rfl | exact Or.inr rfl) (pe_dx C_cut (takes_of rfl rfl rfl rfl) hr (by decide) rfl (pa_cons (pv 3) (pa_cons (pe_op (op_addU (K := K)) pe_int (pe_dx C_l_next (takes_of rfl rfl rfl rfl) hr (by decide) rfl (pa_cons (pv 1) (pa_cons (pe_ix (ix_U (K := K)) (pe_lst (pa_cons pe_int (pa_cons pe_int pa_nil))) (pe_callTy call_intU (by rfl) T.b_int (by decide +kernel) (pa_cons (pe_cmpR op_gtU (pe_callB (call_lenU (K := K)) (by rfl) T.b_len (by decide +kernel) (pa_cons (pe_fld (pv 0) rfl) pa_nil)) pe_int (nomark _)) pa_nil)) (fun _ _ => rfl)) pa_nil)))) pa_nil))))) pss_nil) (pss_one (ps_for (passes_of rfl) rfl (pi_seqU (K := K) (pv 4)) (pg_name (i := 5) nd rfl (by first | exact Or.inl rfl | exact Or.inr rfl)) (pss_cons (ps_set (i := 6) nd rfl (by first | exact Or.inl rfl | exact Or.inr rfl) (pe_mtX0 M_Packet_told (takes_of rfl rfl rfl rfl) hr (by decide) T.cl_Packet (pv 5))) (pss_cons (ps_if (PW.pt (pw_and (pt_cmpR op_gtU (pe_ix (ix_U (K := K)) (pv 6) pe_int (fun _ _ => rfl)) pe_int (nomark _)) (pw_and1 (pt_cmpR (op_eqPK (K := K) (DL.room65 hr)) (pe_dx C_l_next (takes_of rfl rfl rfl rfl) hr (by decide) rfl (pa_cons (pv 1) (pa_cons pe_int pa_nil))) pe_int (nomark _))))) (pss_one (ps_set (i := 6) nd rfl (by first | exact Or.inl rfl | exact Or.inr rfl) (pe_op (op_addU (K := K)) (pe_op (op_addU (K := K)) (pe_slice (sl_U (K := K)) (pv 6) po_none (po_some pe_int)) (pe_tup (pa_cons (pe_op op_subU (pe_ix (ix_U (K := K)) (pv 6) pe_int (fun _ _ => rfl)) pe_int) pa_nil))) (pe_slice (sl_U (K := K)) (pv 6) (po_some pe_int) po_none)))) pss_nil) (pss_one (ps_expr (pe_bm PySem.F.plainAttrs_list PySem.F.slot_list_append PySem.F.type_list_append mt_append (pv 2) (pa_cons (pv 6) pa_nil))))))))))) (pss_one (ps_ret (pv 2))))), ?_⟩
  exact (ss_seq (ss_set (se_lst sa_nil)) (ss_seq (ss_for (sw_seq (se_call (sa_cons se_var (sa_cons (se_op os_add se_int (se_call (sa_cons se_var (sa_cons (se_op os_ix (se_lst (sa_cons se_int (sa_cons se_int sa_nil))) (se_cb cs_int (sa_cons (se_op os_gt (se_cb cs_len (sa_cons (se_fld (by decide +kernel) ⟨⟨T.cl_Packet, T.n_Packet_data⟩, trivial⟩ se_var) sa_nil)) se_int) sa_nil))) sa_nil)))) sa_nil)))) sg_name (ss_seq (ss_set (se_lst (sa_cons se_var sa_nil))) (ss_seq (ss_if (st_test (se_op os_eq (se_call (sa_cons se_var (sa_cons se_int sa_nil))) se_int)) (ss_set (se_call (sa_cons se_var (sa_cons (se_op os_add se_int (se_call (sa_cons se_var (sa_cons (se_op os_ix (se_lst (sa_cons se_int (sa_cons se_int sa_nil))) (se_cb cs_int (sa_cons (se_op os_gt (se_cb cs_len (sa_cons (se_fld (by decide +kernel) ⟨⟨T.cl_Packet, T.n_Packet_data⟩, trivial⟩ se_var) sa_nil)) se_int) sa_nil))) sa_nil)))) sa_nil)))) ss_next) (ss_for (sw_seq se_var) sg_name (ss_seq (ss_set (meth_one (by decide +kernel) se_var sa_nil)) (ss_seq (ss_if (st_and (st_test (se_op os_gt (se_op os_ix se_var se_int) se_int)) (st_test (se_op os_eq (se_call (sa_cons se_var (sa_cons se_int sa_nil))) se_int))) (ss_set (se_op os_add (se_op os_add (se_sl sls_all se_var so_none (so_some se_int)) (se_tup (sa_cons (se_op os_sub (se_op os_ix se_var se_int) se_int) sa_nil))) (se_sl sls_all se_var (so_some se_int) so_none))) ss_next) (ss_drop (se_bl_ ms_append se_var (sa_cons se_var sa_nil))))))))) (ss_ret se_var)))
abbrev s_l_head : Stmt := topS 26
abbrev N_l_head : List Str := ["_law_state_here", "_law_found", "_law_k"]
theorem sc_l_head : FnScope N_l_head ["_law_state_here"] (defScope s_l_head) := ⟨rfl, rfl, rfl, by decide +kernel, rfl, by decide +kernel, by decide +kernel⟩
theorem ok_l_head {P : Program} {w : World} {K : PySem.W.Frag} {mg : Str → Option Value} {base : Heap} {a : Addr} {fd : FuncData} {ca : CaT} (T : Txt K mg ca) (F : Fun K "_law_head" "_law_head" s_l_head a fd) (C_l_next : Dx P w K mg base 1 "_law_next" (SpF K ca F_l_next)) :
    FnOk P w K mg base (L2.CX P w) 2 a fd ["_law_state_here"] (SpF K ca F_l_head) := by
  refine SM.Fn.ofF F sc_l_head rfl fun cdv A outer s H E hr => ?_
  have nd := sc_l_head.nd
  refine ⟨_, (pss_cons (ps_setLc (i := 1) (own := [("_law_k", 2)]) (g := (gName 2)) rfl nd rfl rfl (sw_true rfl rfl rfl (by decide +kernel)) (pi_range1 rfl T.b_range (pa_cons pe_int pa_nil)) (blkOk_by (own := [("_law_k", 2)]) (N := N_l_head) (sc := defScope s_l_head) (by decide +kernel)) (fun _ _ _ _ _ => (pg_name (i := 2) nd rfl (by first | exact Or.inl rfl | exact Or.inr rfl))) (fun _ _ _ _ _ => pts_nil) (fun _ _ _ _ _ => (pe_dx0 C_l_next hr (by decide) rfl (pa_cons (pv 0) (pa_cons pe_int pa_nil))))) (pss_one (ps_ret (pe_op (op_addU (K := K)) (pv 1) (pe_lst (pa_cons (pe_ix (ix_U (K := K)) (pe_lst (pa_cons (pe_dx C_l_next (takes_of rfl rfl rfl rfl) hr (by decide) rfl (pa_cons (pv 0) (pa_cons pe_int pa_nil))) (pa_cons pe_int (pa_cons pe_int pa_nil)))) (pe_dx C_l_next (takes_of rfl rfl rfl rfl) hr (by decide) rfl (pa_cons (pv 0) (pa_cons pe_int pa_nil))) (fun _ _ => rfl)) pa_nil)))))), ?_⟩
  exact (ss_seq (ss_set (se_lc (W2 := fun _ _ _ _ => False) (sw_r1 (sa_cons se_int sa_nil)) sg_name (by decide) st_yes (se_call0 (sa_cons se_var (sa_cons se_int sa_nil))))) (ss_ret (se_op os_add se_var (se_lst (sa_cons (se_op os_ix (se_lst (sa_cons (se_call (sa_cons se_var (sa_cons se_int sa_nil))) (sa_cons se_int (sa_cons se_int sa_nil)))) (se_call (sa_cons se_var (sa_cons se_int sa_nil)))) sa_nil)))))
abbrev s_l_order : Stmt := topS 30
abbrev N_l_order : List Str := ["_law_rows", "_law_state_here", "_law_k", "_law_found", "_law_row"]
theorem sc_l_order : FnScope N_l_order ["_law_rows", "_law_state_here"] (defScope s_l_order) := ⟨rfl, rfl, rfl, by decide +kernel, rfl, by decide +kernel, by decide +kernel⟩
theorem ok_l_order {P : Program} {w : World} {K : PySem.W.Frag} {mg : Str → Option Value} {base : Heap} {a : Addr} {fd : FuncData} {ca : CaT} (T : Txt K mg ca) (F : Fun K "_law_order" "_law_order" s_l_order a fd) (C_l_next : Dx P w K mg base 1 "_law_next" (SpF K ca F_l_next)) :
    FnOk P w K mg base (L2.CX P w) 2 a fd ["_law_rows", "_law_state_here"] (SpF K ca F_l_order) := by
  refine SM.Fn.ofF F sc_l_order rfl fun cdv A outer s H E hr => ?_
  have nd := sc_l_order.nd
  refine ⟨_, (pss_cons (ps_set (i := 0) nd rfl (by first | exact Or.inl rfl | exact Or.inr rfl) (pe_op (op_addU (K := K)) (pv 0) (pe_lc (own := [("_law_k", 2)]) (g := (gName 2)) rfl nd (pi_range1 rfl T.b_range (pa_cons (pe_dx C_l_next (takes_of rfl rfl rfl rfl) hr (by decide) rfl (pa_cons (pv 1) (pa_cons pe_int pa_nil))) pa_nil)) (blkOk_by (own := [("_law_k", 2)]) (N := N_l_order) (sc := defScope s_l_order) (by decide +kernel)) (fun _ _ _ _ _ => (pg_name (i := 2) nd rfl (by first | exact Or.inl rfl | exact Or.inr rfl))) (fun _ _ _ _ _ => pts_nil) (fun _ _ _ _ _ => (pe_ix (ix_U (K := K)) (pv 0) (pe_dx0 C_l_next hr (by decide) rfl (pa_cons (pv 1) (pa_cons (pe_callB (call_lenU (K := K)) (by rfl) T.b_len (by decide +kernel) (pa_cons (pv 0) pa_nil)) pa_nil))) (fun _ _ => rfl)))))) (pss_cons (ps_set (i := 3) nd rfl (by first | exact Or.inl rfl | exact Or.inr rfl) (pe_lst pa_nil)) (pss_cons (ps_for (passes_of rfl) rfl (pi_seqU (K := K) (pv 0)) (pg_name (i := 4) nd rfl (by first | exact Or.inl rfl | exact Or.inr rfl)) (pss_one (ps_expr (pe_bm PySem.F.plainAttrs_list PySem.F.slot_list_insert PySem.F.type_list_insert mt_ins (pv 3) (pa_cons (pe_dx C_l_next (takes_of rfl rfl rfl rfl) hr (by decide) rfl (pa_cons (pv 1) (pa_cons (pe_op (op_addU (K := K)) (pe_callB (call_lenU (K := K)) (by rfl) T.b_len (by decide +kernel) (pa_cons (pv 3) pa_nil)) pe_int) pa_nil))) (pa_cons (pv 4) pa_nil)))))) (pss_one (ps_ret (pv 3)))))), ?_⟩
  exact (ss_seq (ss_set (se_op os_add se_var (se_lc (W2 := fun _ _ _ _ => False) (sw_r1 (sa_cons (se_call (sa_cons se_var (sa_cons se_int sa_nil))) sa_nil)) sg_name (by decide) st_yes (se_op os_ix se_var (se_call0 (sa_cons se_var (sa_cons (se_cb cs_len (sa_cons se_var sa_nil)) sa_nil))))))) (ss_seq (ss_set (se_lst sa_nil)) (ss_seq (ss_for (sw_seq se_var) sg_name (ss_drop (se_bl_ ms_insert se_var (sa_cons (se_call (sa_cons se_var (sa_cons (se_op os_add (se_cb cs_len (sa_cons se_var sa_nil)) se_int) sa_nil))) (sa_cons se_var sa_nil))))) (ss_ret se_var))))
abbrev s_l_packet_of : Stmt := topS 27
abbrev N_l_packet_of : List Str := ["_law_row"]
theorem sc_l_packet_of : FnScope N_l_packet_of ["_law_row"] (defScope s_l_packet_of) := ⟨rfl, rfl, rfl, by decide +kernel, rfl, by decide +kernel, by decide +kernel⟩
theorem ok_l_packet_of {P : Program} {w : World} {K : PySem.W.Frag} {mg : Str → Option Value} {base : Heap} {a : Addr} {fd : FuncData} {ca : CaT} (T : Txt K mg ca) (F : Fun K "_law_packet_of" "_law_packet_of" s_l_packet_of a fd) (M_Packet : Mx P w K mg base 3 "Packet" (ca "Packet") (SpF K ca F_Packet___init__)) :
    FnOk P w K mg base (L2.CX P w) 5 a fd ["_law_row"] (SpF K ca F_l_packet_of) := by
  refine SM.Fn.ofF F sc_l_packet_of rfl fun cdv A outer s H E hr => ?_
  have nd := sc_l_packet_of.nd
  refine ⟨_, (pss_one (ps_ret (pe_mx M_Packet (takes_of rfl rfl rfl rfl) hr (by decide) rfl (pa_cons (pe_ix (ix_U (K := K)) (pv 0) pe_int (fun _ _ => rfl)) (pa_cons (pe_ix (ix_U (K := K)) (pv 0) pe_int (fun _ _ => rfl)) (pa_cons (pe_ix (ix_U (K := K)) (pv 0) pe_int (fun _ _ => rfl)) (pa_cons (pe_ix (ix_U (K := K)) (pv 0) pe_int (fun _ _ => rfl)) (pa_cons (pe_ix (ix_U (K := K)) (pv 0) pe_int (fun _ _ => rfl)) (pa_cons (pe_ix (ix_U (K := K)) (pv 0) pe_int (fun _ _ => rfl)) (pa_cons (pe_ix (ix_U (K := K)) (pv 0) pe_int (fun _ _ => rfl)) (pa_cons (pe_ix (ix_U (K := K)) (pv 0) pe_int (fun _ _ => rfl)) pa_nil))))))))))), ?_⟩
  exact (ss_ret (se_make (sa_cons (se_op os_ix se_var se_int) (sa_cons (se_op os_ix se_var se_int) (sa_cons (se_op os_ix se_var se_int) (sa_cons (se_op os_ix se_var se_int) (sa_cons (se_op os_ix se_var se_int) (sa_cons (se_op os_ix se_var se_int) (sa_cons (se_op os_ix se_var se_int) (sa_cons (se_op os_ix se_var se_int) sa_nil))))))))))
abbrev s_l_same : Stmt := topS 28
abbrev N_l_same : List Str := ["_law_found", "_law_due", "_law_told", "_law_k", "_law_byte"]
theorem sc_l_same : FnScope N_l_same ["_law_found", "_law_due"] (defScope s_l_same) := ⟨rfl, rfl, rfl, by decide +kernel, rfl, by decide +kernel, by decide +kernel⟩
theorem ok_l_same {P : Program} {w : World} {K : PySem.W.Frag} {mg : Str → Option Value} {base : Heap} {a : Addr} {fd : FuncData} {ca : CaT} (T : Txt K mg ca) (F : Fun K "_law_same" "_law_same" s_l_same a fd) (M_Packet_told : SM.Mt P w K mg base 1 (ca "Packet") "told" (SpF K ca F_Packet_told)) :
    FnOk P w K mg base (L2.CX P w) 2 a fd ["_law_found", "_law_due"] (SpF K ca F_l_same) := by
  refine SM.Fn.ofF F sc_l_same rfl fun cdv A outer s H E hr => ?_
  have nd := sc_l_same.nd
  refine ⟨_, (pss_cons (ps_if (PW.pt (pw_or (pt_cmpR op_isU (pv 1) pe_non (nomark _)) (pw_or1 (pt_not (pt_val (pe_callB (call_isiA (K := K)) (by rfl) T.b_isinstance (by decide +kernel) (pa_cons (pv 0) (pa_cons (pe_glob (v := .ref (ca "Packet")) rfl T.g_Packet rfl) pa_nil)))))))) (pss_one (ps_ret (pe_and (pe_cmpR op_isU (pv 1) pe_non (nomark _)) (pe_one (pe_cmpR op_isU (pv 0) pe_non (nomark _)))))) pss_nil) (pss_cons (ps_set (i := 2) nd rfl (by first | exact Or.inl rfl | exact Or.inr rfl) (pe_mtX0 M_Packet_told (takes_of rfl rfl rfl rfl) hr (by decide) T.cl_Packet (pv 0))) (pss_cons (ps_if (PW.pt (pw_or (pt_not (pt_val (pe_callB (call_isiA (K := K)) (by rfl) T.b_isinstance (by decide +kernel) (pa_cons (pv 2) (pa_cons (pe_bltn (v := .ty "tuple") (by rfl) T.b_tuple (by decide +kernel) rfl) pa_nil))))) (pw_or (pt_cmpR (op_nePK (K := K) (DL.room65 hr)) (pv 2) (pv 1) (nomark _)) (pw_or1 (pt_not (pt_val (pe_callB (call_isiA (K := K)) (by rfl) T.b_isinstance (by decide +kernel) (pa_cons (pe_ix (ix_U (K := K)) (pv 2) pe_int (fun _ _ => rfl)) (pa_cons (pe_bltn (v := .ty "tuple") (by rfl) T.b_tuple (by decide +kernel) rfl) pa_nil))))))))) (pss_one (ps_ret pe_bl)) pss_nil) (pss_cons (ps_if (pt_cmpR (op_nePK (K := K) (DL.room65 hr)) (pe_lc (own := [("_law_k", 3)]) (g := (gName 3)) rfl nd (pi_range1 rfl T.b_range (pa_cons pe_int pa_nil)) (blkOk_by (own := [("_law_k", 3)]) (N := N_l_same) (sc := defScope s_l_same) (by decide +kernel)) (fun _ _ _ _ _ => (pg_name (i := 3) nd rfl (by first | exact Or.inl rfl | exact Or.inr rfl))) (fun _ _ _ _ _ => (pts_one (pt_cmpR (op_nePK (K := K) (DL.room65 hr)) (pe_callB (call_isiA (K := K)) (by rfl) T.b_isinstance (by decide +kernel) (pa_cons (pe_ix (ix_U (K := K)) (pv 2) (pv 3) (fun _ _ => rfl)) (pa_cons (pe_bltn (v := .ty "bool") (by rfl) T.b_bool (by decide +kernel) rfl) pa_nil))) (pe_cmpR (op_eqPK (K := K) (DL.room65 hr)) (pv 3) pe_int (nomark _)) (nomark _)))) (fun _ _ _ _ _ => (pv 3))) (pe_lst pa_nil) (nomark _)) (pss_one (ps_ret pe_bl)) pss_nil) (pss_one (ps_ret (pe_cmpR (op_eqPK (K := K) (DL.room65 hr)) (pe_lc (own := [("_law_byte", 4)]) (g := (gName 4)) rfl nd (pi_seqU (K := K) (pe_ix (ix_U (K := K)) (pv 2) pe_int (fun _ _ => rfl))) (blkOk_by (own := [("_law_byte", 4)]) (N := N_l_same) (sc := defScope s_l_same) (by decide +kernel)) (fun _ _ _ _ _ => (pg_name (i := 4) nd rfl (by first | exact Or.inl rfl | exact Or.inr rfl))) (fun _ _ _ _ _ => (pts_one (pt_val (pe_callB (call_isiA (K := K)) (by rfl) T.b_isinstance (by decide +kernel) (pa_cons (pv 4) (pa_cons (pe_bltn (v := .ty "bool") (by rfl) T.b_bool (by decide +kernel) rfl) pa_nil)))))) (fun _ _ _ _ _ => (pv 4))) (pe_lst pa_nil) (nomark _)))))))), ?_⟩
  exact (ss_seq (ss_if (st_or (st_test (se_op os_is se_var se_non)) (st_not (st_b (se_cb (cs_isi T.isO T.isX T.isT) (sa_cons se_var (sa_cons (se_nm rfl) sa_nil)))))) (ss_ret (se_and (se_op os_is se_var se_non) (se_op os_is se_var se_non))) ss_next) (ss_seq (ss_set (meth_one (by decide +kernel) se_var sa_nil)) (ss_seq (ss_if (st_or (st_not (st_b (se_cb (cs_isi T.isO T.isX T.isT) (sa_cons se_var (sa_cons se_ty sa_nil))))) (st_or (st_test (se_op os_ne se_var se_var)) (st_not (st_b (se_cb (cs_isi T.isO T.isX T.isT) (sa_cons (se_op os_ix se_var se_int) (sa_cons se_ty sa_nil))))))) (ss_ret se_bl) ss_next) (ss_seq (ss_if (st_test (se_op os_ne (se_lc (W2 := fun _ _ _ _ => False) (sw_r1 (sa_cons se_int sa_nil)) sg_name (by decide) (st_test (se_op os_ne (se_cb (cs_isi T.isO T.isX T.isT) (sa_cons (se_op os_ix se_var se_var) (sa_cons se_ty sa_nil))) (se_op os_eq se_var se_int))) se_var) (se_lst sa_nil))) (ss_ret se_bl) ss_next) (ss_ret (se_op os_eq (se_lc (W2 := fun _ _ _ _ => False) (sw_seq (se_op os_ix se_var se_int)) sg_name (by decide) (st_b (se_cb (cs_isi T.isO T.isX T.isT) (sa_cons se_var (sa_cons se_ty sa_nil)))) se_var) (se_lst sa_nil)))))))
abbrev s_l_some_data : Stmt := topS 25
abbrev N_l_some_data : List Str := ["_law_state_here", "_law_most", "_law_many", "_law_k", "_law_first", "_law_step"]
theorem sc_l_some_data : FnScope N_l_some_data ["_law_state_here", "_law_most"] (defScope s_l_some_data) := ⟨rfl, rfl, rfl, by decide +kernel, rfl, by decide +kernel, by decide +kernel⟩
theorem ok_l_some_data {P : Program} {w : World} {K : PySem.W.Frag} {mg : Str → Option Value} {base : Heap} {a : Addr} {fd : FuncData} {ca : CaT} (T : Txt K mg ca) (F : Fun K "_law_some_data" "_law_some_data" s_l_some_data a fd) (C_l_next : Dx P w K mg base 1 "_law_next" (SpF K ca F_l_next)) :
    FnOk P w K mg base (L2.CX P w) 2 a fd ["_law_state_here", "_law_most"] (SpF K ca F_l_some_data) := by
  refine SM.Fn.ofF F sc_l_some_data rfl fun cdv A outer s H E hr => ?_
  have nd := sc_l_some_data.nd
  refine ⟨_, (pss_cons (ps_set (i := 2) nd rfl (by first | exact Or.inl rfl | exact Or.inr rfl) (pe_ix (ix_U (K := K)) (pe_lst (pa_cons (pe_dx C_l_next (takes_of rfl rfl rfl rfl) hr (by decide) rfl (pa_cons (pv 0) (pa_cons (pe_op (op_addU (K := K)) (pv 1) pe_int) pa_nil))) (pa_cons (pe_dx C_l_next (takes_of rfl rfl rfl rfl) hr (by decide) rfl (pa_cons (pv 0) (pa_cons pe_int pa_nil))) (pa_cons (pv 1) pa_nil)))) (pe_dx C_l_next (takes_of rfl rfl rfl rfl) hr (by decide) rfl (pa_cons (pv 0) (pa_cons pe_int pa_nil))) (fun _ _ => rfl))) (pss_cons (ps_if (PW.pt (pw_and (pt_cmpR op_ltU (pv 2) pe_int (nomark _)) (pw_and1 (pt_cmpR (op_eqPK (K := K) (DL.room65 hr)) (pe_dx C_l_next (takes_of rfl rfl rfl rfl) hr (by decide) rfl (pa_cons (pv 0) (pa_cons pe_int pa_nil))) pe_int (nomark _))))) (pss_one (ps_ret (pe_callTy (call_tupleU (K := K)) (by rfl) T.b_tuple (by decide +kernel) (pa_cons (pe_lc (own := [("_law_k", 3)]) (g := (gName 3)) rfl nd (pi_range1 rfl T.b_range (pa_cons (pv 2) pa_nil)) (blkOk_by (own := [("_law_k", 3)]) (N := N_l_some_data) (sc := defScope s_l_some_data) (by decide +kernel)) (fun _ _ _ _ _ => (pg_name (i := 3) nd rfl (by first | exact Or.inl rfl | exact Or.inr rfl))) (fun _ _ _ _ _ => pts_nil) (fun _ _ _ _ _ => (pe_dx0 C_l_next hr (by decide) rfl (pa_cons (pv 0) (pa_cons pe_int pa_nil))))) pa_nil)))) pss_nil) (pss_cons (ps_asg (pe_tup (pa_cons (pe_dx C_l_next (takes_of rfl rfl rfl rfl) hr (by decide) rfl (pa_cons (pv 0) (pa_cons pe_int pa_nil))) (pa_cons (pe_dx C_l_next (takes_of rfl rfl rfl rfl) hr (by decide) rfl (pa_cons (pv 0) (pa_cons pe_int pa_nil))) pa_nil))) (pg_tup rfl (pgs_cons (pg_name (i := 4) nd rfl (by first | exact Or.inl rfl | exact Or.inr rfl)) (pgs_cons (pg_name (i := 5) nd rfl (by first | exact Or.inl rfl | exact Or.inr rfl)) pgs_nil)))) (pss_one (ps_ret (pe_callTy (call_tupleU (K := K)) (by rfl) T.b_tuple (by decide +kernel) (pa_cons (pe_lc (own := [("_law_k", 3)]) (g := (gName 3)) rfl nd (pi_range1 rfl T.b_range (pa_cons (pv 2) pa_nil)) (blkOk_by (own := [("_law_k", 3)]) (N := N_l_some_data) (sc := defScope s_l_some_data) (by decide +kernel)) (fun _ _ _ _ _ => (pg_name (i := 3) nd rfl (by first | exact Or.inl rfl | exact Or.inr rfl))) (fun _ _ _ _ _ => pts_nil) (fun _ _ _ _ _ => (pe_op op_modU (pe_op (op_addU (K := K)) (pe_op (op_addU (K := K)) (pv 4) (pe_op (op_mulA (K := K)) (pv 5) (pv 3))) (pe_op op_divU (pe_op (op_mulA (K := K)) (pv 3) (pv 3)) pe_int)) pe_int))) pa_nil))))))), ?_⟩
  exact (ss_seq (ss_set (se_op os_ix (se_lst (sa_cons (se_call (sa_cons se_var (sa_cons (se_op os_add se_var se_int) sa_nil))) (sa_cons (se_call (sa_cons se_var (sa_cons se_int sa_nil))) (sa_cons se_var sa_nil)))) (se_call (sa_cons se_var (sa_cons se_int sa_nil))))) (ss_seq (ss_if (st_and (st_test (se_op os_lt se_var se_int)) (st_test (se_op os_eq (se_call (sa_cons se_var (sa_cons se_int sa_nil))) se_int))) (ss_ret (se_cb cs_tuple (sa_cons (se_lc (W2 := fun _ _ _ _ => False) (sw_r1 (sa_cons se_var sa_nil)) sg_name (by decide) st_yes (se_call0 (sa_cons se_var (sa_cons se_int sa_nil)))) sa_nil))) ss_next) (ss_seq (ss_asg (se_tup (sa_cons (se_call (sa_cons se_var (sa_cons se_int sa_nil))) (sa_cons (se_call (sa_cons se_var (sa_cons se_int sa_nil))) sa_nil))) (sg_tup (sgs_cons sg_name (sgs_cons sg_name sgs_nil)) rfl)) (ss_ret (se_cb cs_tuple (sa_cons (se_lc (W2 := fun _ _ _ _ => False) (sw_r1 (sa_cons se_var sa_nil)) sg_name (by decide) st_yes (se_op os_mod (se_op os_add (se_op os_add se_var (se_op os_mul se_var se_var)) (se_op os_div (se_op os_mul se_var se_var) se_int)) se_int)) sa_nil))))))
abbrev s_l_right : Stmt := topS 31
abbrev N_l_right : List Str := ["_law_state_here", "_law_tick", "_law_joiner", "_law_head_here", "_law_other", "_law_at", "_law_most", "_law_wholes", "_law_row", "_law_rows", "_law_whole", "_law_come", "_law_k", "_law_due", "_law_place"]
theorem sc_l_right : FnScope N_l_right ["_law_state_here", "_law_tick", "_law_joiner"] (defScope s_l_right) := ⟨rfl, rfl, rfl, by decide +kernel, rfl, by decide +kernel, by decide +kernel⟩
theorem ok_l_right {P : Program} {w : World} {K : PySem.W.Frag} {mg : Str → Option Value} {base : Heap} {a : Addr} {fd : FuncData} {ca : CaT} (T : Txt K mg ca) (F : Fun K "_law_right" "_law_right" s_l_right a fd) (M_Joiner_take : SM.Mt P w K mg base 6 (ca "Joiner") "take" (SpF K ca F_Joiner_take)) (C_l_cut : Dx P w K mg base 7 "_law_cut" (SpF K ca F_l_cut)) (C_l_head : Dx P w K mg base 2 "_law_head" (SpF K ca F_l_head)) (C_l_next : Dx P w K mg base 1 "_law_next" (SpF K ca F_l_next)) (C_l_order : Dx P w K mg base 2 "_law_order" (SpF K ca F_l_order)) (C_l_packet_of : Dx P w K mg base 5 "_law_packet_of" (SpF K ca F_l_packet_of)) (C_l_same : Dx P w K mg base 2 "_law_same" (SpF K ca F_l_same)) (C_l_some_data : Dx P w K mg base 2 "_law_some_data" (SpF K ca F_l_some_data)) :
    FnOk P w K mg base (L2.CX P w) 8 a fd ["_law_state_here", "_law_tick", "_law_joiner"] (SpF K ca F_l_right) := by
  refine SM.Fn.ofF F sc_l_right rfl fun cdv A outer s H E hr => ?_
  have nd := sc_l_right.nd
  refine ⟨_, (pss_cons (ps_set (i := 3) nd rfl (by first | exact Or.inl rfl | exact Or.inr rfl) (pe_callTy (call_tupleU (K := K)) (by rfl) T.b_tuple (by decide +kernel) (pa_cons (pe_dx C_l_head (takes_of rfl rfl rfl rfl) hr (by decide) rfl (pa_cons (pv 0) pa_nil)) pa_nil))) (pss_cons (ps_set (i := 4) nd rfl (by first | exact Or.inl rfl | exact Or.inr rfl) (pe_callTy (call_listU (K := K)) (by rfl) T.b_list (by decide +kernel) (pa_cons (pv 3) pa_nil))) (pss_cons (ps_set (i := 5) nd rfl (by first | exact Or.inl rfl | exact Or.inr rfl) (pe_ix (ix_U (K := K)) (pe_lst (pa_cons pe_int (pa_cons pe_int (pa_cons pe_int (pa_cons pe_int pa_nil))))) (pe_dx C_l_next (takes_of rfl rfl rfl rfl) hr (by decide) rfl (pa_cons (pv 0) (pa_cons pe_int pa_nil))) (fun _ _ => rfl))) (pss_cons (PS.or (ps_asg (pe_op op_modU (pe_op (op_addU (K := K)) (pe_op (op_addU (K := K)) (pe_ix (ix_U (K := K)) (pv 4) (pv 5) (fun _ _ => rfl)) pe_int) (pe_dx C_l_next (takes_of rfl rfl rfl rfl) hr (by decide) rfl (pa_cons (pv 0) (pa_cons pe_int pa_nil)))) pe_int) (pg_sub (pv 4) (pv 5) set_list)) (ps_dput (DL.room65w hr) (pv 4) (pv 5) (pe_op op_modU (pe_op (op_addU (K := K)) (pe_op (op_addU (K := K)) (pe_ix (ix_U (K := K)) (pv 4) (pv 5) (fun _ _ => rfl)) pe_int) (pe_dx C_l_next (takes_of rfl rfl rfl rfl) hr (by decide) rfl (pa_cons (pv 0) (pa_cons pe_int pa_nil)))) pe_int) rfl)) (pss_cons (ps_set (i := 6) nd rfl (by first | exact Or.inl rfl | exact Or.inr rfl) (pe_ix (ix_U (K := K)) (pe_lst (pa_cons pe_int (pa_cons pe_int pa_nil))) (pe_callTy call_intU (by rfl) T.b_int (by decide +kernel) (pa_cons (pe_cmpR (op_eqPK (K := K) (DL.room65 hr)) (pe_dx C_l_next (takes_of rfl rfl rfl rfl) hr (by decide) rfl (pa_cons (pv 0) (pa_cons pe_int pa_nil))) pe_int (nomark _)) pa_nil)) (fun _ _ => rfl))) (pss_cons (ps_set (i := 7) nd rfl (by first | exact Or.inl rfl | exact Or.inr rfl) (pe_lst pa_nil)) (pss_cons (ps_for (passes_of rfl) rfl (pi_seqU (K := K) (pe_tup (pa_cons (pv 3) (pa_cons (pe_callTy (call_tupleU (K := K)) (by rfl) T.b_tuple (by decide +kernel) (pa_cons (pv 4) pa_nil)) pa_nil)))) (pg_name (i := 8) nd rfl (by first | exact Or.inl rfl | exact Or.inr rfl)) (pss_one (ps_expr (pe_bm PySem.F.plainAttrs_list PySem.F.slot_list_append PySem.F.type_list_append mt_append (pv 7) (pa_cons (pe_op (op_addU (K := K)) (pv 8) (pe_tup (pa_cons pe_int (pa_cons pe_bl (pa_cons (pe_dx C_l_some_data (takes_of rfl rfl rfl rfl) hr (by decide) rfl (pa_cons (pv 0) (pa_cons (pv 6) pa_nil))) pa_nil))))) pa_nil))))) (pss_cons (ps_set (i := 9) nd rfl (by first | exact Or.inl rfl | exact Or.inr rfl) (pe_lst pa_nil)) (pss_cons (ps_for (passes_of rfl) rfl (pi_seqU (K := K) (pv 7)) (pg_name (i := 10) nd rfl (by first | exact Or.inl rfl | exact Or.inr rfl)) (pss_one (ps_set (i := 9) nd rfl (by first | exact Or.inl rfl | exact Or.inr rfl) (pe_op (op_addU (K := K)) (pv 9) (pe_dx C_l_cut (takes_of rfl rfl rfl rfl) hr (by decide) rfl (pa_cons (pe_dx C_l_packet_of (takes_of rfl rfl rfl rfl) hr (by decide) rfl (pa_cons (pv 10) pa_nil)) (pa_cons (pv 0) pa_nil))))))) (pss_cons (ps_set (i := 11) nd rfl (by first | exact Or.inl rfl | exact Or.inr rfl) (pe_lst (pa_cons (pe_lst (pa_cons pe_int (pa_cons pe_dnewK pa_nil))) (pa_cons (pe_lst (pa_cons pe_int (pa_cons pe_dnewK pa_nil))) pa_nil)))) (pss_cons (ps_for (passes_of rfl) rfl (pi_seqU (K := K) (pe_dx C_l_order (takes_of rfl rfl rfl rfl) hr (by decide) rfl (pa_cons (pe_op (op_addU (K := K)) (pv 9) (pe_slice (sl_U (K := K)) (pv 7) po_none (po_some (pe_dx C_l_next (takes_of rfl rfl rfl rfl) hr (by decide) rfl (pa_cons (pv 0) (pa_cons pe_int pa_nil)))))) (pa_cons (pv 0) pa_nil)))) (pg_name (i := 8) nd rfl (by first | exact Or.inl rfl | exact Or.inr rfl)) (pss_cons (ps_set (i := 12) nd rfl (by first | exact Or.inl rfl | exact Or.inr rfl) (pe_callTy call_intU (by rfl) T.b_int (by decide +kernel) (pa_cons (pe_cmpR (op_nePK (K := K) (DL.room65 hr)) (pe_op (op_addU (K := K)) (pe_slice (sl_U (K := K)) (pv 8) po_none (po_some pe_int)) (pe_slice (sl_U (K := K)) (pv 8) (po_some pe_int) (po_some pe_int))) (pe_op (op_addU (K := K)) (pe_slice (sl_U (K := K)) (pe_ix (ix_U (K := K)) (pv 7) pe_int (fun _ _ => rfl)) po_none (po_some pe_int)) (pe_slice (sl_U (K := K)) (pe_ix (ix_U (K := K)) (pv 7) pe_int (fun _ _ => rfl)) (po_some pe_int) (po_some pe_int))) (nomark _)) pa_nil))) (pss_cons (ps_set (i := 13) nd rfl (by first | exact Or.inl rfl | exact Or.inr rfl) (pv 8)) (pss_cons (ps_if (PW.pt (pw_or (pt_cmpR op_gtU (pe_ix (ix_U (K := K)) (pv 8) pe_int (fun _ _ => rfl)) pe_int (nomark _)) (pw_or1 (pt_val (pe_ix (ix_U (K := K)) (pv 8) pe_int (fun _ _ => rfl)))))) (pss_cons (PS.or (ps_asg (pe_lst (pa_cons (pe_callB (call_min2U rfl) (by rfl) T.b_min (by decide +kernel) (pa_cons (pe_ix (ix_U (K := K)) (pe_ix (ix_U (K := K)) (pv 11) (pv 12) (fun _ _ => rfl)) pe_int (fun _ _ => rfl)) (pa_cons (pe_ix (ix_U (K := K)) (pv 8) pe_int (fun _ _ => rfl)) pa_nil))) (pa_cons (pe_ix (ix_U (K := K)) (pe_ix (ix_U (K := K)) (pv 11) (pv 12) (fun _ _ => rfl)) pe_int (fun _ _ => rfl)) pa_nil))) (pg_sub (pv 11) (pv 12) set_list)) (ps_dput (DL.room65w hr) (pv 11) (pv 12) (pe_lst (pa_cons (pe_callB (call_min2U rfl) (by rfl) T.b_min (by decide +kernel) (pa_cons (pe_ix (ix_U (K := K)) (pe_ix (ix_U (K := K)) (pv 11) (pv 12) (fun _ _ => rfl)) pe_int (fun _ _ => rfl)) (pa_cons (pe_ix (ix_U (K := K)) (pv 8) pe_int (fun _ _ => rfl)) pa_nil))) (pa_cons (pe_ix (ix_U (K := K)) (pe_ix (ix_U (K := K)) (pv 11) (pv 12) (fun _ _ => rfl)) pe_int (fun _ _ => rfl)) pa_nil))) rfl)) (pss_cons (ps_expr (pe_bm PySem.F.plainAttrs_dict PySem.F.slot_dict_update PySem.F.type_dict_update (L2.mt_updK (K := K) rfl) (pe_ix (ix_U (K := K)) (pe_ix (ix_U (K := K)) (pv 11) (pv 12) (fun _ _ => rfl)) pe_int (fun _ _ => rfl)) (pa_cons (pe_lc (own := [("_law_place", 14)]) (g := (gName 14)) rfl nd (pi_range1 rfl T.b_range (pa_cons (pe_callB (call_lenU (K := K)) (by rfl) T.b_len (by decide +kernel) (pa_cons (pe_ix (ix_U (K := K)) (pv 8) pe_int (fun _ _ => rfl)) pa_nil)) pa_nil)) (blkOk_by (own := [("_law_place", 14)]) (N := N_l_right) (sc := defScope s_l_right) (by decide +kernel)) (fun _ _ _ _ _ => (pg_name (i := 14) nd rfl (by first | exact Or.inl rfl | exact Or.inr rfl))) (fun _ _ _ _ _ => pts_nil) (fun _ _ _ _ _ => (pe_tup (pa_cons (pe_op (op_addU (K := K)) (pe_ix (ix_U (K := K)) (pv 8) pe_int (fun _ _ => rfl)) (pv 14)) (pa_cons pe_bl pa_nil))))) pa_nil))) (pss_cons (ps_set (i := 13) nd rfl (by first | exact Or.inl rfl | exact Or.inr rfl) pe_non) (pss_one (ps_if (pt_cmpR (op_eqPK (K := K) (DL.room65 hr)) (pe_callB (call_lenU (K := K)) (by rfl) T.b_len (by decide +kernel) (pa_cons (pe_ix (ix_U (K := K)) (pe_ix (ix_U (K := K)) (pv 11) (pv 12) (fun _ _ => rfl)) pe_int (fun _ _ => rfl)) pa_nil)) (pe_callB (call_lenU (K := K)) (by rfl) T.b_len (by decide +kernel) (pa_cons (pe_ix (ix_U (K := K)) (pe_ix (ix_U (K := K)) (pv 7) (pv 12) (fun _ _ => rfl)) pe_int (fun _ _ => rfl)) pa_nil)) (nomark _)) (pss_cons (ps_set (i := 13) nd rfl (by first | exact Or.inl rfl | exact Or.inr rfl) (pe_op (op_addU (K := K)) (pe_op (op_addU (K := K)) (pe_slice (sl_U (K := K)) (pe_ix (ix_U (K := K)) (pv 7) (pv 12) (fun _ _ => rfl)) po_none (po_some pe_int)) (pe_tup (pa_cons (pe_ix (ix_U (K := K)) (pe_ix (ix_U (K := K)) (pv 11) (pv 12) (fun _ _ => rfl)) pe_int (fun _ _ => rfl)) pa_nil))) (pe_slice (sl_U (K := K)) (pe_ix (ix_U (K := K)) (pv 7) (pv 12) (fun _ _ => rfl)) (po_some pe_int) po_none))) (pss_one (PS.or (ps_asg (pe_lst (pa_cons pe_int (pa_cons pe_dnewK pa_nil))) (pg_sub (pv 11) (pv 12) set_list)) (ps_dput (DL.room65w hr) (pv 11) (pv 12) (pe_lst (pa_cons pe_int (pa_cons pe_dnewK pa_nil))) rfl)))) pss_nil))))) pss_nil) (pss_one (ps_if (pt_not (pt_val (pe_dx C_l_same (takes_of rfl rfl rfl rfl) hr (by decide) rfl (pa_cons (pe_mtX M_Joiner_take (takes_of rfl rfl rfl rfl) hr (by decide) T.cl_Joiner (pv 2) (pa_cons (pe_dx C_l_packet_of (takes_of rfl rfl rfl rfl) hr (by decide) rfl (pa_cons (pv 8) pa_nil)) (pa_cons (pv 1) pa_nil))) (pa_cons (pv 13) pa_nil))))) (pss_one (ps_ret pe_bl)) pss_nil)))))) (pss_one (ps_ret pe_bl))))))))))))), ?_⟩
  exact (ss_seq (ss_set (se_cb cs_tuple (sa_cons (se_call (sa_cons se_var sa_nil)) sa_nil))) (ss_seq (ss_set (se_cb cs_list (sa_cons se_var sa_nil))) (ss_seq (ss_set (se_op os_ix (se_lst (sa_cons se_int (sa_cons se_int (sa_cons se_int (sa_cons se_int sa_nil))))) (se_call (sa_cons se_var (sa_cons se_int sa_nil))))) (ss_seq (ss_put se_var se_var (se_op os_mod (se_op os_add (se_op os_add (se_op os_ix se_var se_var) se_int) (se_call (sa_cons se_var (sa_cons se_int sa_nil)))) se_int)) (ss_seq (ss_set (se_op os_ix (se_lst (sa_cons se_int (sa_cons se_int sa_nil))) (se_cb cs_int (sa_cons (se_op os_eq (se_call (sa_cons se_var (sa_cons se_int sa_nil))) se_int) sa_nil)))) (ss_seq (ss_set (se_lst sa_nil)) (ss_seq (ss_for (sw_seq (se_tup (sa_cons se_var (sa_cons (se_cb cs_tuple (sa_cons se_var sa_nil)) sa_nil)))) sg_name (ss_drop (se_bl_ ms_append se_var (sa_cons (se_op os_add se_var (se_tup (sa_cons se_int (sa_cons se_bl (sa_cons (se_call (sa_cons se_var (sa_cons se_var sa_nil))) sa_nil))))) sa_nil)))) (ss_seq (ss_set (se_lst sa_nil)) (ss_seq (ss_for (sw_seq se_var) sg_name (ss_set (se_op os_add se_var (se_call (sa_cons (se_call (sa_cons se_var sa_nil)) (sa_cons se_var sa_nil)))))) (ss_seq (ss_set (se_lst (sa_cons (se_lst (sa_cons se_int (sa_cons se_dnewK sa_nil))) (sa_cons (se_lst (sa_cons se_int (sa_cons se_dnewK sa_nil))) sa_nil)))) (ss_seq (ss_for (sw_seq (se_call (sa_cons (se_op os_add se_var (se_sl sls_all se_var so_none (so_some (se_call (sa_cons se_var (sa_cons se_int sa_nil)))))) (sa_cons se_var sa_nil)))) sg_name (ss_seq (ss_set (se_cb cs_int (sa_cons (se_op os_ne (se_op os_add (se_sl sls_all se_var so_none (so_some se_int)) (se_sl sls_all se_var (so_some se_int) (so_some se_int))) (se_op os_add (se_sl sls_all (se_op os_ix se_var se_int) so_none (so_some se_int)) (se_sl sls_all (se_op os_ix se_var se_int) (so_some se_int) (so_some se_int)))) sa_nil))) (ss_seq (ss_set se_var) (ss_seq (ss_if (st_or (st_test (se_op os_gt (se_op os_ix se_var se_int) se_int)) (st_b (se_op os_ix se_var se_int))) (ss_seq (ss_put se_var se_var (se_lst (sa_cons (se_cb cs_min2 (sa_cons (se_op os_ix (se_op os_ix se_var se_var) se_int) (sa_cons (se_op os_ix se_var se_int) sa_nil))) (sa_cons (se_op os_ix (se_op os_ix se_var se_var) se_int) sa_nil)))) (ss_seq (ss_drop (se_bd ms_updK (se_op os_ix (se_op os_ix se_var se_var) se_int) (sa_cons (se_lc (W2 := fun _ _ _ _ => False) (sw_r1 (sa_cons (se_cb cs_len (sa_cons (se_op os_ix se_var se_int) sa_nil)) sa_nil)) sg_name (by decide) st_yes (se_tup (sa_cons (se_op os_add (se_op os_ix se_var se_int) se_var) (sa_cons se_bl sa_nil)))) sa_nil))) (ss_seq (ss_set se_non) (ss_if (st_test (se_op os_eq (se_cb cs_len (sa_cons (se_op os_ix (se_op os_ix se_var se_var) se_int) sa_nil)) (se_cb cs_len (sa_cons (se_op os_ix (se_op os_ix se_var se_var) se_int) sa_nil)))) (ss_seq (ss_set (se_op os_add (se_op os_add (se_sl sls_all (se_op os_ix se_var se_var) so_none (so_some se_int)) (se_tup (sa_cons (se_op os_ix (se_op os_ix se_var se_var) se_int) sa_nil))) (se_sl sls_all (se_op os_ix se_var se_var) (so_some se_int) so_none))) (ss_put se_var se_var (se_lst (sa_cons se_int (sa_cons se_dnewK sa_nil))))) ss_next)))) ss_next) (ss_if (st_not (st_b (se_call (sa_cons (meth_one (by decide +kernel) se_var (sa_cons (se_call (sa_cons se_var sa_nil)) (sa_cons se_var sa_nil))) (sa_cons se_var sa_nil))))) (ss_ret se_bl) ss_next))))) (ss_ret se_bl))))))))))))
abbrev s_l_state : Stmt := topS 23
abbrev N_l_state : List Str := ["_law_cell", "_law_k", "_law_drawn"]
theorem sc_l_state : FnScope N_l_state ["_law_cell", "_law_k"] (defScope s_l_state) := ⟨rfl, rfl, rfl, by decide +kernel, rfl, by decide +kernel, by decide +kernel⟩
theorem ok_l_state {P : Program} {w : World} {K : PySem.W.Frag} {mg : Str → Option Value} {base : Heap} {a : Addr} {fd : FuncData} {ca : CaT} (T : Txt K mg ca) (F : Fun K "_law_state" "_law_state" s_l_state a fd)  :
    FnOk P w K mg base (L2.CX P w) 1 a fd ["_law_cell", "_law_k"] (SpF K ca F_l_state) := by
  refine SM.Fn.ofF F sc_l_state rfl fun cdv A outer s H E hr => ?_
  have nd := sc_l_state.nd
  refine ⟨_, (pss_cons (ps_set (i := 2) nd rfl (by first | exact Or.inl rfl | exact Or.inr rfl) (pe_op op_modU (pe_op (op_mulA (K := K)) (pe_op (op_addU (K := K)) (pe_op (op_addU (K := K)) (pv 0) (pe_op (op_mulA (K := K)) pe_int (pv 1))) pe_int) pe_int) pe_int)) (pss_one (ps_ret (pe_lst (pa_cons (pe_op (op_mulA (K := K)) (pv 0) (pe_callTy call_intU (by rfl) T.b_int (by decide +kernel) (pa_cons (pe_cmpR op_geU (pv 0) (pe_op op_powU pe_int pe_int) (nomark _)) pa_nil))) (pa_cons (pe_op op_modU (pe_op (op_addU (K := K)) (pe_op (op_addU (K := K)) (pe_op (op_mulA (K := K)) (pv 2) (pv 2)) (pe_op (op_mulA (K := K)) pe_int (pv 2))) (pv 1)) pe_int) pa_nil)))))), ?_⟩
  exact (ss_seq (ss_set (se_op os_mod (se_op os_mul (se_op os_add (se_op os_add se_var (se_op os_mul se_int se_var)) se_int) se_int) se_int)) (ss_ret (se_lst (sa_cons (se_op os_mul se_var (se_cb cs_int (sa_cons (se_op os_ge se_var (se_op os_pow se_int se_int)) sa_nil))) (sa_cons (se_op os_mod (se_op os_add (se_op os_add (se_op os_mul se_var se_var) (se_op os_mul se_int se_var)) se_var) se_int) sa_nil)))))
abbrev s_law : Stmt := topS 32
abbrev N_law : List Str := ["_law_script", "_law_k"]
theorem sc_law : FnScope N_law ["_law_script"] (defScope s_law) := ⟨rfl, rfl, rfl, by decide +kernel, rfl, by decide +kernel, by decide +kernel⟩
theorem ok_law {P : Program} {w : World} {K : PySem.W.Frag} {mg : Str → Option Value} {base : Heap} {a : Addr} {fd : FuncData} {ca : CaT} (T : Txt K mg ca) (F : Fun K "law" "law" s_law a fd) (M_Joiner : Mx P w K mg base 2 "Joiner" (ca "Joiner") (SpF K ca F_Joiner___init__)) (C_l_cell_at : Dx P w K mg base 1 "_law_cell_at" (SpF K ca F_l_cell_at)) (C_l_right : Dx P w K mg base 8 "_law_right" (SpF K ca F_l_right)) (C_l_state : Dx P w K mg base 1 "_law_state" (SpF K ca F_l_state)) :
    FnOk P w K mg base CX0 9 a fd ["_law_script"] (SpF K ca F_law) := by
  refine SM.Fn.ofF0 F sc_law rfl fun cdv A outer s H E hr => ?_
  have nd := sc_law.nd
  refine ⟨_, (pss_cons (ps_for PassesOwn.never rfl (pi_range1 rfl T.b_range (pa_cons (pe_callB (call_max2U rfl) (by rfl) T.b_max (by decide +kernel) (pa_cons pe_int (pa_cons (pe_callB (call_min2U rfl) (by rfl) T.b_min (by decide +kernel) (pa_cons (pe_callB (call_lenU (K := K)) (by rfl) T.b_len (by decide +kernel) (pa_cons (pv 0) pa_nil)) (pa_cons pe_int pa_nil))) pa_nil))) pa_nil)) (pg_name (i := 1) nd rfl (by first | exact Or.inl rfl | exact Or.inr rfl)) (pss_one (ps_if (pt_not (pt_val (pe_dx0 C_l_right hr (by decide) rfl (pa_cons (pe_dx0 C_l_state hr (by decide) rfl (pa_cons (pe_dx0 C_l_cell_at hr (by decide) rfl (pa_cons (pv 0) (pa_cons (pv 1) pa_nil))) (pa_cons (pe_op (op_addU (K := K)) pe_int (pv 1)) pa_nil))) (pa_cons (pe_op (op_mulA (K := K)) pe_int (pv 1)) (pa_cons (pe_mx0 M_Joiner hr (by decide) rfl (pa_cons pe_int (pa_cons pe_int pa_nil))) pa_nil)))))) (pss_one (ps_ret pe_bl)) pss_nil))) (pss_one (ps_ret pe_bl))), ?_⟩
  exact (ss_seq (ss_for (sw_r1 (sa_cons (se_cb cs_max2 (sa_cons se_int (sa_cons (se_cb cs_min2 (sa_cons (se_cb cs_len (sa_cons se_var sa_nil)) (sa_cons se_int sa_nil))) sa_nil))) sa_nil)) sg_name (ss_if (st_not (st_b (se_call0 (sa_cons (se_call0 (sa_cons (se_call0 (sa_cons se_var (sa_cons se_var sa_nil))) (sa_cons (se_op os_add se_int se_var) sa_nil))) (sa_cons (se_op os_mul se_int se_var) (sa_cons (se_make0 (sa_cons se_int (sa_cons se_int sa_nil))) sa_nil)))))) (ss_ret se_bl) ss_next)) (ss_ret se_bl))
def spLaw (K : PySem.W.Frag) : Sp := fun vs H Q _ => ∃ (a : Addr) (ns : List Int), vs = [.ref a] ∧ SqL K H a (ns.map V.int) ∧ ns.length ≤ 63 ∧ ∀ H1, Q (.bl true) H1
theorem law_imp {K : PySem.W.Frag} {ca : CaT} (hT : ca.T = []) : ∀ (vs : List V) (H : Hp) (Q : VK) (E : XK), spLaw K vs H Q E → SpF K ca F_law vs H Q E := fun vs H Q E ⟨a, ns, e, h, hl, k⟩ => by
  subst e
  obtain ⟨A, hA⟩ := law_true ns hl
  refine ⟨SM.noT H, [], [], [.scr (ns.map D.int)], Rl.start (by rw [hT]; simp), .cons (.scr (SM.SqL.noT h) RepL.of_ints) .nil, ?_⟩
  rw [hA]
  intro v F' m' H' _ _ r
  cases r
  exact k H'
theorem all_mk {l : PySem.W.OpenLaw} {w : World} {K : PySem.W.Frag} {h : Heap} {mg : Str → Option Value} {fa f0 f1 f2 f3 f4 f5 f6 f7 f8 f9 f10 f11 f12 f13 f14 f15 f16 f17 f18 f19 f20 f21 f22 f23 f24 f25 : Addr} (X : K.In h) (G : h.Ns mainGlobals mg) (hfa : mg "law" = some (.ref fa))
    {od0 an0 od1 an1 od2 an2 od3 an3 od4 an4 od5 an5 od6 an6 od7 an7 od8 an8 od9 an9 od10 an10 od11 an11 od12 an12 od13 an13 od14 an14 od15 an15 od16 an16 od17 an17 od18 an18 od19 an19 od20 an20 od21 an21 od22 an22 od23 an23 od24 an24 od25 an25 : Option Addr} {sl0 sl1 sl2 sl3 sl4 sl5 sl6 sl7 sl8 sl9 sl10 sl11 sl12 sl13 sl14 sl15 sl16 sl17 sl18 sl19 sl20 sl21 sl22 sl23 sl24 sl25 : Array (Option Value)} {oc0 kV0 dc0 pm0 cd0 ct0 oc1 kV1 dc1 pm1 cd1 ct1 oc2 kV2 dc2 pm2 cd2 ct2 oc3 kV3 dc3 pm3 cd3 ct3 oc4 kV4 dc4 pm4 cd4 ct4 oc5 kV5 dc5 pm5 cd5 ct5 oc6 kV6 dc6 pm6 cd6 ct6 oc7 kV7 dc7 pm7 cd7 ct7 oc8 kV8 dc8 pm8 cd8 ct8 oc9 kV9 dc9 pm9 cd9 ct9 oc10 kV10 dc10 pm10 cd10 ct10 oc11 kV11 dc11 pm11 cd11 ct11 oc12 kV12 dc12 pm12 cd12 ct12 oc13 kV13 dc13 pm13 cd13 ct13 oc14 kV14 dc14 pm14 cd14 ct14 oc15 kV15 dc15 pm15 cd15 ct15 oc16 kV16 dc16 pm16 cd16 ct16 oc17 kV17 dc17 pm17 cd17 ct17 oc18 kV18 dc18 pm18 cd18 ct18 oc19 kV19 dc19 pm19 cd19 ct19 oc20 kV20 dc20 pm20 cd20 ct20 oc21 kV21 dc21 pm21 cd21 ct21 oc22 kV22 dc22 pm22 cd22 ct22 oc23 kV23 dc23 pm23 cd23 ct23 oc24 kV24 dc24 pm24 cd24 ct24 oc25 kV25 dc25 pm25 cd25 ct25 : Value}
    {ca_Heap : Addr} (g_Heap : PySem.W.nsIn K mainGlobals "Heap" = some (some (.ref ca_Heap))) {ca_Joiner : Addr} (g_Joiner : PySem.W.nsIn K mainGlobals "Joiner" = some (some (.ref ca_Joiner))) {ca_NoNumber : Addr} (g_NoNumber : PySem.W.nsIn K mainGlobals "NoNumber" = some (some (.ref ca_NoNumber))) {ca_NoPacket : Addr} (g_NoPacket : PySem.W.nsIn K mainGlobals "NoPacket" = some (some (.ref ca_NoPacket))) {ca_NoTick : Addr} (g_NoTick : PySem.W.nsIn K mainGlobals "NoTick" = some (some (.ref ca_NoTick))) {ca_Packet : Addr} (g_Packet : PySem.W.nsIn K mainGlobals "Packet" = some (some (.ref ca_Packet)))
    (a0 : PySem.W.nsIn K mainGlobals "need_many" = some (some (.ref f0))) (l0 : K.lookup f0 = some ⟨oc0, od0, .func (PySem.W.fnOf "need_many" "need_many" (defArgs s_need_many) (defBody s_need_many) (defScope s_need_many) .none kV0 dc0 pm0 an0 cd0 ct0), sl0⟩) (c0 : PySem.W.codeIn K cd0 "need_many" = true) (k0 : PySem.W.keepIn K (.ref f0) = true)
    (a1 : PySem.W.findIn K (.ref ca_Joiner) "__init__" = some (some (.ref f1))) (i1 : PySem.W.isFn K (.ref f1) = true) (l1 : K.lookup f1 = some ⟨oc1, od1, .func (PySem.W.fnOf "__init__" "Joiner.__init__" (defArgs s_Joiner___init__) (defBody s_Joiner___init__) (defScope s_Joiner___init__) .none kV1 dc1 pm1 an1 cd1 ct1), sl1⟩) (c1 : PySem.W.codeIn K cd1 "Joiner.__init__" = true) (k1 : PySem.W.keepIn K (.ref f1) = true)
    (a2 : PySem.W.nsIn K mainGlobals "_law_cell_at" = some (some (.ref f2))) (l2 : K.lookup f2 = some ⟨oc2, od2, .func (PySem.W.fnOf "_law_cell_at" "_law_cell_at" (defArgs s_l_cell_at) (defBody s_l_cell_at) (defScope s_l_cell_at) .none kV2 dc2 pm2 an2 cd2 ct2), sl2⟩) (c2 : PySem.W.codeIn K cd2 "_law_cell_at" = true) (k2 : PySem.W.keepIn K (.ref f2) = true)
    (a3 : PySem.W.findIn K (.ref ca_Heap) "__init__" = some (some (.ref f3))) (i3 : PySem.W.isFn K (.ref f3) = true) (l3 : K.lookup f3 = some ⟨oc3, od3, .func (PySem.W.fnOf "__init__" "Heap.__init__" (defArgs s_Heap___init__) (defBody s_Heap___init__) (defScope s_Heap___init__) .none kV3 dc3 pm3 an3 cd3 ct3), sl3⟩) (c3 : PySem.W.codeIn K cd3 "Heap.__init__" = true) (k3 : PySem.W.keepIn K (.ref f3) = true)
    (a4 : PySem.W.findIn K (.ref ca_Heap) "hold" = some (some (.ref f4))) (i4 : PySem.W.isFn K (.ref f4) = true) (l4 : K.lookup f4 = some ⟨oc4, od4, .func (PySem.W.fnOf "hold" "Heap.hold" (defArgs s_Heap_hold) (defBody s_Heap_hold) (defScope s_Heap_hold) .none kV4 dc4 pm4 an4 cd4 ct4), sl4⟩) (c4 : PySem.W.codeIn K cd4 "Heap.hold" = true) (k4 : PySem.W.keepIn K (.ref f4) = true)
    (a5 : PySem.W.findIn K (.ref ca_Heap) "is_there" = some (some (.ref f5))) (i5 : PySem.W.isFn K (.ref f5) = true) (l5 : K.lookup f5 = some ⟨oc5, od5, .func (PySem.W.fnOf "is_there" "Heap.is_there" (defArgs s_Heap_is_there) (defBody s_Heap_is_there) (defScope s_Heap_is_there) .none kV5 dc5 pm5 an5 cd5 ct5), sl5⟩) (c5 : PySem.W.codeIn K cd5 "Heap.is_there" = true) (k5 : PySem.W.keepIn K (.ref f5) = true)
    (a6 : PySem.W.nsIn K mainGlobals "is_number" = some (some (.ref f6))) (l6 : K.lookup f6 = some ⟨oc6, od6, .func (PySem.W.fnOf "is_number" "is_number" (defArgs s_is_number) (defBody s_is_number) (defScope s_is_number) .none kV6 dc6 pm6 an6 cd6 ct6), sl6⟩) (c6 : PySem.W.codeIn K cd6 "is_number" = true) (k6 : PySem.W.keepIn K (.ref f6) = true)
    (a7 : PySem.W.nsIn K mainGlobals "are_bytes" = some (some (.ref f7))) (l7 : K.lookup f7 = some ⟨oc7, od7, .func (PySem.W.fnOf "are_bytes" "are_bytes" (defArgs s_are_bytes) (defBody s_are_bytes) (defScope s_are_bytes) .none kV7 dc7 pm7 an7 cd7 ct7), sl7⟩) (c7 : PySem.W.codeIn K cd7 "are_bytes" = true) (k7 : PySem.W.keepIn K (.ref f7) = true)
    (a8 : PySem.W.findIn K (.ref ca_Packet) "__init__" = some (some (.ref f8))) (i8 : PySem.W.isFn K (.ref f8) = true) (l8 : K.lookup f8 = some ⟨oc8, od8, .func (PySem.W.fnOf "__init__" "Packet.__init__" (defArgs s_Packet___init__) (defBody s_Packet___init__) (defScope s_Packet___init__) .none kV8 dc8 pm8 an8 cd8 ct8), sl8⟩) (c8 : PySem.W.codeIn K cd8 "Packet.__init__" = true) (k8 : PySem.W.keepIn K (.ref f8) = true)
    (a9 : PySem.W.findIn K (.ref ca_Heap) "packet_made" = some (some (.ref f9))) (i9 : PySem.W.isFn K (.ref f9) = true) (l9 : K.lookup f9 = some ⟨oc9, od9, .func (PySem.W.fnOf "packet_made" "Heap.packet_made" (defArgs s_Heap_packet_made) (defBody s_Heap_packet_made) (defScope s_Heap_packet_made) .none kV9 dc9 pm9 an9 cd9 ct9), sl9⟩) (c9 : PySem.W.codeIn K cd9 "Heap.packet_made" = true) (k9 : PySem.W.keepIn K (.ref f9) = true)
    (a10 : PySem.W.findIn K (.ref ca_Joiner) "let_first_go" = some (some (.ref f10))) (i10 : PySem.W.isFn K (.ref f10) = true) (l10 : K.lookup f10 = some ⟨oc10, od10, .func (PySem.W.fnOf "let_first_go" "Joiner.let_first_go" (defArgs s_Joiner_let_first_go) (defBody s_Joiner_let_first_go) (defScope s_Joiner_let_first_go) .none kV10 dc10 pm10 an10 cd10 ct10), sl10⟩) (c10 : PySem.W.codeIn K cd10 "Joiner.let_first_go" = true) (k10 : PySem.W.keepIn K (.ref f10) = true)
    (a11 : PySem.W.findIn K (.ref ca_Joiner) "let_old_go" = some (some (.ref f11))) (i11 : PySem.W.isFn K (.ref f11) = true) (l11 : K.lookup f11 = some ⟨oc11, od11, .func (PySem.W.fnOf "let_old_go" "Joiner.let_old_go" (defArgs s_Joiner_let_old_go) (defBody s_Joiner_let_old_go) (defScope s_Joiner_let_old_go) .none kV11 dc11 pm11 an11 cd11 ct11), sl11⟩) (c11 : PySem.W.codeIn K cd11 "Joiner.let_old_go" = true) (k11 : PySem.W.keepIn K (.ref f11) = true)
    (a12 : PySem.W.findIn K (.ref ca_Joiner) "take" = some (some (.ref f12))) (i12 : PySem.W.isFn K (.ref f12) = true) (l12 : K.lookup f12 = some ⟨oc12, od12, .func (PySem.W.fnOf "take" "Joiner.take" (defArgs s_Joiner_take) (defBody s_Joiner_take) (defScope s_Joiner_take) .none kV12 dc12 pm12 an12 cd12 ct12), sl12⟩) (c12 : PySem.W.codeIn K cd12 "Joiner.take" = true) (k12 : PySem.W.keepIn K (.ref f12) = true)
    (a13 : PySem.W.findIn K (.ref ca_Packet) "told" = some (some (.ref f13))) (i13 : PySem.W.isFn K (.ref f13) = true) (l13 : K.lookup f13 = some ⟨oc13, od13, .func (PySem.W.fnOf "told" "Packet.told" (defArgs s_Packet_told) (defBody s_Packet_told) (defScope s_Packet_told) .none kV13 dc13 pm13 an13 cd13 ct13), sl13⟩) (c13 : PySem.W.codeIn K cd13 "Packet.told" = true) (k13 : PySem.W.keepIn K (.ref f13) = true)
    (a14 : PySem.W.nsIn K mainGlobals "_law_next" = some (some (.ref f14))) (l14 : K.lookup f14 = some ⟨oc14, od14, .func (PySem.W.fnOf "_law_next" "_law_next" (defArgs s_l_next) (defBody s_l_next) (defScope s_l_next) .none kV14 dc14 pm14 an14 cd14 ct14), sl14⟩) (c14 : PySem.W.codeIn K cd14 "_law_next" = true) (k14 : PySem.W.keepIn K (.ref f14) = true)
    (a15 : PySem.W.nsIn K mainGlobals "piece_of" = some (some (.ref f15))) (l15 : K.lookup f15 = some ⟨oc15, od15, .func (PySem.W.fnOf "piece_of" "piece_of" (defArgs s_piece_of) (defBody s_piece_of) (defScope s_piece_of) .none kV15 dc15 pm15 an15 cd15 ct15), sl15⟩) (c15 : PySem.W.codeIn K cd15 "piece_of" = true) (k15 : PySem.W.keepIn K (.ref f15) = true)
    (a16 : PySem.W.nsIn K mainGlobals "cut" = some (some (.ref f16))) (l16 : K.lookup f16 = some ⟨oc16, od16, .func (PySem.W.fnOf "cut" "cut" (defArgs s_cut) (defBody s_cut) (defScope s_cut) .none kV16 dc16 pm16 an16 cd16 ct16), sl16⟩) (c16 : PySem.W.codeIn K cd16 "cut" = true) (k16 : PySem.W.keepIn K (.ref f16) = true)
    (a17 : PySem.W.nsIn K mainGlobals "_law_cut" = some (some (.ref f17))) (l17 : K.lookup f17 = some ⟨oc17, od17, .func (PySem.W.fnOf "_law_cut" "_law_cut" (defArgs s_l_cut) (defBody s_l_cut) (defScope s_l_cut) .none kV17 dc17 pm17 an17 cd17 ct17), sl17⟩) (c17 : PySem.W.codeIn K cd17 "_law_cut" = true) (k17 : PySem.W.keepIn K (.ref f17) = true)
    (a18 : PySem.W.nsIn K mainGlobals "_law_head" = some (some (.ref f18))) (l18 : K.lookup f18 = some ⟨oc18, od18, .func (PySem.W.fnOf "_law_head" "_law_head" (defArgs s_l_head) (defBody s_l_head) (defScope s_l_head) .none kV18 dc18 pm18 an18 cd18 ct18), sl18⟩) (c18 : PySem.W.codeIn K cd18 "_law_head" = true) (k18 : PySem.W.keepIn K (.ref f18) = true)
    (a19 : PySem.W.nsIn K mainGlobals "_law_order" = some (some (.ref f19))) (l19 : K.lookup f19 = some ⟨oc19, od19, .func (PySem.W.fnOf "_law_order" "_law_order" (defArgs s_l_order) (defBody s_l_order) (defScope s_l_order) .none kV19 dc19 pm19 an19 cd19 ct19), sl19⟩) (c19 : PySem.W.codeIn K cd19 "_law_order" = true) (k19 : PySem.W.keepIn K (.ref f19) = true)
    (a20 : PySem.W.nsIn K mainGlobals "_law_packet_of" = some (some (.ref f20))) (l20 : K.lookup f20 = some ⟨oc20, od20, .func (PySem.W.fnOf "_law_packet_of" "_law_packet_of" (defArgs s_l_packet_of) (defBody s_l_packet_of) (defScope s_l_packet_of) .none kV20 dc20 pm20 an20 cd20 ct20), sl20⟩) (c20 : PySem.W.codeIn K cd20 "_law_packet_of" = true) (k20 : PySem.W.keepIn K (.ref f20) = true)
    (a21 : PySem.W.nsIn K mainGlobals "_law_same" = some (some (.ref f21))) (l21 : K.lookup f21 = some ⟨oc21, od21, .func (PySem.W.fnOf "_law_same" "_law_same" (defArgs s_l_same) (defBody s_l_same) (defScope s_l_same) .none kV21 dc21 pm21 an21 cd21 ct21), sl21⟩) (c21 : PySem.W.codeIn K cd21 "_law_same" = true) (k21 : PySem.W.keepIn K (.ref f21) = true)
    (a22 : PySem.W.nsIn K mainGlobals "_law_some_data" = some (some (.ref f22))) (l22 : K.lookup f22 = some ⟨oc22, od22, .func (PySem.W.fnOf "_law_some_data" "_law_some_data" (defArgs s_l_some_data) (defBody s_l_some_data) (defScope s_l_some_data) .none kV22 dc22 pm22 an22 cd22 ct22), sl22⟩) (c22 : PySem.W.codeIn K cd22 "_law_some_data" = true) (k22 : PySem.W.keepIn K (.ref f22) = true)
    (a23 : PySem.W.nsIn K mainGlobals "_law_right" = some (some (.ref f23))) (l23 : K.lookup f23 = some ⟨oc23, od23, .func (PySem.W.fnOf "_law_right" "_law_right" (defArgs s_l_right) (defBody s_l_right) (defScope s_l_right) .none kV23 dc23 pm23 an23 cd23 ct23), sl23⟩) (c23 : PySem.W.codeIn K cd23 "_law_right" = true) (k23 : PySem.W.keepIn K (.ref f23) = true)
    (a24 : PySem.W.nsIn K mainGlobals "_law_state" = some (some (.ref f24))) (l24 : K.lookup f24 = some ⟨oc24, od24, .func (PySem.W.fnOf "_law_state" "_law_state" (defArgs s_l_state) (defBody s_l_state) (defScope s_l_state) .none kV24 dc24 pm24 an24 cd24 ct24), sl24⟩) (c24 : PySem.W.codeIn K cd24 "_law_state" = true) (k24 : PySem.W.keepIn K (.ref f24) = true)
    (a25 : PySem.W.nsIn K mainGlobals "law" = some (some (.ref f25))) (l25 : K.lookup f25 = some ⟨oc25, od25, .func (PySem.W.fnOf "law" "law" (defArgs s_law) (defBody s_law) (defScope s_law) .none kV25 dc25 pm25 an25 cd25 ct25), sl25⟩) (c25 : PySem.W.codeIn K cd25 "law" = true) (k25 : PySem.W.keepIn K (.ref f25) = true)
    (z_all : PySem.W.nsIn K mainGlobals "all" = some none) (z_bool : PySem.W.nsIn K mainGlobals "bool" = some none) (z_enumerate : PySem.W.nsIn K mainGlobals "enumerate" = some none) (z_int : PySem.W.nsIn K mainGlobals "int" = some none) (z_isinstance : PySem.W.nsIn K mainGlobals "isinstance" = some none) (z_len : PySem.W.nsIn K mainGlobals "len" = some none) (z_list : PySem.W.nsIn K mainGlobals "list" = some none) (z_max : PySem.W.nsIn K mainGlobals "max" = some none) (z_min : PySem.W.nsIn K mainGlobals "min" = some none) (z_range : PySem.W.nsIn K mainGlobals "range" = some none) (z_sum : PySem.W.nsIn K mainGlobals "sum" = some none) (z_tuple : PySem.W.nsIn K mainGlobals "tuple" = some none) {t_HEAD : Tok} (y_HEAD : PySem.W.nsIn K mainGlobals "HEAD" = some (some (.int 14 t_HEAD))) {t_LEAST : Tok} (y_LEAST : PySem.W.nsIn K mainGlobals "LEAST" = some (some (.int 22 t_LEAST))) {t_MOST_BYTE : Tok} (y_MOST_BYTE : PySem.W.nsIn K mainGlobals "MOST_BYTE" = some (some (.int 255 t_MOST_BYTE))) {t_MOST_TOGETHER : Tok} (y_MOST_TOGETHER : PySem.W.nsIn K mainGlobals "MOST_TOGETHER" = some (some (.int 1000 t_MOST_TOGETHER))) {t_MOST_WORD : Tok} (y_MOST_WORD : PySem.W.nsIn K mainGlobals "MOST_WORD" = some (some (.int 65535 t_MOST_WORD))) (e_NoNumber : PySem.W.excIn K ca_NoNumber [.type "ValueError", .type "Exception", .type "BaseException", .type "object"] "ValueError.__new__" = true) (k_NoNumber : PySem.W.keepIn K (.ref ca_NoNumber) = true) (b_NoNumber : PySem.W.subIn K (.ref ca_NoNumber) (.type "BaseException") = some true) (t_NoNumber : PySem.W.typeIn K (.ref ca_NoNumber) = some (.type "type")) (e_NoPacket : PySem.W.excIn K ca_NoPacket [.type "ValueError", .type "Exception", .type "BaseException", .type "object"] "ValueError.__new__" = true) (k_NoPacket : PySem.W.keepIn K (.ref ca_NoPacket) = true) (b_NoPacket : PySem.W.subIn K (.ref ca_NoPacket) (.type "BaseException") = some true) (t_NoPacket : PySem.W.typeIn K (.ref ca_NoPacket) = some (.type "type")) (e_NoTick : PySem.W.excIn K ca_NoTick [.type "ValueError", .type "Exception", .type "BaseException", .type "object"] "ValueError.__new__" = true) (k_NoTick : PySem.W.keepIn K (.ref ca_NoTick) = true) (b_NoTick : PySem.W.subIn K (.ref ca_NoTick) (.type "BaseException") = some true) (t_NoTick : PySem.W.typeIn K (.ref ca_NoTick) = some (.type "type")) (cl_Heap : Cls K ca_Heap) (mk_Heap : PySem.W.makesIn K ca_Heap = true) (kc_Heap : PySem.W.keepIn K (.ref ca_Heap) = true) (n_Heap_by_places : PySem.W.findIn K (.ref ca_Heap) "by_places" = some none) (n_Heap_end_place : PySem.W.findIn K (.ref ca_Heap) "end_place" = some none) (n_Heap_least_life : PySem.W.findIn K (.ref ca_Heap) "least_life" = some none) (n_Heap_since : PySem.W.findIn K (.ref ca_Heap) "since" = some none) (cl_Joiner : Cls K ca_Joiner) (mk_Joiner : PySem.W.makesIn K ca_Joiner = true) (kc_Joiner : PySem.W.keepIn K (.ref ca_Joiner) = true) (n_Joiner_heaps : PySem.W.findIn K (.ref ca_Joiner) "heaps" = some none) (n_Joiner_last_tick : PySem.W.findIn K (.ref ca_Joiner) "last_tick" = some none) (n_Joiner_most_held : PySem.W.findIn K (.ref ca_Joiner) "most_held" = some none) (n_Joiner_patience : PySem.W.findIn K (.ref ca_Joiner) "patience" = some none) (cl_Packet : Cls K ca_Packet) (mk_Packet : PySem.W.makesIn K ca_Packet = true) (kc_Packet : PySem.W.keepIn K (.ref ca_Packet) = true) (n_Packet_data : PySem.W.findIn K (.ref ca_Packet) "data" = some none) (n_Packet_first : PySem.W.findIn K (.ref ca_Packet) "first" = some none) (n_Packet_kind : PySem.W.findIn K (.ref ca_Packet) "kind" = some none) (n_Packet_life : PySem.W.findIn K (.ref ca_Packet) "life" = some none) (n_Packet_more : PySem.W.findIn K (.ref ca_Packet) "more" = some none) (n_Packet_name : PySem.W.findIn K (.ref ca_Packet) "name" = some none) (n_Packet_source : PySem.W.findIn K (.ref ca_Packet) "source" = some none) (n_Packet_target : PySem.W.findIn K (.ref ca_Packet) "target" = some none) (in_Heap : DL.InC K ca_Heap) (in_Joiner : DL.InC K ca_Joiner) (in_Packet : DL.InC K ca_Packet) (x_NoNumber : ExcC K ca_NoNumber) (x_NoPacket : ExcC K ca_NoPacket) (x_NoTick : ExcC K ca_NoTick) (i_NoneType_Packet : PySem.W.kitOne K (.type "NoneType") (.ref ca_Packet) = some false) (i_bool_Packet : PySem.W.kitOne K (.type "bool") (.ref ca_Packet) = some false) (i_int_Packet : PySem.W.kitOne K (.type "int") (.ref ca_Packet) = some false) (i_str_Packet : PySem.W.kitOne K (.type "str") (.ref ca_Packet) = some false) (i_tuple_Packet : PySem.W.kitOne K (.type "tuple") (.ref ca_Packet) = some false) (i_list_Packet : PySem.W.kitOne K (.type "list") (.ref ca_Packet) = some false) (i_dict_Packet : PySem.W.kitOne K (.type "dict") (.ref ca_Packet) = some false) (i_Heap_Packet : PySem.W.kitOne K (.ref ca_Heap) (.ref ca_Packet) = some false) (i_Heap_bool : PySem.W.kitOne K (.ref ca_Heap) (.type "bool") = some false) (i_Heap_int : PySem.W.kitOne K (.ref ca_Heap) (.type "int") = some false) (i_Heap_tuple : PySem.W.kitOne K (.ref ca_Heap) (.type "tuple") = some false) (i_Joiner_Packet : PySem.W.kitOne K (.ref ca_Joiner) (.ref ca_Packet) = some false) (i_Joiner_bool : PySem.W.kitOne K (.ref ca_Joiner) (.type "bool") = some false) (i_Joiner_int : PySem.W.kitOne K (.ref ca_Joiner) (.type "int") = some false) (i_Joiner_tuple : PySem.W.kitOne K (.ref ca_Joiner) (.type "tuple") = some false) (i_Packet_Packet : PySem.W.kitOne K (.ref ca_Packet) (.ref ca_Packet) = some true) (i_Packet_bool : PySem.W.kitOne K (.ref ca_Packet) (.type "bool") = some false) (i_Packet_int : PySem.W.kitOne K (.ref ca_Packet) (.type "int") = some false) (i_Packet_tuple : PySem.W.kitOne K (.ref ca_Packet) (.type "tuple") = some false) (i_NoNumber_Packet : PySem.W.kitOne K (.ref ca_NoNumber) (.ref ca_Packet) = some false) (i_NoNumber_bool : PySem.W.kitOne K (.ref ca_NoNumber) (.type "bool") = some false) (i_NoNumber_int : PySem.W.kitOne K (.ref ca_NoNumber) (.type "int") = some false) (i_NoNumber_tuple : PySem.W.kitOne K (.ref ca_NoNumber) (.type "tuple") = some false) (i_NoPacket_Packet : PySem.W.kitOne K (.ref ca_NoPacket) (.ref ca_Packet) = some false) (i_NoPacket_bool : PySem.W.kitOne K (.ref ca_NoPacket) (.type "bool") = some false) (i_NoPacket_int : PySem.W.kitOne K (.ref ca_NoPacket) (.type "int") = some false) (i_NoPacket_tuple : PySem.W.kitOne K (.ref ca_NoPacket) (.type "tuple") = some false) (i_NoTick_Packet : PySem.W.kitOne K (.ref ca_NoTick) (.ref ca_Packet) = some false) (i_NoTick_bool : PySem.W.kitOne K (.ref ca_NoTick) (.type "bool") = some false) (i_NoTick_int : PySem.W.kitOne K (.ref ca_NoTick) (.type "int") = some false) (i_NoTick_tuple : PySem.W.kitOne K (.ref ca_NoTick) (.type "tuple") = some false) :
    ∃ fd : FuncData, (∀ (s : Shared) (v : Value), BindsTo s fd ⟨[v], []⟩ [("_law_script", v)]) ∧ ∀ base : Heap, K.In base → base.Ns mainGlobals mg → FnOk l.prog w K mg base CX0 9 fa fd ["_law_script"] (spLaw K) := by
  have e := hfa.symm.trans (PySem.W.mg_of X G a25)
  cases e
  obtain ⟨ca, hT, q_Heap, q_Joiner, q_NoNumber, q_NoPacket, q_NoTick, q_Packet⟩ : ∃ ca : CaT, ca.T = [] ∧ ca "Heap" = ca_Heap ∧ ca "Joiner" = ca_Joiner ∧ ca "NoNumber" = ca_NoNumber ∧ ca "NoPacket" = ca_NoPacket ∧ ca "NoTick" = ca_NoTick ∧ ca "Packet" = ca_Packet := ⟨⟨fun x => if x = "Heap" then ca_Heap else if x = "Joiner" then ca_Joiner else if x = "NoNumber" then ca_NoNumber else if x = "NoPacket" then ca_NoPacket else if x = "NoTick" then ca_NoTick else if x = "Packet" then ca_Packet else 0, []⟩, rfl, by simp, by simp, by simp, by simp, by simp, by simp⟩
  subst q_Heap q_Joiner q_NoNumber q_NoPacket q_NoTick q_Packet
  have T : Txt K mg ca := ⟨PySem.W.mg_of X G g_Heap, PySem.W.mg_of X G g_Joiner, PySem.W.mg_of X G g_NoNumber, PySem.W.mg_of X G g_NoPacket, PySem.W.mg_of X G g_NoTick, PySem.W.mg_of X G g_Packet, e_NoNumber, k_NoNumber, b_NoNumber, t_NoNumber, e_NoPacket, k_NoPacket, b_NoPacket, t_NoPacket, e_NoTick, k_NoTick, b_NoTick, t_NoTick, cl_Heap, mk_Heap, kc_Heap, n_Heap_by_places, n_Heap_end_place, n_Heap_least_life, n_Heap_since, cl_Joiner, mk_Joiner, kc_Joiner, n_Joiner_heaps, n_Joiner_last_tick, n_Joiner_most_held, n_Joiner_patience, cl_Packet, mk_Packet, kc_Packet, n_Packet_data, n_Packet_first, n_Packet_kind, n_Packet_life, n_Packet_more, n_Packet_name, n_Packet_source, n_Packet_target, ⟨⟨in_Heap, by decide⟩, ⟨in_Joiner, by decide⟩, ⟨in_Packet, by decide⟩, trivial⟩, ⟨⟨x_NoNumber, by decide⟩, ⟨x_NoPacket, by decide⟩, ⟨x_NoTick, by decide⟩, trivial⟩, (by unfold tb_; exact .cons (by simpa [vOf, btn] using i_NoneType_Packet) (.cons (by simpa [vOf, btn] using i_bool_Packet) (.cons (by simpa [vOf, btn] using i_int_Packet) (.cons (by simpa [vOf, btn] using i_str_Packet) (.cons (by simpa [vOf, btn] using i_tuple_Packet) (.cons (by simpa [vOf, btn] using i_list_Packet) (.cons (by simpa [vOf, btn] using i_dict_Packet) (.cons (by simpa [vOf, btn] using i_Heap_Packet) (.cons (by simpa [vOf, btn] using i_Heap_bool) (.cons (by simpa [vOf, btn] using i_Heap_int) (.cons (by simpa [vOf, btn] using i_Heap_tuple) (.cons (by simpa [vOf, btn] using i_Joiner_Packet) (.cons (by simpa [vOf, btn] using i_Joiner_bool) (.cons (by simpa [vOf, btn] using i_Joiner_int) (.cons (by simpa [vOf, btn] using i_Joiner_tuple) (.cons (by simpa [vOf, btn] using i_Packet_Packet) (.cons (by simpa [vOf, btn] using i_Packet_bool) (.cons (by simpa [vOf, btn] using i_Packet_int) (.cons (by simpa [vOf, btn] using i_Packet_tuple) (.cons (by simpa [vOf, btn] using i_NoNumber_Packet) (.cons (by simpa [vOf, btn] using i_NoNumber_bool) (.cons (by simpa [vOf, btn] using i_NoNumber_int) (.cons (by simpa [vOf, btn] using i_NoNumber_tuple) (.cons (by simpa [vOf, btn] using i_NoPacket_Packet) (.cons (by simpa [vOf, btn] using i_NoPacket_bool) (.cons (by simpa [vOf, btn] using i_NoPacket_int) (.cons (by simpa [vOf, btn] using i_NoPacket_tuple) (.cons (by simpa [vOf, btn] using i_NoTick_Packet) (.cons (by simpa [vOf, btn] using i_NoTick_bool) (.cons (by simpa [vOf, btn] using i_NoTick_int) (.cons (by simpa [vOf, btn] using i_NoTick_tuple) (.nil)))))))))))))))))))))))))))))))), PySem.W.mg_none_of X G z_all, PySem.W.mg_none_of X G z_bool, PySem.W.mg_none_of X G z_enumerate, PySem.W.mg_none_of X G z_int, PySem.W.mg_none_of X G z_isinstance, PySem.W.mg_none_of X G z_len, PySem.W.mg_none_of X G z_list, PySem.W.mg_none_of X G z_max, PySem.W.mg_none_of X G z_min, PySem.W.mg_none_of X G z_range, PySem.W.mg_none_of X G z_sum, PySem.W.mg_none_of X G z_tuple, ⟨_, PySem.W.mg_of X G y_HEAD⟩, ⟨_, PySem.W.mg_of X G y_LEAST⟩, ⟨_, PySem.W.mg_of X G y_MOST_BYTE⟩, ⟨_, PySem.W.mg_of X G y_MOST_TOGETHER⟩, ⟨_, PySem.W.mg_of X G y_MOST_WORD⟩, True.intro⟩
  have F0 := fun_mk (st := s_need_many) l0 c0 k0
  have b0 := F0.binds (ps := ["thing"]) fun _ _ _ _ _ _ us hl => match us, hl with | [_], _ => rfl
  have F1 := fun_mk (st := s_Joiner___init__) l1 c1 k1
  have b1 := F1.binds (ps := ["self", "patience", "room"]) fun _ _ _ _ _ _ us hl => match us, hl with | [_, _, _], _ => rfl
  have F2 := fun_mk (st := s_l_cell_at) l2 c2 k2
  have b2 := F2.binds (ps := ["_law_script", "_law_k"]) fun _ _ _ _ _ _ us hl => match us, hl with | [_, _], _ => rfl
  have F3 := fun_mk (st := s_Heap___init__) l3 c3 k3
  have b3 := F3.binds (ps := ["self", "tick", "life"]) fun _ _ _ _ _ _ us hl => match us, hl with | [_, _, _], _ => rfl
  have F4 := fun_mk (st := s_Heap_hold) l4 c4 k4
  have b4 := F4.binds (ps := ["self", "packet"]) fun _ _ _ _ _ _ us hl => match us, hl with | [_, _], _ => rfl
  have F5 := fun_mk (st := s_Heap_is_there) l5 c5 k5
  have b5 := F5.binds (ps := ["self"]) fun _ _ _ _ _ _ us hl => match us, hl with | [_], _ => rfl
  have F6 := fun_mk (st := s_is_number) l6 c6 k6
  have b6 := F6.binds (ps := ["thing", "most"]) fun _ _ _ _ _ _ us hl => match us, hl with | [_, _], _ => rfl
  have F7 := fun_mk (st := s_are_bytes) l7 c7 k7
  have b7 := F7.binds (ps := ["thing", "most"]) fun _ _ _ _ _ _ us hl => match us, hl with | [_, _], _ => rfl
  have F8 := fun_mk (st := s_Packet___init__) l8 c8 k8
  have b8 := F8.binds (ps := ["self", "source", "target", "kind", "life", "name", "first", "more", "data"]) fun _ _ _ _ _ _ us hl => match us, hl with | [_, _, _, _, _, _, _, _, _], _ => rfl
  have F9 := fun_mk (st := s_Heap_packet_made) l9 c9 k9
  have b9 := F9.binds (ps := ["self", "four"]) fun _ _ _ _ _ _ us hl => match us, hl with | [_, _], _ => rfl
  have F10 := fun_mk (st := s_Joiner_let_first_go) l10 c10 k10
  have b10 := F10.binds (ps := ["self"]) fun _ _ _ _ _ _ us hl => match us, hl with | [_], _ => rfl
  have F11 := fun_mk (st := s_Joiner_let_old_go) l11 c11 k11
  have b11 := F11.binds (ps := ["self", "tick"]) fun _ _ _ _ _ _ us hl => match us, hl with | [_, _], _ => rfl
  have F12 := fun_mk (st := s_Joiner_take) l12 c12 k12
  have b12 := F12.binds (ps := ["self", "packet", "tick"]) fun _ _ _ _ _ _ us hl => match us, hl with | [_, _, _], _ => rfl
  have F13 := fun_mk (st := s_Packet_told) l13 c13 k13
  have b13 := F13.binds (ps := ["self"]) fun _ _ _ _ _ _ us hl => match us, hl with | [_], _ => rfl
  have F14 := fun_mk (st := s_l_next) l14 c14 k14
  have b14 := F14.binds (ps := ["_law_state_here", "_law_size"]) fun _ _ _ _ _ _ us hl => match us, hl with | [_, _], _ => rfl
  have F15 := fun_mk (st := s_piece_of) l15 c15 k15
  have b15 := F15.binds (ps := ["packet", "begin", "end", "more"]) fun _ _ _ _ _ _ us hl => match us, hl with | [_, _, _, _], _ => rfl
  have F16 := fun_mk (st := s_cut) l16 c16 k16
  have b16 := F16.binds (ps := ["packet", "most"]) fun _ _ _ _ _ _ us hl => match us, hl with | [_, _], _ => rfl
  have F17 := fun_mk (st := s_l_cut) l17 c17 k17
  have b17 := F17.binds (ps := ["_law_packet", "_law_state_here"]) fun _ _ _ _ _ _ us hl => match us, hl with | [_, _], _ => rfl
  have F18 := fun_mk (st := s_l_head) l18 c18 k18
  have b18 := F18.binds (ps := ["_law_state_here"]) fun _ _ _ _ _ _ us hl => match us, hl with | [_], _ => rfl
  have F19 := fun_mk (st := s_l_order) l19 c19 k19
  have b19 := F19.binds (ps := ["_law_rows", "_law_state_here"]) fun _ _ _ _ _ _ us hl => match us, hl with | [_, _], _ => rfl
  have F20 := fun_mk (st := s_l_packet_of) l20 c20 k20
  have b20 := F20.binds (ps := ["_law_row"]) fun _ _ _ _ _ _ us hl => match us, hl with | [_], _ => rfl
  have F21 := fun_mk (st := s_l_same) l21 c21 k21
  have b21 := F21.binds (ps := ["_law_found", "_law_due"]) fun _ _ _ _ _ _ us hl => match us, hl with | [_, _], _ => rfl
  have F22 := fun_mk (st := s_l_some_data) l22 c22 k22
  have b22 := F22.binds (ps := ["_law_state_here", "_law_most"]) fun _ _ _ _ _ _ us hl => match us, hl with | [_, _], _ => rfl
  have F23 := fun_mk (st := s_l_right) l23 c23 k23
  have b23 := F23.binds (ps := ["_law_state_here", "_law_tick", "_law_joiner"]) fun _ _ _ _ _ _ us hl => match us, hl with | [_, _, _], _ => rfl
  have F24 := fun_mk (st := s_l_state) l24 c24 k24
  have b24 := F24.binds (ps := ["_law_cell", "_law_k"]) fun _ _ _ _ _ _ us hl => match us, hl with | [_, _], _ => rfl
  have F25 := fun_mk (st := s_law) l25 c25 k25
  have b25 := F25.binds (ps := ["_law_script"]) fun _ _ _ _ _ _ us hl => match us, hl with | [_], _ => rfl
  refine ⟨PySem.W.fnOf "law" "law" (defArgs s_law) (defBody s_law) (defScope s_law) .none kV25 dc25 pm25 an25 cd25 ct25, fun s v => .of_eq rfl, fun base _ _ => ?_⟩
  have C_need_many := Dx.of2 (ok_need_many (P := l.prog) (w := w) (mg := mg) (base := base) T F0 ) F0 (PySem.W.mg_of X G a0) b0
  have M_Joiner := Mx.of ⟨mk_Joiner, a1, i1, kc_Joiner⟩ (ok_Joiner___init__ (P := l.prog) (w := w) (mg := mg) (base := base) T F1 C_need_many) (PySem.W.mg_of X G g_Joiner) b1
  have C_l_cell_at := Dx.of2 (ok_l_cell_at (P := l.prog) (w := w) (mg := mg) (base := base) T F2 ) F2 (PySem.W.mg_of X G a2) b2
  have M_Heap := Mx.of ⟨mk_Heap, a3, i3, kc_Heap⟩ (ok_Heap___init__ (P := l.prog) (w := w) (mg := mg) (base := base) T F3 ) (PySem.W.mg_of X G g_Heap) b3
  have M_Heap_hold := SM.Mt.of ⟨a4, i4, k4⟩ (ok_Heap_hold (P := l.prog) (w := w) (mg := mg) (base := base) T F4 ) b4
  have M_Heap_is_there := SM.Mt.of ⟨a5, i5, k5⟩ (ok_Heap_is_there (P := l.prog) (w := w) (mg := mg) (base := base) T F5 ) b5
  have C_is_number := Dx.of2 (ok_is_number (P := l.prog) (w := w) (mg := mg) (base := base) T F6 ) F6 (PySem.W.mg_of X G a6) b6
  have C_are_bytes := Dx.of2 (ok_are_bytes (P := l.prog) (w := w) (mg := mg) (base := base) T F7 C_is_number) F7 (PySem.W.mg_of X G a7) b7
  have M_Packet := Mx.of ⟨mk_Packet, a8, i8, kc_Packet⟩ (ok_Packet___init__ (P := l.prog) (w := w) (mg := mg) (base := base) T F8 C_are_bytes C_is_number) (PySem.W.mg_of X G g_Packet) b8
  have M_Heap_packet_made := SM.Mt.of ⟨a9, i9, k9⟩ (ok_Heap_packet_made (P := l.prog) (w := w) (mg := mg) (base := base) T F9 M_Packet) b9
  have M_Joiner_let_first_go := SM.Mt.of ⟨a10, i10, k10⟩ (ok_Joiner_let_first_go (P := l.prog) (w := w) (mg := mg) (base := base) T F10 ) b10
  have M_Joiner_let_old_go := SM.Mt.of ⟨a11, i11, k11⟩ (ok_Joiner_let_old_go (P := l.prog) (w := w) (mg := mg) (base := base) T F11 ) b11
  have M_Joiner_take := SM.Mt.of ⟨a12, i12, k12⟩ (ok_Joiner_take (P := l.prog) (w := w) (mg := mg) (base := base) T F12 M_Heap M_Heap_hold M_Heap_is_there M_Heap_packet_made M_Joiner_let_first_go M_Joiner_let_old_go) b12
  have M_Packet_told := SM.Mt.of ⟨a13, i13, k13⟩ (ok_Packet_told (P := l.prog) (w := w) (mg := mg) (base := base) T F13 ) b13
  have C_l_next := Dx.of2 (ok_l_next (P := l.prog) (w := w) (mg := mg) (base := base) T F14 ) F14 (PySem.W.mg_of X G a14) b14
  have C_piece_of := Dx.of2 (ok_piece_of (P := l.prog) (w := w) (mg := mg) (base := base) T F15 M_Packet) F15 (PySem.W.mg_of X G a15) b15
  have C_cut := Dx.of2 (ok_cut (P := l.prog) (w := w) (mg := mg) (base := base) T F16 C_piece_of) F16 (PySem.W.mg_of X G a16) b16
  have C_l_cut := Dx.of2 (ok_l_cut (P := l.prog) (w := w) (mg := mg) (base := base) T F17 M_Packet_told C_l_next C_cut) F17 (PySem.W.mg_of X G a17) b17
  have C_l_head := Dx.of2 (ok_l_head (P := l.prog) (w := w) (mg := mg) (base := base) T F18 C_l_next) F18 (PySem.W.mg_of X G a18) b18
  have C_l_order := Dx.of2 (ok_l_order (P := l.prog) (w := w) (mg := mg) (base := base) T F19 C_l_next) F19 (PySem.W.mg_of X G a19) b19
  have C_l_packet_of := Dx.of2 (ok_l_packet_of (P := l.prog) (w := w) (mg := mg) (base := base) T F20 M_Packet) F20 (PySem.W.mg_of X G a20) b20
  have C_l_same := Dx.of2 (ok_l_same (P := l.prog) (w := w) (mg := mg) (base := base) T F21 M_Packet_told) F21 (PySem.W.mg_of X G a21) b21
  have C_l_some_data := Dx.of2 (ok_l_some_data (P := l.prog) (w := w) (mg := mg) (base := base) T F22 C_l_next) F22 (PySem.W.mg_of X G a22) b22
  have C_l_right := Dx.of2 (ok_l_right (P := l.prog) (w := w) (mg := mg) (base := base) T F23 M_Joiner_take C_l_cut C_l_head C_l_next C_l_order C_l_packet_of C_l_same C_l_some_data) F23 (PySem.W.mg_of X G a23) b23
  have C_l_state := Dx.of2 (ok_l_state (P := l.prog) (w := w) (mg := mg) (base := base) T F24 ) F24 (PySem.W.mg_of X G a24) b24
  exact (ok_law T F25 M_Joiner C_l_cell_at C_l_right C_l_state).imp (law_imp hT)
theorem walk {l : PySem.W.OpenLaw} {q : Program} {loose : List Str} {XP : (Str → Option Value) → Heap → Prop} {YP : World → Heap → Prop} {d : DefRec} {K : Params → PySem.W.Frag} (hn : l.most = some 63) (hdf : d.params.defaults = [])
    (hY : ∀ (w : World) (h : Heap), YP w h → (K w.params).In h)
    (F : ∀ (w : World) (mg : Str → Option Value) (fa : Addr) (h : Heap), (K w.params).In h → h.Ns mainGlobals mg → mg d.name = some (.ref fa) →
      ∃ fd : FuncData, (∀ (s : Shared) (u : Value), BindsTo s fd ⟨[u], []⟩ [("_law_script", u)]) ∧ ∀ base : Heap, (K w.params).In base → base.Ns mainGlobals mg → FnOk l.prog w (K w.params) mg base CX0 9 fa fd ["_law_script"] (spLaw (K w.params))) :
    PySem.W.WalkO q loose XP YP l.row.toRowW d [] (fun f vs => PySem.call f vs) :=
  L2.walk_of (n := 63) (k := 9) (x := "_law_script") (CX := fun _ => CX0) (sp := fun w => spLaw (K w.params)) hn (by decide) hdf ⟨rfl, by decide, by decide⟩ hY F (fun _ _ a ns hl _ hS => ⟨a, ns, rfl, hS, hl, fun _ => rfl⟩) fun _ _ _ _ _ z => z
end Kk
open PySem PySem.W PyProof.Rows in
set_option maxRecDepth 100000 in
set_option maxHeartbeats 0 in
theorem PySem.Challenge.cw_surewire_k40_whole_pieces_come_together_holds : PySem.Challenge.rw_surewire_k40_whole_pieces_come_together.Holds := by
  w_on; o_law; k_head; (case hw => w_witness2)
  k_fill
  refine Kk.walk (l := PySem.Challenge.rw_surewire_k40_whole_pieces_come_together) rfl rfl (fun w h Y => PySem.W.kIn_of Y) ?F
  case F =>
    intro w mg fa h KX G hmg
    refine' Kk.all_mk KX G hmg ?g_Heap ?g_Joiner ?g_NoNumber ?g_NoPacket ?g_NoTick ?g_Packet ?a0 ?l0 ?c0 ?k0 ?a1 ?i1 ?l1 ?c1 ?k1 ?a2 ?l2 ?c2 ?k2 ?a3 ?i3 ?l3 ?c3 ?k3 ?a4 ?i4 ?l4 ?c4 ?k4 ?a5 ?i5 ?l5 ?c5 ?k5 ?a6 ?l6 ?c6 ?k6 ?a7 ?l7 ?c7 ?k7 ?a8 ?i8 ?l8 ?c8 ?k8 ?a9 ?i9 ?l9 ?c9 ?k9 ?a10 ?i10 ?l10 ?c10 ?k10 ?a11 ?i11 ?l11 ?c11 ?k11 ?a12 ?i12 ?l12 ?c12 ?k12 ?a13 ?i13 ?l13 ?c13 ?k13 ?a14 ?l14 ?c14 ?k14 ?a15 ?l15 ?c15 ?k15 ?a16 ?l16 ?c16 ?k16 ?a17 ?l17 ?c17 ?k17 ?a18 ?l18 ?c18 ?k18 ?a19 ?l19 ?c19 ?k19 ?a20 ?l20 ?c20 ?k20 ?a21 ?l21 ?c21 ?k21 ?a22 ?l22 ?c22 ?k22 ?a23 ?l23 ?c23 ?k23 ?a24 ?l24 ?c24 ?k24 ?a25 ?l25 ?c25 ?k25 ?z_all ?z_bool ?z_enumerate ?z_int ?z_isinstance ?z_len ?z_list ?z_max ?z_min ?z_range ?z_sum ?z_tuple ?y_HEAD ?y_LEAST ?y_MOST_BYTE ?y_MOST_TOGETHER ?y_MOST_WORD ?e_NoNumber ?k_NoNumber ?b_NoNumber ?t_NoNumber ?e_NoPacket ?k_NoPacket ?b_NoPacket ?t_NoPacket ?e_NoTick ?k_NoTick ?b_NoTick ?t_NoTick ?cl_Heap ?mk_Heap ?kc_Heap ?n_Heap_by_places ?n_Heap_end_place ?n_Heap_least_life ?n_Heap_since ?cl_Joiner ?mk_Joiner ?kc_Joiner ?n_Joiner_heaps ?n_Joiner_last_tick ?n_Joiner_most_held ?n_Joiner_patience ?cl_Packet ?mk_Packet ?kc_Packet ?n_Packet_data ?n_Packet_first ?n_Packet_kind ?n_Packet_life ?n_Packet_more ?n_Packet_name ?n_Packet_source ?n_Packet_target ?in_Heap ?in_Joiner ?in_Packet ?x_NoNumber ?x_NoPacket ?x_NoTick ?i_NoneType_Packet ?i_bool_Packet ?i_int_Packet ?i_str_Packet ?i_tuple_Packet ?i_list_Packet ?i_dict_Packet ?i_Heap_Packet ?i_Heap_bool ?i_Heap_int ?i_Heap_tuple ?i_Joiner_Packet ?i_Joiner_bool ?i_Joiner_int ?i_Joiner_tuple ?i_Packet_Packet ?i_Packet_bool ?i_Packet_int ?i_Packet_tuple ?i_NoNumber_Packet ?i_NoNumber_bool ?i_NoNumber_int ?i_NoNumber_tuple ?i_NoPacket_Packet ?i_NoPacket_bool ?i_NoPacket_int ?i_NoPacket_tuple ?i_NoTick_Packet ?i_NoTick_bool ?i_NoTick_int ?i_NoTick_tuple
    (case g_Heap => k_is)
    (case g_Joiner => k_is)
    (case g_NoNumber => k_is)
    (case g_NoPacket => k_is)
    (case g_NoTick => k_is)
    (case g_Packet => k_is)
    (case a0 => k_is)
    (case l0 => k_is)
    (case c0 => k_is)
    (case k0 => k_is)
    (case a1 => k_is)
    (case i1 => k_is)
    (case l1 => k_is)
    (case c1 => k_is)
    (case k1 => k_is)
    (case a2 => k_is)
    (case l2 => k_is)
    (case c2 => k_is)
    (case k2 => k_is)
    (case a3 => k_is)
    (case i3 => k_is)
    (case l3 => k_is)
    (case c3 => k_is)
    (case k3 => k_is)
    (case a4 => k_is)
    (case i4 => k_is)
    (case l4 => k_is)
    (case c4 => k_is)
    (case k4 => k_is)
    (case a5 => k_is)
    (case i5 => k_is)
    (case l5 => k_is)
    (case c5 => k_is)
    (case k5 => k_is)
    (case a6 => k_is)
    (case l6 => k_is)
    (case c6 => k_is)
    (case k6 => k_is)
    (case a7 => k_is)
    (case l7 => k_is)
    (case c7 => k_is)
    (case k7 => k_is)
    (case a8 => k_is)
    (case i8 => k_is)
    (case l8 => k_is)
    (case c8 => k_is)
    (case k8 => k_is)
    (case a9 => k_is)
    (case i9 => k_is)
    (case l9 => k_is)
    (case c9 => k_is)
    (case k9 => k_is)
    (case a10 => k_is)
    (case i10 => k_is)
    (case l10 => k_is)
    (case c10 => k_is)
    (case k10 => k_is)
    (case a11 => k_is)
    (case i11 => k_is)
    (case l11 => k_is)
    (case c11 => k_is)
    (case k11 => k_is)
    (case a12 => k_is)
    (case i12 => k_is)
    (case l12 => k_is)
    (case c12 => k_is)
    (case k12 => k_is)
    (case a13 => k_is)
    (case i13 => k_is)
    (case l13 => k_is)
    (case c13 => k_is)
    (case k13 => k_is)
    (case a14 => k_is)
    (case l14 => k_is)
    (case c14 => k_is)
    (case k14 => k_is)
    (case a15 => k_is)
    (case l15 => k_is)
    (case c15 => k_is)
    (case k15 => k_is)
    (case a16 => k_is)
    (case l16 => k_is)
    (case c16 => k_is)
    (case k16 => k_is)
    (case a17 => k_is)
    (case l17 => k_is)
    (case c17 => k_is)
    (case k17 => k_is)
    (case a18 => k_is)
    (case l18 => k_is)
    (case c18 => k_is)
    (case k18 => k_is)
    (case a19 => k_is)
    (case l19 => k_is)
    (case c19 => k_is)
    (case k19 => k_is)
    (case a20 => k_is)
    (case l20 => k_is)
    (case c20 => k_is)
    (case k20 => k_is)
    (case a21 => k_is)
    (case l21 => k_is)
    (case c21 => k_is)
    (case k21 => k_is)
    (case a22 => k_is)
    (case l22 => k_is)
    (case c22 => k_is)
    (case k22 => k_is)
    (case a23 => k_is)
    (case l23 => k_is)
    (case c23 => k_is)
    (case k23 => k_is)
    (case a24 => k_is)
    (case l24 => k_is)
    (case c24 => k_is)
    (case k24 => k_is)
    (case a25 => k_is)
    (case l25 => k_is)
    (case c25 => k_is)
    (case k25 => k_is)
    (case z_all => k_is)
    (case z_bool => k_is)
    (case z_enumerate => k_is)
    (case z_int => k_is)
    (case z_isinstance => k_is)
    (case z_len => k_is)
    (case z_list => k_is)
    (case z_max => k_is)
    (case z_min => k_is)
    (case z_range => k_is)
    (case z_sum => k_is)
    (case z_tuple => k_is)
    (case y_HEAD => k_is)
    (case y_LEAST => k_is)
    (case y_MOST_BYTE => k_is)
    (case y_MOST_TOGETHER => k_is)
    (case y_MOST_WORD => k_is)
    (case e_NoNumber => k_exc)
    (case k_NoNumber => k_is)
    (case b_NoNumber => k_is)
    (case t_NoNumber => k_is)
    (case e_NoPacket => k_exc)
    (case k_NoPacket => k_is)
    (case b_NoPacket => k_is)
    (case t_NoPacket => k_is)
    (case e_NoTick => k_exc)
    (case k_NoTick => k_is)
    (case b_NoTick => k_is)
    (case t_NoTick => k_is)
    (case cl_Heap => exact ⟨by k_is, by k_is, by k_is, by k_is⟩)
    (case mk_Heap => k_is)
    (case kc_Heap => k_is)
    (case n_Heap_by_places => k_is)
    (case n_Heap_end_place => k_is)
    (case n_Heap_least_life => k_is)
    (case n_Heap_since => k_is)
    (case cl_Joiner => exact ⟨by k_is, by k_is, by k_is, by k_is⟩)
    (case mk_Joiner => k_is)
    (case kc_Joiner => k_is)
    (case n_Joiner_heaps => k_is)
    (case n_Joiner_last_tick => k_is)
    (case n_Joiner_most_held => k_is)
    (case n_Joiner_patience => k_is)
    (case cl_Packet => exact ⟨by k_is, by k_is, by k_is, by k_is⟩)
    (case mk_Packet => k_is)
    (case kc_Packet => k_is)
    (case n_Packet_data => k_is)
    (case n_Packet_first => k_is)
    (case n_Packet_kind => k_is)
    (case n_Packet_life => k_is)
    (case n_Packet_more => k_is)
    (case n_Packet_name => k_is)
    (case n_Packet_source => k_is)
    (case n_Packet_target => k_is)
    (case in_Heap => exact ⟨⟨by k_is, by k_is, by k_is, by k_is⟩, by k_is, by k_is, by k_is, by k_is⟩)
    (case in_Joiner => exact ⟨⟨by k_is, by k_is, by k_is, by k_is⟩, by k_is, by k_is, by k_is, by k_is⟩)
    (case in_Packet => exact ⟨⟨by k_is, by k_is, by k_is, by k_is⟩, by k_is, by k_is, by k_is, by k_is⟩)
    (case x_NoNumber => exact ⟨by k_is, by k_is, by k_is, by k_is, by k_is, by k_is, by k_is, by k_is⟩)
    (case x_NoPacket => exact ⟨by k_is, by k_is, by k_is, by k_is, by k_is, by k_is, by k_is, by k_is⟩)
    (case x_NoTick => exact ⟨by k_is, by k_is, by k_is, by k_is, by k_is, by k_is, by k_is, by k_is⟩)
    (case i_NoneType_Packet => first | k_is | kit_is)
    (case i_bool_Packet => first | k_is | kit_is)
    (case i_int_Packet => first | k_is | kit_is)
    (case i_str_Packet => first | k_is | kit_is)
    (case i_tuple_Packet => first | k_is | kit_is)
    (case i_list_Packet => first | k_is | kit_is)
    (case i_dict_Packet => first | k_is | kit_is)
    (case i_Heap_Packet => first | k_is | kit_is)
    (case i_Heap_bool => first | k_is | kit_is)
    (case i_Heap_int => first | k_is | kit_is)
    (case i_Heap_tuple => first | k_is | kit_is)
    (case i_Joiner_Packet => first | k_is | kit_is)
    (case i_Joiner_bool => first | k_is | kit_is)
    (case i_Joiner_int => first | k_is | kit_is)
    (case i_Joiner_tuple => first | k_is | kit_is)
    (case i_Packet_Packet => first | k_is | kit_is)
    (case i_Packet_bool => first | k_is | kit_is)
    (case i_Packet_int => first | k_is | kit_is)
    (case i_Packet_tuple => first | k_is | kit_is)
    (case i_NoNumber_Packet => first | k_is | kit_is)
    (case i_NoNumber_bool => first | k_is | kit_is)
    (case i_NoNumber_int => first | k_is | kit_is)
    (case i_NoNumber_tuple => first | k_is | kit_is)
    (case i_NoPacket_Packet => first | k_is | kit_is)
    (case i_NoPacket_bool => first | k_is | kit_is)
    (case i_NoPacket_int => first | k_is | kit_is)
    (case i_NoPacket_tuple => first | k_is | kit_is)
    (case i_NoTick_Packet => first | k_is | kit_is)
    (case i_NoTick_bool => first | k_is | kit_is)
    (case i_NoTick_int => first | k_is | kit_is)
    (case i_NoTick_tuple => first | k_is | kit_is)
#print axioms PySem.Challenge.cw_surewire_k40_whole_pieces_come_together_holds
