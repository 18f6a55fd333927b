import PyProof.Rows.All
import Wide.All
import OpenK.AllK
import Wide.FinOn
import HandS.ForMost
import HandS.IsInst
import HandS.Style
import HandS.Flow
import HandS.Exc
import HandS.TryOnly
import HandS.ExcOwn
import HandS.WordsExc
import HandS.WideBits
import HandS.Wide
import HandS.TupAny
import HandS.Walk
import HandS.ExcIs
import HandS.RaiseMore
import HandS.TupMul
import KE.KBits
import HandS.Zip
import HandS.Deep
import HandS.More
import HandS.SetFor
import HandS.FStrTup
import HandS.Ends
import PyProof.ReprRoads
import PyProof.FitsInt
import PyProof.CallFns
import HandS.Text
import HandS.StrMore
import HandS.RevRange
import HandS.Lambda
import KE.DataEq
import HandS.Flt
import HandS.Steps
import KE.GoesEnum
import HandS.Defaults
import PyProof.StrOps2
import HandS.ReplaceList
import HandS.SortInts
import HandS.EndOwn
import KE.KNestM
import KE.DataMinMax
import KE.SortData
import HandS.SortKw
import HandS.SetKeys
import KE.KDictWalk
import HandS.DictTup
import PySem.Challenge.RW_surewire_k22_framed_and_refused
set_option Elab.async false
set_option linter.all false
set_option maxRecDepth 100000
set_option maxHeartbeats 2000000
/-! ## the data layer: what a reading gives, told by plain data; what stands is told by slots -/
namespace DL
open PySem L2

/-- plain data -/
inductive D where
  | non | bl (b : Bool) | int (i : Int) | str (x : Str) | ty (n : String) | ref (a : Addr)
  | tup (l : List D) | lst (l : List D) | scr (l : List D)
  | dic (l : List (Key × D)) | dit (l : List (List Key × D))
  | obj (C : Addr) (fs : List (Str × D))
  | exc (C : Addr)
/-- what one owned object holds -/
inductive OB where
  | lst (l : List D) | dic (l : List (Key × D)) | dit (l : List (List Key × D)) | obj (C : Addr) (fs : List (Str × D))
def OB.d : OB → D
  | .lst l => .lst l
  | .dic l => .dic l
  | .dit l => .dit l
  | .obj C fs => .obj C fs
/-- what is known of a slot -/
inductive EV where
  | any | val (d : D) | own (o : OB)
abbrev Env := List EV

def Ex (H H' : Hp) : Prop := ∀ a o, H a = some o → H' a = some o
theorem Ex.refl (H : Hp) : Ex H H := fun _ _ h => h
theorem Ex.trans {H H1 H2 : Hp} (a : Ex H H1) (b : Ex H1 H2) : Ex H H2 := fun x o h => b x o (a x o h)
theorem Ex.new {H : Hp} {p : Addr} {o : HO} (h : H p = none) : Ex H (upd H p o) := fun a u e => by
  rw [upd_ne (ne_of_none e h)]; exact e
theorem Ex.back {H H' : Hp} {p : Addr} (e : Ex H H') (h : H' p = none) : H p = none := by
  cases h1 : H p with
  | none => rfl
  | some o => rw [e p o h1] at h; cases h
theorem Ex.both {F H : Hp} {p : Addr} {o : HO} (e : Ex F H) : Ex (upd F p o) (upd H p o) := fun a u h => by
  by_cases q : a = p
  · subst q; rw [upd_same] at h ⊢; exact h
  · rw [upd_ne q] at h ⊢; exact e a u h
theorem Ex.right {F H : Hp} {p : Addr} {o : HO} (e : Ex F H) (h : F p = none) : Ex F (upd H p o) := fun a u q => by
  rw [upd_ne (ne_of_none q h)]; exact e a u q
theorem Ex.left {F H : Hp} {p : Addr} {o : HO} (e : Ex F H) (h : H p = some o) : Ex (upd F p o) H := fun a u q => by
  by_cases z : a = p
  · subst z; rw [upd_same] at q; rw [h]; exact q
  · rw [upd_ne z] at q; exact e a u q
theorem Ex.rd {H H' : Hp} {a : Addr} {u : HO} (e : Ex H H') (h : Rd H a u) : Rd H' a u := by
  rcases h with h | ⟨o, h⟩
  · exact Or.inl (e a _ h)
  · exact Or.inr ⟨o, e a _ h⟩
theorem Ex.l {K : PySem.W.Frag} {H H' : Hp} {a : Addr} {xs : List V} (e : Ex H H') (h : SqL K H a xs) : SqL K H' a xs := by
  rcases h with h | h
  · exact Or.inl (e.rd h)
  · exact Or.inr h
theorem Ex.t {K : PySem.W.Frag} {H H' : Hp} {a : Addr} {xs : List V} (e : Ex H H') (h : SqT K H a xs) : SqT K H' a xs := by
  rcases h with h | h
  · exact Or.inl (e.rd h)
  · exact Or.inr h

/-- an exception of the class at C, caught and kept -/
def ExK (C a : Addr) : HO := .ext fun h => ∃ (oe : Obj) (vs : Array Value), h.get? a = some oe ∧ Zc (.ref C) none oe ∧ oe.data = .fields vs
mutual
/-- the value v is the data d, all of it standing in F -/
inductive Rep (K : PySem.W.Frag) (F : Hp) : V → D → Prop
  | non : Rep K F .non .non
  | bl (b : Bool) : Rep K F (.bl b) (.bl b)
  | int (i : Int) : Rep K F (.int i) (.int i)
  | str (x : Str) : Rep K F (.str x) (.str x)
  | ty (n : String) : Rep K F (.ty n) (.ty n)
  | ref (a : Addr) : Rep K F (.ref a) (.ref a)
  | tup {a : Addr} {vs : List V} {l : List D} : SqT K F a vs → RepL K F vs l → Rep K F (.ref a) (.tup l)
  | lst {a : Addr} {vs : List V} {l : List D} : F a = some (.lst vs) → RepL K F vs l → Rep K F (.ref a) (.lst l)
  | scr {a : Addr} {vs : List V} {l : List D} : SqL K F a vs → RepL K F vs l → Rep K F (.ref a) (.scr l)
  | dic {a : Addr} {ks : List Key} {vs : List V} {ds : List D} : F a = some (.dK (ks.zip vs)) → ks.length = ds.length → RepL K F vs ds → Rep K F (.ref a) (.dic (ks.zip ds))
  | dit {a : Addr} {ks : List (List Key)} {vs : List V} {ds : List D} : F a = some (.dT (ks.zip vs)) → ks.length = ds.length → RepL K F vs ds → Rep K F (.ref a) (.dit (ks.zip ds))
  | obj {a C dx : Addr} {ks : List Str} {vs : List V} {ds : List D} : F a = some (.ins C dx (ks.zip vs)) → ks.length = ds.length → RepL K F vs ds → Rep K F (.ref a) (.obj C (ks.zip ds))
  | exc {a C : Addr} : F a = some (ExK C a) → Rep K F (.ref a) (.exc C)
inductive RepL (K : PySem.W.Frag) (F : Hp) : List V → List D → Prop
  | nil : RepL K F [] []
  | cons {v : V} {vs : List V} {d : D} {ds : List D} : Rep K F v d → RepL K F vs ds → RepL K F (v :: vs) (d :: ds)
end
section
variable {K : PySem.W.Frag} {F F' : Hp}
mutual
theorem Rep.mono (e : Ex F F') : ∀ {v : V} {d : D}, Rep K F v d → Rep K F' v d
  | _, _, .non => .non
  | _, _, .bl b => .bl b
  | _, _, .int i => .int i
  | _, _, .str x => .str x
  | _, _, .ty n => .ty n
  | _, _, .ref a => .ref a
  | _, _, .tup h r => .tup (e.t h) (RepL.mono e r)
  | _, _, .lst h r => .lst (e _ _ h) (RepL.mono e r)
  | _, _, .scr h r => .scr (e.l h) (RepL.mono e r)
  | _, _, .dic h l r => .dic (e _ _ h) l (RepL.mono e r)
  | _, _, .dit h l r => .dit (e _ _ h) l (RepL.mono e r)
  | _, _, .obj h l r => .obj (e _ _ h) l (RepL.mono e r)
  | _, _, .exc h => .exc (e _ _ h)
theorem RepL.mono (e : Ex F F') : ∀ {vs : List V} {ds : List D}, RepL K F vs ds → RepL K F' vs ds
  | _, _, .nil => .nil
  | _, _, .cons h r => .cons (Rep.mono e h) (RepL.mono e r)
end
theorem RepL.length : ∀ {vs : List V} {ds : List D}, RepL K F vs ds → vs.length = ds.length
  | _, _, .nil => rfl
  | _, _, .cons _ r => by rw [List.length_cons, List.length_cons, r.length]
theorem RepL.get : ∀ {vs : List V} {ds : List D} {i : Nat} {d : D}, RepL K F vs ds → ds[i]? = some d → ∃ v, vs[i]? = some v ∧ Rep K F v d
  | _, _, _, _, .nil, h => by simp at h
  | _, _, 0, _, .cons h _, e => by simp at e; subst e; exact ⟨_, rfl, h⟩
  | _, _, i + 1, _, .cons _ r, e => by
    obtain ⟨v, h1, h2⟩ := RepL.get (i := i) r (by simpa using e)
    exact ⟨v, by simpa using h1, h2⟩
theorem RepL.append : ∀ {vs ws : List V} {ds es : List D}, RepL K F vs ds → RepL K F ws es → RepL K F (vs ++ ws) (ds ++ es)
  | _, _, _, _, .nil, s => s
  | _, _, _, _, .cons h r, s => .cons h (RepL.append r s)
theorem RepL.take : ∀ {vs : List V} {ds : List D} (n : Nat), RepL K F vs ds → RepL K F (vs.take n) (ds.take n)
  | _, _, 0, _ => .nil
  | _, _, _ + 1, .nil => .nil
  | _, _, n + 1, .cons h r => .cons h (RepL.take n r)
theorem RepL.drop : ∀ {vs : List V} {ds : List D} (n : Nat), RepL K F vs ds → RepL K F (vs.drop n) (ds.drop n)
  | _, _, 0, r => r
  | _, _, _ + 1, .nil => .nil
  | _, _, n + 1, .cons _ r => RepL.drop n r
theorem RepL.set {v : V} {d : D} (h : Rep K F v d) : ∀ {vs : List V} {ds : List D} (n : Nat), RepL K F vs ds → RepL K F (vs.set n v) (ds.set n d)
  | _, _, _, .nil => .nil
  | _, _, 0, .cons _ r => .cons h r
  | _, _, n + 1, .cons q r => .cons q (RepL.set h n r)
theorem RepL.reverse : ∀ {vs : List V} {ds : List D}, RepL K F vs ds → RepL K F vs.reverse ds.reverse
  | _, _, .nil => .nil
  | _, _, .cons h r => by
    rw [List.reverse_cons, List.reverse_cons]
    exact (RepL.reverse r).append (.cons h .nil)
/-- ints, truths, texts: the values are those of the data -/
theorem RepL.ints : ∀ {vs : List V} {ns : List Int}, RepL K F vs (ns.map D.int) → vs = ns.map V.int
  | _, [], h => by cases h; rfl
  | _, n :: r, h => by
    cases h with
    | cons q t => cases q; rw [RepL.ints t]; rfl
theorem RepL.bools : ∀ {vs : List V} {ns : List Bool}, RepL K F vs (ns.map D.bl) → vs = ns.map V.bl
  | _, [], h => by cases h; rfl
  | _, n :: r, h => by
    cases h with
    | cons q t => cases q; rw [RepL.bools t]; rfl
theorem RepL.strs : ∀ {vs : List V} {ns : List Str}, RepL K F vs (ns.map D.str) → vs = ns.map V.str
  | _, [], h => by cases h; rfl
  | _, n :: r, h => by
    cases h with
    | cons q t => cases q; rw [RepL.strs t]; rfl
theorem RepL.of_ints : ∀ {ns : List Int}, RepL K F (ns.map V.int) (ns.map D.int)
  | [] => .nil
  | n :: _ => .cons (.int n) RepL.of_ints
/-- data that no heap is asked for -/
def flat : D → Bool
  | .non | .bl _ | .int _ | .str _ | .ty _ | .ref _ => true
  | _ => false
theorem Rep.flat {v : V} {d : D} (h : Rep K F v d) (f : flat d = true) : Rep K F' v d := by
  cases h <;> first | (cases f; done) | constructor
theorem RepL.flat : ∀ {vs : List V} {ds : List D}, RepL K F vs ds → ds.all DL.flat = true → RepL K F' vs ds
  | _, _, .nil, _ => .nil
  | _, _, .cons h r, f => by
    rw [List.all_cons, Bool.and_eq_true] at f
    exact .cons (h.flat f.1) (RepL.flat r f.2)
end

/-- the owned object at a holds o; its parts stand in F -/
def ORep (K : PySem.W.Frag) (F H : Hp) (a : Addr) : OB → Prop
  | .lst l => ∃ vs, H a = some (.lst vs) ∧ RepL K F vs l
  | .dic l => ∃ ks vs ds, H a = some (.dK (List.zip ks vs)) ∧ List.length ks = List.length ds ∧ RepL K F vs ds ∧ l = ks.zip ds
  | .dit l => ∃ ks vs ds, H a = some (.dT (List.zip ks vs)) ∧ List.length ks = List.length ds ∧ RepL K F vs ds ∧ l = ks.zip ds
  | .obj C fs => ∃ dx ks vs ds, H a = some (.ins C dx (List.zip ks vs)) ∧ List.length ks = List.length ds ∧ RepL K F vs ds ∧ fs = ks.zip ds
section
variable {K : PySem.W.Frag} {F F' H H' : Hp} {a : Addr} {o : OB}
theorem ORep.mono (h : ORep K F H a o) (e : Ex F F') (k : ∀ u, H a = some u → H' a = some u) : ORep K F' H' a o := by
  cases o with
  | lst l => obtain ⟨vs, x, r⟩ := h; exact ⟨vs, k _ x, r.mono e⟩
  | dic l => obtain ⟨ks, vs, ds, x, z, r, q⟩ := h; exact ⟨ks, vs, ds, k _ x, z, r.mono e, q⟩
  | dit l => obtain ⟨ks, vs, ds, x, z, r, q⟩ := h; exact ⟨ks, vs, ds, k _ x, z, r.mono e, q⟩
  | obj C fs => obtain ⟨dx, ks, vs, ds, x, z, r, q⟩ := h; exact ⟨dx, ks, vs, ds, k _ x, z, r.mono e, q⟩
theorem ORep.ho (h : ORep K F H a o) : ∃ u, H a = some u := by
  cases o with
  | lst l => obtain ⟨vs, x, r⟩ := h; exact ⟨_, x⟩
  | dic l => obtain ⟨ks, vs, ds, x, _⟩ := h; exact ⟨_, x⟩
  | dit l => obtain ⟨ks, vs, ds, x, _⟩ := h; exact ⟨_, x⟩
  | obj C fs => obtain ⟨dx, ks, vs, ds, x, _⟩ := h; exact ⟨_, x⟩
/-- an owned object, given up: from now on it stands -/
theorem ORep.give (h : ORep K F H a o) (n : F a = none) : ∃ u, H a = some u ∧ Rep K (upd F a u) (.ref a) o.d := by
  cases o with
  | lst l => obtain ⟨vs, x, r⟩ := h; exact ⟨_, x, .lst upd_same (r.mono (Ex.new n))⟩
  | dic l => obtain ⟨ks, vs, ds, x, z, r, q⟩ := h; subst q; exact ⟨_, x, .dic upd_same z (r.mono (Ex.new n))⟩
  | dit l => obtain ⟨ks, vs, ds, x, z, r, q⟩ := h; subst q; exact ⟨_, x, .dit upd_same z (r.mono (Ex.new n))⟩
  | obj C fs => obtain ⟨dx, ks, vs, ds, x, z, r, q⟩ := h; subst q; exact ⟨_, x, .obj upd_same z (r.mono (Ex.new n))⟩
end

/-- what grows between two moments: what stands (F) and all that is tracked (H) -/
structure Grow (F0 H0 F H : Hp) : Prop where
  gf : Ex F0 F
  gh : Ex H0 H
  fh : Ex F H
  gn : ∀ a, F a ≠ none → F0 a ≠ none ∨ H0 a = none
section
variable {F0 H0 F1 H1 F H : Hp}
theorem Grow.refl (e : Ex F H) : Grow F H F H := ⟨Ex.refl _, Ex.refl _, e, fun _ h => .inl h⟩
theorem Grow.trans (a : Grow F0 H0 F1 H1) (b : Grow F1 H1 F H) : Grow F0 H0 F H := ⟨a.gf.trans b.gf, a.gh.trans b.gh, b.fh, fun x h => by
  rcases b.gn x h with q | q
  · exact a.gn x q
  · exact .inr (a.gh.back q)⟩
/-- a new object, standing -/
theorem Grow.new {p : Addr} {o : HO} (g : Grow F0 H0 F H) (n : H p = none) : Grow F0 H0 (upd F p o) (upd H p o) := ⟨g.gf.trans (Ex.new (g.fh.back n)), g.gh.trans (Ex.new n), g.fh.both, fun x h => by
  by_cases q : x = p
  · subst q; exact .inr (g.gh.back n)
  · rw [upd_ne q] at h; exact g.gn x h⟩
/-- an owned new one is given up -/
theorem Grow.give {p : Addr} {o : HO} (g : Grow F0 H0 F H) (n : F p = none) (n0 : H0 p = none) (e : H p = some o) : Grow F0 H0 (upd F p o) H := ⟨g.gf.trans (Ex.new n), g.gh, g.fh.left e, fun x h => by
  by_cases q : x = p
  · subst q; exact .inr n0
  · rw [upd_ne q] at h; exact g.gn x h⟩
end

/-- where a def begins: what stands, what is tracked, which slots hold the objects handed in to be changed -/
structure Bs where
  F : Hp
  H : Hp
  fx : Nat → Option Addr
/-- the slots as they are known; oa i the address of what slot i owns -/
structure Sig (K : PySem.W.Frag) (b : Bs) (F : Hp) (oa : Nat → Addr) (σ : L2.St) (H : Hp) (env : Env) : Prop where
  g : Grow b.F b.H F H
  len : σ.length = env.length
  val : ∀ (i : Nat) (d : D), env[i]? = some (EV.val d) → ∃ v : V, σ[i]? = some (some v) ∧ Rep K F v d
  own : ∀ (i : Nat) (o : OB), env[i]? = some (EV.own o) → σ[i]? = some (some (.ref (oa i))) ∧ F (oa i) = none ∧ b.H (oa i) = none ∧ ORep K F H (oa i) o
  dist : ∀ (i j : Nat) (o u : OB), env[i]? = some (EV.own o) → env[j]? = some (.own u) → oa i = oa j → i = j
  fix : ∀ (i : Nat) (a : Addr), b.fx i = some a → oa i = a ∧ H a ≠ none
section
variable {K : PySem.W.Frag} {b : Bs} {F F1 H H1 : Hp} {oa : Nat → Addr} {σ : L2.St} {env env' : Env} {i : Nat} {v : V} {d : D} {o : OB}
/-- what is owned is not there where nothing is -/
theorem Sig.ne (S : Sig K b F oa σ H env) {p : Addr} (n : H p = none) (e : env[i]? = some (.own o)) : oa i ≠ p := fun q => by
  obtain ⟨_, _, _, r⟩ := S.own i o e
  obtain ⟨u, hu⟩ := r.ho
  rw [q, n] at hu; cases hu
/-- more stands, all else as it was -/
theorem Sig.grow (S : Sig K b F oa σ H env) (g : Grow F H F1 H1) : Sig K b F1 oa σ H1 env where
  g := S.g.trans g
  len := S.len
  val := fun i d e => by
    obtain ⟨v, h1, h2⟩ := S.val i d e
    exact ⟨v, h1, h2.mono g.gf⟩
  own := fun i o e => by
    obtain ⟨h1, h2, h3, h4⟩ := S.own i o e
    refine ⟨h1, ?_, h3, h4.mono g.gf fun u q => g.gh _ _ q⟩
    cases q : F1 (oa i) with
    | none => rfl
    | some u =>
      rcases g.gn (oa i) (by rw [q]; simp) with z | z
      · exact absurd h2 z
      · obtain ⟨w, hw⟩ := h4.ho
        rw [z] at hw; cases hw
  dist := S.dist
  fix := fun i c e => by
    obtain ⟨h1, h2⟩ := S.fix i c e
    refine ⟨h1, fun z => ?_⟩
    exact h2 (g.gh.back z)
theorem Sig.new {p : Addr} {u : HO} (S : Sig K b F oa σ H env) (n : H p = none) : Sig K b (upd F p u) oa σ (upd H p u) env := S.grow ((Grow.refl S.g.fh).new n)
/-- slot i holds v -/
theorem Sig.set (S : Sig K b F oa σ H env) (r : Rep K F v d) : Sig K b F oa (σ.set i (some v)) H (env.set i (.val d)) where
  g := S.g
  len := by simp [S.len]
  val := fun j e h => by
    by_cases q : i = j
    · subst q
      rw [List.getElem?_set] at h
      rw [List.getElem?_set]
      have l := S.len
      split at h
      · split at h
        · cases h
          refine ⟨v, ?_, r⟩
          simp_all
        · cases h
      · rename_i z; exact absurd rfl z
    · rw [List.getElem?_set_ne q] at h
      rw [List.getElem?_set_ne q]
      exact S.val j e h
  own := fun j e h => by
    by_cases q : i = j
    · subst q
      rw [List.getElem?_set] at h
      split at h
      · split at h <;> cases h
      · rename_i z; exact absurd rfl z
    · rw [List.getElem?_set_ne q] at h
      rw [List.getElem?_set_ne q]
      exact S.own j e h
  dist := fun j k e u h1 h2 => by
    have t : ∀ (j : Nat) (e : OB), (env.set i (.val d))[j]? = some (.own e) → env[j]? = some (.own e) := fun j e h => by
      by_cases q : i = j
      · subst q
        rw [List.getElem?_set] at h
        split at h
        · split at h <;> cases h
        · rename_i z; exact absurd rfl z
      · rw [List.getElem?_set_ne q] at h; exact h
    exact S.dist j k e u (t _ _ h1) (t _ _ h2)
  fix := S.fix
/-- the slot of what is owned, given up -/
theorem Sig.give (S : Sig K b F oa σ H env) (e : env[i]? = some (.own o)) : ∃ F', Sig K b F' oa σ H (env.set i (.val o.d)) ∧ Ex F F' := by
  obtain ⟨h1, h2, h3, h4⟩ := S.own i o e
  obtain ⟨u, hu, r⟩ := h4.give h2
  refine ⟨upd F (oa i) u, ⟨S.g.give h2 h3 hu, by simp [S.len], fun j w h => ?_, fun j w h => ?_, fun j k w x p q z => ?_, S.fix⟩, Ex.new h2⟩
  · by_cases q : i = j
    · subst q
      rw [List.getElem?_set] at h
      split at h
      · split at h
        · cases h; exact ⟨_, h1, r⟩
        · cases h
      · rename_i z; exact absurd rfl z
    · rw [List.getElem?_set_ne q] at h
      obtain ⟨v, x, y⟩ := S.val j w h
      exact ⟨v, x, y.mono (Ex.new h2)⟩
  · by_cases q : i = j
    · subst q
      rw [List.getElem?_set] at h
      split at h
      · split at h <;> cases h
      · rename_i z; exact absurd rfl z
    · rw [List.getElem?_set_ne q] at h
      obtain ⟨x1, x2, x3, x4⟩ := S.own j w h
      refine ⟨x1, ?_, x3, x4.mono (Ex.new h2) fun _ y => y⟩
      rw [upd_ne fun z => q (S.dist j i w o h e z).symm]
      exact x2
  · have t : ∀ (j : Nat) (e : OB), (env.set i (.val o.d))[j]? = some (.own e) → env[j]? = some (.own e) := fun j e h => by
      by_cases q : i = j
      · subst q
        rw [List.getElem?_set] at h
        split at h
        · split at h <;> cases h
        · rename_i z; exact absurd rfl z
      · rw [List.getElem?_set_ne q] at h; exact h
    exact S.dist j k w x (t _ _ p) (t _ _ q) z
/-- less is known: every slot as it was, or not told -/
def Env.le : Env → Env → Prop
  | [], [] => True
  | a :: r, b :: s => (b = .any ∨ b = a) ∧ Env.le r s
  | _, _ => False
theorem Env.le.get : ∀ {env env' : Env} {i : Nat} {x : EV}, Env.le env env' → env'[i]? = some x → x = .any ∨ env[i]? = some x
  | [], [], _, _, _, h => by simp at h
  | _ :: _, _ :: _, 0, _, l, h => by
    simp at h; subst h
    rcases l.1 with q | q
    · exact .inl q
    · exact .inr (by rw [q]; rfl)
  | _ :: r, _ :: s, i + 1, _, l, h => by
    rcases Env.le.get (i := i) l.2 (by simpa using h) with q | q
    · exact .inl q
    · exact .inr (by simpa using q)
  | [], _ :: _, _, _, l, _ => l.elim
  | _ :: _, [], _, _, l, _ => l.elim
theorem Env.le.length : ∀ {env env' : Env}, Env.le env env' → env.length = env'.length
  | [], [], _ => rfl
  | _ :: _, _ :: _, l => by rw [List.length_cons, List.length_cons, Env.le.length l.2]
  | [], _ :: _, l => l.elim
  | _ :: _, [], l => l.elim
theorem Env.le.rfl : ∀ {env : Env}, Env.le env env
  | [] => trivial
  | _ :: _ => ⟨.inr (by rfl), Env.le.rfl⟩
theorem Sig.le (S : Sig K b F oa σ H env) (l : Env.le env env') : Sig K b F oa σ H env' where
  g := S.g
  len := by rw [S.len, l.length]
  val := fun i d e => by
    rcases l.get e with q | q
    · cases q
    · exact S.val i d q
  own := fun i o e => by
    rcases l.get e with q | q
    · cases q
    · exact S.own i o q
  dist := fun i j o u e f z => by
    rcases l.get e with q | q
    · cases q
    · rcases l.get f with p | p
      · cases p
      · exact S.dist i j o u q p z
  fix := S.fix
/-- a new one that no slot owns stands from now on -/
theorem Sig.stand {a : Addr} {u : HO} (S : Sig K b F oa σ H env) (n : F a = none) (n0 : b.H a = none) (ne : ∀ (j : Nat) (o : OB), env[j]? = some (.own o) → oa j ≠ a) (h : H a = some u) : Sig K b (upd F a u) oa σ H env where
  g := S.g.give n n0 h
  len := S.len
  val := fun i d e => by
    obtain ⟨v, h1, h2⟩ := S.val i d e
    exact ⟨v, h1, h2.mono (Ex.new n)⟩
  own := fun i o e => by
    obtain ⟨h1, h2, h3, h4⟩ := S.own i o e
    exact ⟨h1, by rw [upd_ne (ne i o e)]; exact h2, h3, h4.mono (Ex.new n) fun _ q => q⟩
  dist := S.dist
  fix := S.fix
end
end DL

namespace DL
open PySem L2

/-- what an expression gives: data that stands, or what a slot owns -/
inductive Res where
  | val (d : D) | slot (i : Nat)
def RR (K : PySem.W.Frag) (F : Hp) (oa : Nat → Addr) (v : V) : Res → Prop
  | .val d => Rep K F v d
  | .slot i => v = .ref (oa i)
/-- it reads as d -/
def Rd (env : Env) : Res → D → Prop
  | .val d, e => d = e
  | .slot i, e => ∃ o, env[i]? = some (.own o) ∧ o.d = e
section
variable {K : PySem.W.Frag} {b : Bs} {F F' H : Hp} {oa : Nat → Addr} {σ : L2.St} {env env' : Env} {v : V} {r : Res} {d : D} {l : List D}
theorem RR.mono (h : RR K F oa v r) (e : Ex F F') : RR K F' oa v r := by
  cases r with
  | val d => exact Rep.mono e h
  | slot i => exact h
theorem Rd.lst' (S : Sig K b F oa σ H env) (h : RR K F oa v r) (q : Rd env r (.lst l)) : ∃ a vs, v = .ref a ∧ H a = some (.lst vs) ∧ RepL K F vs l := by
  cases r with
  | val d =>
    cases (show d = .lst l from q)
    cases h with
    | lst x y => exact ⟨_, _, rfl, S.g.fh _ _ x, y⟩
  | slot i =>
    obtain ⟨o, e, z⟩ := q
    obtain ⟨_, _, _, x⟩ := S.own i o e
    cases o with
    | lst l' =>
      cases z
      obtain ⟨vs, x1, x2⟩ := x
      exact ⟨_, vs, h, x1, x2⟩
    | dic _ => cases z
    | dit _ => cases z
    | obj _ _ => cases z
theorem Rd.scr (S : Sig K b F oa σ H env) (h : RR K F oa v r) (q : Rd env r (.scr l)) : ∃ a vs, v = .ref a ∧ SqL K H a vs ∧ RepL K F vs l := by
  cases r with
  | val d =>
    cases (show d = .scr l from q)
    cases h with
    | scr x y => exact ⟨_, _, rfl, S.g.fh.l x, y⟩
  | slot i =>
    obtain ⟨o, e, z⟩ := q
    cases o <;> cases z
/-- a list to be read: one of the call's own, or the script -/
def RdL (env : Env) (r : Res) (k : List D) : Prop := Rd env r (.lst k) ∨ Rd env r (.scr k)
theorem RdL.g (S : Sig K b F oa σ H env) (h : RR K F oa v r) (q : RdL env r l) : ∃ a vs, v = .ref a ∧ SqL K H a vs ∧ RepL K F vs l := by
  rcases q with q | q
  · obtain ⟨a, vs, e, s, p⟩ := Rd.lst' S h q
    exact ⟨a, vs, e, .inl (.inl s), p⟩
  · exact Rd.scr S h q
theorem Rd.tup (S : Sig K b F oa σ H env) (h : RR K F oa v r) (q : Rd env r (.tup l)) : ∃ a vs, v = .ref a ∧ SqT K H a vs ∧ RepL K F vs l := by
  cases r with
  | val d =>
    cases (show d = .tup l from q)
    cases h with
    | tup x y => exact ⟨_, _, rfl, S.g.fh.t x, y⟩
  | slot i =>
    obtain ⟨o, e, z⟩ := q
    cases o <;> cases z
theorem Rd.flat (h : RR K F oa v r) (q : Rd env r d) (f : flat d = true) : Rep K F v d := by
  cases r with
  | val e => cases (show e = d from q); exact h
  | slot i =>
    obtain ⟨o, e, z⟩ := q
    cases o <;> (subst z; cases f)
/-- read as it stands in the whole heap -/
theorem Rd.rep (S : Sig K b F oa σ H env) (h : RR K F oa v r) (q : Rd env r d) : Rep K H v d := by
  cases r with
  | val e => cases (show e = d from q); exact Rep.mono S.g.fh h
  | slot i =>
    obtain ⟨o, e, z⟩ := q
    subst z
    cases (show v = .ref (oa i) from h)
    obtain ⟨_, _, _, x⟩ := S.own i o e
    cases o with
    | lst l' => obtain ⟨vs, x1, x2⟩ := x; exact .lst x1 (x2.mono S.g.fh)
    | dic l' => obtain ⟨ks, vs, ds, x1, x2, x3, x4⟩ := x; subst x4; exact .dic x1 x2 (x3.mono S.g.fh)
    | dit l' => obtain ⟨ks, vs, ds, x1, x2, x3, x4⟩ := x; subst x4; exact .dit x1 x2 (x3.mono S.g.fh)
    | obj C fs => obtain ⟨dx, ks, vs, ds, x1, x2, x3, x4⟩ := x; subst x4; exact .obj x1 x2 (x3.mono S.g.fh)
end

/-- what a step leaves: what stands stands; what no slot owns is as it was -/
structure Stp (oa : Nat → Addr) (env : Env) (F H : Hp) (env' : Env) (F' H' : Hp) : Prop where
  ff : Ex F F'
  kp : ∀ a u, H a = some u → (∀ (j : Nat) (o : OB), env[j]? = some (.own o) → oa j ≠ a) → H' a = some u
  gn : ∀ a, F' a ≠ none → F a ≠ none ∨ H a = none
  th : ∀ a, H a ≠ none → H' a ≠ none
  sub : ∀ (j : Nat) (o : OB), env'[j]? = some (.own o) → ∃ o', env[j]? = some (.own o')
section
variable {K : PySem.W.Frag} {b : Bs} {F F1 F2 H H1 H2 : Hp} {oa : Nat → Addr} {σ : L2.St} {env e1 e2 : Env} {p : Addr} {u : HO}
theorem Stp.refl : Stp oa env F H env F H := ⟨Ex.refl _, fun _ _ h _ => h, fun _ h => .inl h, fun _ h => h, fun j o h => ⟨o, h⟩⟩
theorem Stp.trans (x : Stp oa env F H e1 F1 H1) (y : Stp oa e1 F1 H1 e2 F2 H2) : Stp oa env F H e2 F2 H2 := ⟨x.ff.trans y.ff, fun a u h n => y.kp a u (x.kp a u h n) fun j o e => by
    obtain ⟨o', e'⟩ := x.sub j o e
    exact n j o' e', fun a h => by
    rcases y.gn a h with z | z
    · exact x.gn a z
    · refine .inr ?_
      cases w : H a with
      | none => rfl
      | some v => exact absurd z (x.th a (by rw [w]; simp)), fun a h => y.th a (x.th a h), fun j o e => by
    obtain ⟨o', e'⟩ := y.sub j o e
    exact x.sub j o' e'⟩
theorem Stp.new (n : H p = none) (nf : F p = none) : Stp oa env F H env (upd F p u) (upd H p u) := ⟨Ex.new nf, fun a v h _ => Ex.new n a v h, fun a h => by
    by_cases q : a = p
    · subst q; exact .inr n
    · rw [upd_ne q] at h; exact .inl h, fun a h z => h ((Ex.new n).back z), fun j o e => ⟨o, e⟩⟩
theorem Stp.newH (n : H p = none) : Stp oa env F H env F (upd H p u) := ⟨Ex.refl _, fun a v h _ => Ex.new n a v h, fun a h => .inl h, fun a h z => h ((Ex.new n).back z), fun j o e => ⟨o, e⟩⟩
theorem Stp.none (x : Stp oa env F H e1 F1 H1) (n : H1 p = none) : H p = none := by
  cases w : H p with
  | none => rfl
  | some v => exact absurd n (x.th p (by rw [w]; simp))
end

def Ev (K : PySem.W.Frag) (te : TE) (env : Env) (r : Res) (env' : Env) : Prop := ∀ (b : Bs) (F : Hp) (oa : Nat → Addr) (σ : L2.St) (H : Hp), Sig K b F oa σ H env → ∀ Q : VK,
  (∀ v F' H', Sig K b F' oa σ H' env' → Stp oa env F H env' F' H' → RR K F' oa v r → Q v H') → te σ H Q
/-- a new object that nobody has yet -/
def NewAt (K : PySem.W.Frag) (b : Bs) (F : Hp) (oa : Nat → Addr) (H : Hp) (env : Env) (a : Addr) (o : OB) : Prop :=
  F a = none ∧ b.H a = none ∧ (∀ (j : Nat) (u : OB), env[j]? = some (.own u) → oa j ≠ a) ∧ (∀ j, b.fx j ≠ some a) ∧ ORep K F H a o
def EvN (K : PySem.W.Frag) (te : TE) (env : Env) (o : OB) (env' : Env) : Prop := ∀ (b : Bs) (F : Hp) (oa : Nat → Addr) (σ : L2.St) (H : Hp), Sig K b F oa σ H env → ∀ Q : VK,
  (∀ a F' H', Sig K b F' oa σ H' env' → Stp oa env F H env' F' H' → H a = none → NewAt K b F' oa H' env' a o → Q (.ref a) H') → te σ H Q
def RRs (K : PySem.W.Frag) (F : Hp) (oa : Nat → Addr) : List V → List Res → Prop
  | [], [] => True
  | v :: vs, r :: rs => RR K F oa v r ∧ RRs K F oa vs rs
  | _, _ => False
theorem RRs.mono {K : PySem.W.Frag} {F F' : Hp} {oa : Nat → Addr} (e : Ex F F') : ∀ {vs : List V} {rs : List Res}, RRs K F oa vs rs → RRs K F' oa vs rs
  | [], [], _ => trivial
  | _ :: _, _ :: _, h => ⟨h.1.mono e, RRs.mono e h.2⟩
  | [], _ :: _, h => h.elim
  | _ :: _, [], h => h.elim
section
variable {K : PySem.W.Frag} {te ta tb tc : TE} {t u : TT} {env e1 e2 e3 : Env} {r r1 r2 : Res} {d : D} {o : OB} {i j : Nat} {n m : Int}
theorem Ev.give (h : EvN K te env o e1) : Ev K te env (.val o.d) e1 := fun b F oa σ H S Q k => h b F oa σ H S Q fun a F' H' S' e na ⟨n, n0, ne, _, x⟩ => by
  obtain ⟨u, hu, r⟩ := x.give n
  refine k _ _ _ (S'.stand n n0 ne hu) ⟨e.ff.trans (Ex.new n), e.kp, fun c h => ?_, e.th, e.sub⟩ r
  by_cases q : c = a
  · subst q; exact .inr na
  · rw [upd_ne q] at h; exact e.gn c h
end
end DL

namespace DL
open PySem L2

/-! ### operators by all that they serve -/
theorem OpR.or {X : Cx} {f : Value → Value → Sem Value} {r1 r2 : R2} (h1 : OpR X f r1) (h2 : OpR X f r2) : OpR X f (fun x y H Q => r1 x y H Q ∨ r2 x y H Q) := by
  intro pins s σ H x y v u Q I rx ry h
  rcases h with h | h
  · exact h1 pins s σ H x y v u Q I rx ry h
  · exact h2 pins s σ H x y v u Q I rx ry h
theorem CallR.or {X : Cx} {f : Value} {r1 r2 : List V → Hp → VK → Prop} (h1 : CallR X f r1) (h2 : CallR X f r2) : CallR X f (fun xs H Q => r1 xs H Q ∨ r2 xs H Q) := by
  intro pins s σ H xs us Q I r h
  rcases h with h | h
  · exact h1 pins s σ H xs us Q I r h
  · exact h2 pins s σ H xs us Q I r h
def rS : R2 := fun x y H Q => ∃ i j, x = .str i ∧ y = .str j ∧ i.length + j.length ≤ sizeLine ∧ Q (.str (i ++ j)) H
def rAddU (K : PySem.W.Frag) : R2 := fun x y H Q => rI0 (fun i j => .int (i + j)) x y H Q ∨ (rS x y H Q ∨ (rCatA K x y H Q ∨ rCat x y H Q))
theorem op_addU {X : Cx} {K : PySem.W.Frag} (e : X.K = K := by rfl) : OpR X (binaryOp .Add) (rAddU K) := by subst e; exact OpR.or op_add (OpR.or op_add_str (OpR.or op_catA op_cat))
def rSubU : R2 := rI0 fun i j => .int (i - j)
theorem op_subU {X : Cx} : OpR X (binaryOp .Sub) rSubU := op_sub
def rMulU : R2 := fun x y H Q => rI CMul (fun i j => .int (i * j)) x y H Q ∨ (rI CMulX (fun i j => .int (i * j)) x y H Q ∨ rRep x y H Q)
theorem op_mulU {X : Cx} : OpR X (binaryOp .Mult) rMulU := OpR.or op_mul (OpR.or op_mulX op_rep)
def rDivU : R2 := rI CDivW fun i j => .int (i / j)
theorem op_divU {X : Cx} : OpR X (binaryOp .FloorDiv) rDivU := op_fdivW
def rModU : R2 := rI (fun _ j => 0 < j) fun i j => .int (i % j)
theorem op_modU {X : Cx} : OpR X (binaryOp .Mod) rModU := op_mod
def rPowU : R2 := rI CPow fun i j => .int (i ^ j.toNat)
theorem op_powU {X : Cx} : OpR X (binaryOp .Pow) rPowU := op_pow
def rShlU : R2 := rI CShl fun i j => .int (i * 2 ^ j.toNat)
theorem op_shlU {X : Cx} : OpR X (binaryOp .LShift) rShlU := op_shlW
def rShrU : R2 := rI (fun _ j => 0 ≤ j) fun i j => .int (i / 2 ^ j.toNat)
theorem op_shrU {X : Cx} : OpR X (binaryOp .RShift) rShrU := op_shr
def rAndU : R2 := rI0 fun i j => .int (Builtin.bitAnd i j)
theorem op_andU {X : Cx} : OpR X (binaryOp .BitAnd) rAndU := op_and
def rOrU : R2 := rI0 fun i j => .int (Builtin.bitOr i j)
theorem op_orU {X : Cx} : OpR X (binaryOp .BitOr) rOrU := op_or
def rXorU : R2 := rI0 fun i j => .int (Builtin.bitXor i j)
theorem op_xorU {X : Cx} : OpR X (binaryOp .BitXor) rXorU := op_xor
def rLtU : R2 := rI0 fun i j => .bl (decide (i < j))
def rLeU : R2 := rI0 fun i j => .bl (decide (i ≤ j))
def rGtU : R2 := rI0 fun i j => .bl (decide (j < i))
def rGeU : R2 := rI0 fun i j => .bl (decide (j ≤ i))
theorem op_ltU {X : Cx} : OpR X (compareOp .Lt) rLtU := op_lt
theorem op_leU {X : Cx} : OpR X (compareOp .LtE) rLeU := op_le
theorem op_gtU {X : Cx} : OpR X (compareOp .Gt) rGtU := op_gt
theorem op_geU {X : Cx} : OpR X (compareOp .GtE) rGeU := op_ge
def rIsNn : R2 := fun x y H Q => y = .non ∧ Q (.bl (decide (x = .non))) H
def rNotNn : R2 := fun x y H Q => y = .non ∧ Q (.bl (!decide (x = .non))) H
def rIsU : R2 := fun x y H Q => rIsNn x y H Q ∨ rIsB x y H Q
def rNotU : R2 := fun x y H Q => rNotNn x y H Q ∨ rNotB x y H Q
theorem op_isU {X : Cx} : OpR X (compareOp .Is) rIsU := OpR.or op_isN op_isBl
theorem op_notU {X : Cx} : OpR X (compareOp .IsNot) rNotU := OpR.or op_notN op_notBl
def rLen1 (K : PySem.W.Frag) : List V → Hp → VK → Prop := fun xs H Q => ∃ x n, xs = [x] ∧ LenV K x H n ∧ Q (.int n) H
def rLen2 : List V → Hp → VK → Prop := fun xs H Q => ∃ a kvs, xs = [V.ref a] ∧ H a = some (.dK kvs) ∧ Q (.int kvs.length) H
def rLenU (K : PySem.W.Frag) : List V → Hp → VK → Prop := fun xs H Q => rLen1 K xs H Q ∨ rLen2 xs H Q
theorem call_lenU {X : Cx} {K : PySem.W.Frag} (e : X.K = K := by rfl) : CallR X (.builtin "len") (rLenU K) := by subst e; exact CallR.or call_len call_lenD
theorem call_allU {X : Cx} {K : PySem.W.Frag} (hc : X.calm = true) (e : X.K = K := by rfl) : CallR X (.builtin "all") (rAll K) := by subst e; exact cr_all hc
theorem call_sumU {X : Cx} {K : PySem.W.Frag} (hc : X.calm = true) (e : X.K = K := by rfl) : CallR X (.builtin "sum") (rSum K) := by subst e; exact cr_sum hc
theorem ix_U {X : Cx} {K : PySem.W.Frag} (e : X.K = K := by rfl) : IxR X (rIx K) := by subst e; exact ix_seq
def rAbs : List V → Hp → VK → Prop := fun xs H Q => ∃ i, xs = [.int i] ∧ Q (.int (if i < 0 then -i else i)) H
theorem call_absU {X : Cx} : CallR X (.builtin "abs") rAbs := call_abs
def rMax2 : List V → Hp → VK → Prop := fun xs H Q => ∃ i j, xs = [.int i, .int j] ∧ Q (.int (if j > i then j else i)) H
def rMin2 : List V → Hp → VK → Prop := fun xs H Q => ∃ i j, xs = [.int i, .int j] ∧ Q (.int (if j < i then j else i)) H
theorem call_max2U {X : Cx} (hc : X.calm = true) : CallR X (.builtin "max") rMax2 := call_max2 hc
theorem call_min2U {X : Cx} (hc : X.calm = true) : CallR X (.builtin "min") rMin2 := call_min2 hc
def rInt1 : List V → Hp → VK → Prop := fun xs H Q => (∃ i, xs = [.int i] ∧ Q (.int i) H) ∨ ∃ k, xs = [.bl k] ∧ Q (.int (if k then 1 else 0)) H
theorem call_intU {X : Cx} : CallR X (.type "int") rInt1 := call_int1
def rListOf (K : PySem.W.Frag) : List V → Hp → VK → Prop := fun xs H Q => ∃ p ys, xs = [.ref p] ∧ (SqL K H p ys ∨ SqT K H p ys) ∧ ∀ l, H l = none → Q (.ref l) (upd H l (.lst ys))
theorem call_listU {X : Cx} {K : PySem.W.Frag} (e : X.K = K := by rfl) : CallR X (.type "list") (rListOf K) := by subst e; exact call_list_of
def rTupleOf (K : PySem.W.Frag) : List V → Hp → VK → Prop := fun xs H Q => ∃ p ys, xs = [.ref p] ∧ ((SqL K H p ys ∧ ∀ l, H l = none → Q (.ref l) (upd H l (.tup ys))) ∨ (SqT K H p ys ∧ Q (.ref p) H))
theorem call_tupleU {X : Cx} {K : PySem.W.Frag} (e : X.K = K := by rfl) : CallR X (.type "tuple") (rTupleOf K) := by subst e; exact call_tuple_of
def rSlU (K : PySem.W.Frag) : V → Option Int → Option Int → Hp → VK → Prop := fun x lo hi H Q => rSlL K x lo hi H Q ∨ (rSlA K x lo hi H Q ∨ rSlS x lo hi H Q)
theorem SlR.or {X : Cx} {r1 r2 : V → Option Int → Option Int → Hp → VK → Prop} (h1 : SlR X r1) (h2 : SlR X r2) : SlR X (fun x l u H Q => r1 x l u H Q ∨ r2 x l u H Q) := by
  intro pins s σ H x v vl vu l u sl Q I rx hs pl pu h
  rcases h with h | h
  · exact h1 pins s σ H x v vl vu l u sl Q I rx hs pl pu h
  · exact h2 pins s σ H x v vl vu l u sl Q I rx hs pl pu h
theorem sl_U {X : Cx} {K : PySem.W.Frag} (e : X.K = K := by rfl) : SlR X (rSlU K) := by subst e; exact SlR.or sl_list (SlR.or sl_tupA sl_str)

/-! ### PyData of data -/
mutual
def py : D → Option PyData
  | .non => some .none
  | .bl b => some (.bool b)
  | .int i => some (.int i)
  | .str x => some (.str x)
  | .tup l => (pys l).map .tuple
  | .lst l => (pys l).map .list
  | .ty _ => none
  | .scr _ => none
  | .ref _ => none
  | .dic _ => none
  | .dit _ => none
  | .obj _ _ => none
  | .exc _ => none
def pys : List D → Option (List PyData)
  | [] => some []
  | d :: r => match py d, pys r with
    | some x, some y => some (x :: y)
    | _, _ => none
end
mutual
theorem Rep.dp {K : PySem.W.Frag} {H : Hp} : ∀ {v : V} {d : D} {p : PyData}, Rep K H v d → py d = some p → Dp K H v p
  | _, _, _, .non, e => by unfold py at e; cases e; exact .non
  | _, _, _, .bl b, e => by unfold py at e; cases e; exact .bl b
  | _, _, _, .int b, e => by unfold py at e; cases e; exact .int b
  | _, _, _, .str b, e => by unfold py at e; cases e; exact .str b
  | _, _, _, .tup (l := l) h r, e => by
    unfold py at e
    cases q : pys l with
    | none => rw [q] at e; cases e
    | some x => rw [q] at e; cases e; exact .tup h (RepL.dp r q)
  | _, _, _, .lst (l := l) h r, e => by
    unfold py at e
    cases q : pys l with
    | none => rw [q] at e; cases e
    | some x => rw [q] at e; cases e; exact .lst (.inl (.inl h)) (RepL.dp r q)
  | _, _, _, .ty _, e => by unfold py at e; cases e
  | _, _, _, .scr _ _, e => by unfold py at e; cases e
  | _, _, _, .ref _, e => by unfold py at e; cases e
  | _, _, _, .dic _ _ _, e => by unfold py at e; cases e
  | _, _, _, .dit _ _ _, e => by unfold py at e; cases e
  | _, _, _, .obj _ _ _, e => by unfold py at e; cases e
  | _, _, _, .exc _, e => by unfold py at e; cases e
theorem RepL.dp {K : PySem.W.Frag} {H : Hp} : ∀ {vs : List V} {ds : List D} {ps : List PyData}, RepL K H vs ds → pys ds = some ps → DpAll K H vs ps
  | _, _, _, .nil, e => by unfold pys at e; cases e; exact .nil
  | _, _, _, .cons (d := d) (ds := ds) h r, e => by
    unfold pys at e
    cases q1 : py d with
    | none => rw [q1] at e; cases e
    | some x =>
      cases q2 : pys ds with
      | none => rw [q1, q2] at e; cases e
      | some y => rw [q1, q2] at e; cases e; exact .cons (Rep.dp h q1) (RepL.dp r q2)
end
section
variable {K : PySem.W.Frag} {te ta tb tc : TE} {t u : TT} {env e1 e2 e3 : Env} {r r1 r2 : Res} {d d1 d2 : D} {o : OB} {i j : Int} {x y : Str} {c c1 c2 : Bool} {l m : List D}
/-! ### operators -/
def isNon : D → Bool
  | .non => true
  | _ => false
theorem rep_non {F : Hp} {v : V} (h : Rep K F v d) : decide (v = V.non) = isNon d := by
  cases h <;> first | rfl | simp [isNon]
/-! ### tests -/
/-! ### calls of built-ins -/
end
end DL

namespace DL
open PySem L2

section
variable {K : PySem.W.Frag} {te ta tb tc : TE} {t u : TT} {env e1 e2 e3 : Env} {r r1 r2 : Res} {d d1 d2 : D} {o : OB} {i j : Int} {x y : Str} {c c1 c2 : Bool} {l m : List D}
/-! ### isinstance -/
/-! ### subscripts -/
def cutD {α : Type} (xs : List α) (lo hi : Option Int) : List α := (xs.drop (HT.sIx xs.length 0 lo)).take (HT.sIx xs.length xs.length hi - HT.sIx xs.length 0 lo)
theorem cut_rep {F : Hp} {vs : List V} {lo hi : Option Int} (h : RepL K F vs l) : RepL K F (cutV vs lo hi) (cutD l lo hi) := by
  unfold cutV cutD
  rw [h.length]
  exact (h.drop _).take _
/-! ### displays, list(..), tuple(..), + -/
/-! ### what is walked -/
/-- both: for x in e, by what e is -/
def iSeqU (K : PySem.W.Frag) (te : TE) : TI := fun σ H R => iList K te σ H R ∨ (iTup K te σ H R ∨ iStr te σ H R)
theorem PI.or {X : Cx} {tg e : Expr} {w1 w2 : TI} (h1 : PI X tg e w1) (h2 : PI X tg e w2) : PI X tg e (fun σ H R => w1 σ H R ∨ w2 σ H R) := ⟨fun pins s σ H R I h => by
  rcases h with h | h
  · exact h1.run pins s σ H R I h
  · exact h2.run pins s σ H R I h⟩
theorem pi_seqU {X : Cx} {K : PySem.W.Frag} {tg e : Expr} {te : TE} (h : PE X e te) (q : X.K = K := by rfl) : PI X tg e (iSeqU K te) := by subst q; exact PI.or (pi_list h) (PI.or (pi_tup h) (pi_str h))
/-- the ints of a range -/
def rng (lo : Int) (n : Nat) : List D := (List.range n).map fun i => .int (lo + (i : Nat))
def rngC (lo c : Int) (n : Nat) : List D := (List.range n).map fun i => .int (lo + (i : Nat) * c)
theorem rng_get {lo : Int} {n i : Nat} {d : D} (h : (rng lo n)[i]? = some d) : d = .int (lo + (i : Nat)) ∧ i < n := by
  unfold rng at h
  rw [List.getElem?_map] at h
  by_cases q : i < n
  · rw [List.getElem?_range q] at h; cases h; exact ⟨rfl, q⟩
  · rw [List.getElem?_eq_none (by simpa using Nat.le_of_not_lt q)] at h; cases h
theorem rngC_get {lo c : Int} {n i : Nat} {d : D} (h : (rngC lo c n)[i]? = some d) : d = .int (lo + (i : Nat) * c) ∧ i < n := by
  unfold rngC at h
  rw [List.getElem?_map] at h
  by_cases q : i < n
  · rw [List.getElem?_range q] at h; cases h; exact ⟨rfl, q⟩
  · rw [List.getElem?_eq_none (by simpa using Nat.le_of_not_lt q)] at h; cases h
theorem rng_len {lo : Int} {n : Nat} : (rng lo n).length = n := by unfold rng; simp
theorem rngC_len {lo c : Int} {n : Nat} : (rngC lo c n).length = n := by unfold rngC; simp
end
end DL

namespace DL
open PySem L2

/-! ### targets -/
section
variable {K : PySem.W.Frag} {te ta tb tc : TE} {t u : TT} {env env' e1 e2 e3 : Env} {r r1 r2 : Res} {d d1 d2 : D} {o : OB} {i j : Nat} {c c1 c2 : Bool} {l m : List D} {g : TG}
/-! ### comprehensions -/
def wipeE (env : Env) : List Nat → Env
  | [] => env
  | v :: vs => (wipeE env vs).set v .any
theorem wipeE_len (env : Env) : ∀ vs : List Nat, (wipeE env vs).length = env.length
  | [] => rfl
  | v :: vs => by unfold wipeE; rw [List.length_set, wipeE_len env vs]
theorem wipeE_get {x : EV} : ∀ {vs : List Nat} {i : Nat}, (wipeE env vs)[i]? = some x → x = .any ∨ (i ∉ vs ∧ env[i]? = some x)
  | [], i, h => .inr ⟨by simp, h⟩
  | v :: vs, i, h => by
    unfold wipeE at h
    by_cases q : v = i
    · subst q
      rw [List.getElem?_set] at h
      split at h
      · split at h
        · cases h; exact .inl rfl
        · cases h
      · rename_i z; exact absurd rfl z
    · rw [List.getElem?_set_ne q] at h
      rcases wipeE_get h with z | ⟨z1, z2⟩
      · exact .inl z
      · exact .inr ⟨by simp only [List.mem_cons, not_or]; exact ⟨fun z => q z.symm, z1⟩, z2⟩
theorem wipe_out {σ : L2.St} : ∀ {vs : List Nat} {i : Nat}, i ∉ vs → (wipe σ vs)[i]? = σ[i]?
  | [], _, _ => rfl
  | v :: vs, i, h => by
    simp only [List.mem_cons, not_or] at h
    unfold wipe
    rw [List.getElem?_set_ne (Ne.symm h.1), wipe_out h.2]
theorem Sig.wiped {b : Bs} {F : Hp} {oa : Nat → Addr} {σ : L2.St} {H : Hp} (S : Sig K b F oa σ H env) (vs : List Nat) : Sig K b F oa (L2.wipe σ vs) H (wipeE env vs) where
  g := S.g
  len := by rw [wipe_length, wipeE_len, S.len]
  val := fun i d e => by
    rcases wipeE_get e with q | ⟨q, e⟩
    · cases q
    · rw [wipe_out q]; exact S.val i d e
  own := fun i o e => by
    rcases wipeE_get e with q | ⟨q, e⟩
    · cases q
    · rw [wipe_out q]; exact S.own i o e
  dist := fun i j o u e f z => by
    rcases wipeE_get e with q | ⟨_, e⟩
    · cases q
    · rcases wipeE_get f with q | ⟨_, f⟩
      · cases q
      · exact S.dist i j o u e f z
  fix := S.fix
/-- behind a turn: the slots vs as they were ahead, the others as they are -/
def back (vs : List Nat) : Nat → Env → Env → Env
  | n, a :: r, x :: s => (if vs.contains n then a else x) :: back vs (n + 1) r s
  | _, _, _ => []
end
end DL

namespace DL
open PySem L2

/-- what a def hands back -/
inductive Ret where
  | val (d : D) | new (o : OB) | exc (C : Addr)
def RetR (K : PySem.W.Frag) (b : Bs) (F : Hp) (H : Hp) (v : V) : Ret → Prop
  | .val d => Rep K F v d
  | .new o => ∃ a, v = .ref a ∧ F a = none ∧ b.H a = none ∧ (∀ j, b.fx j ≠ some a) ∧ ORep K F H a o
  | .exc _ => False
structure Sat (K : PySem.W.Frag) (b : Bs) (F : Hp) (W : WX) (D : Ends) (N B C : Env → Prop) (R : Ret → Env → Prop) : Prop where
  nx : ∀ env F' oa σ H, N env → Sig K b F' oa σ H env → Ex F F' → D.nx σ H
  bk : ∀ env F' oa σ H, B env → Sig K b F' oa σ H env → Ex F F' → D.bk σ H
  ct : ∀ env F' oa σ H, C env → Sig K b F' oa σ H env → Ex F F' → D.ct σ H
  rt : ∀ r env F' oa σ H v, R r env → Sig K b F' oa σ H env → Ex F F' → RetR K b F' H v r → D.rt v H
  xc : ∀ X env F' oa σ H, R (.exc X) env → Sig K b F' oa σ H env → Ex F F' → W (.ref X) none σ H
theorem Sat.mono {K : PySem.W.Frag} {b : Bs} {F F1 : Hp} {W : WX} {D : Ends} {N B C : Env → Prop} {R : Ret → Env → Prop} (s : Sat K b F W D N B C R) (e : Ex F F1) : Sat K b F1 W D N B C R :=
  ⟨fun env F' oa σ H h S x => s.nx env F' oa σ H h S (e.trans x), fun env F' oa σ H h S x => s.bk env F' oa σ H h S (e.trans x), fun env F' oa σ H h S x => s.ct env F' oa σ H h S (e.trans x), fun r env F' oa σ H v h S x q => s.rt r env F' oa σ H v h S (e.trans x) q, fun X env F' oa σ H h S x => s.xc X env F' oa σ H h S (e.trans x)⟩
/-- a statement: from env it goes on (N), breaks (B), continues (C), or hands back (R); pr: the slots whose objects were handed in to be changed -/
def Exec (K : PySem.W.Frag) (pr : List Nat) (W : WX) (t : TS) (env : Env) (N B C : Env → Prop) (R : Ret → Env → Prop) : Prop := ∀ (b : Bs) (F : Hp) (oa : Nat → Addr) (σ : L2.St) (H : Hp) (D : Ends),
  (∀ i, b.fx i ≠ none → i ∈ pr) → Sig K b F oa σ H env → Sat K b F W D N B C R → t D σ H

section
variable {K : PySem.W.Frag} {pr : List Nat} {W : WX} {te ta tb tc : TE} {t u : TT} {s s1 s2 : TS} {env env' e1 e2 e3 : Env} {r r1 r2 : Res} {d d1 d2 : D} {o : OB} {i j : Nat} {c c1 c2 : Bool} {l m : List D} {g : TG} {N N' B B' C C' : Env → Prop} {R R' : Ret → Env → Prop}
theorem x_mono (h : Exec K pr W s env N B C R) (hn : ∀ e, N e → N' e) (hb : ∀ e, B e → B' e) (hc : ∀ e, C e → C' e) (hr : ∀ r e, R r e → R' r e) : Exec K pr W s env N' B' C' R' := fun b F oa σ H D hp S st =>
  h b F oa σ H D hp S ⟨fun env F oa σ H h S => st.nx env F oa σ H (hn _ h) S, fun env F oa σ H h S => st.bk env F oa σ H (hb _ h) S, fun env F oa σ H h S => st.ct env F oa σ H (hc _ h) S, fun r env F oa σ H v h S x q => st.rt r env F oa σ H v (hr _ _ h) S x q, fun X env F oa σ H h S x => st.xc X env F oa σ H (hr _ _ h) S x⟩
end

/-! ### promises -/
/-- an argument: data, or an object handed in to be changed -/
inductive AV where
  | val (d : D) | own (o : OB)
structure ArgsR (K : PySem.W.Frag) (F H : Hp) (vs : List V) (as : List AV) : Prop where
  len : vs.length = as.length
  val : ∀ (i : Nat) (d : D), as[i]? = some (.val d) → ∃ v, vs[i]? = some v ∧ Rep K F v d
  own : ∀ (i : Nat) (o : OB), as[i]? = some (.own o) → ∃ a, vs[i]? = some (.ref a) ∧ F a = none ∧ ORep K F H a o
  dist : ∀ (i j : Nat) (o u : OB) (a : Addr), as[i]? = some (.own o) → as[j]? = some (.own u) → vs[i]? = some (.ref a) → vs[j]? = some (.ref a) → i = j
/-- an address of an object that was handed in to be changed -/
def ownA (vs : List V) (as : List AV) (a : Addr) : Prop := ∃ (i : Nat) (o : OB), as[i]? = some (.own o) ∧ vs[i]? = some (.ref a)
structure CallEnd (K : PySem.W.Frag) (F H F' H' : Hp) (vs : List V) (as as' : List AV) (v : V) (r : Ret) : Prop where
  ff : Ex F F'
  fh : Ex F' H'
  kp : ∀ a u, H a = some u → ¬ ownA vs as a → H' a = some u
  gn : ∀ a, F' a ≠ none → F a ≠ none ∨ H a = none
  th : ∀ a, H a ≠ none → H' a ≠ none
  own : ∀ (i : Nat) (o : OB), as[i]? = some (.own o) → ∃ o' a, as'[i]? = some (.own o') ∧ vs[i]? = some (.ref a) ∧ F' a = none ∧ ORep K F' H' a o'
  ret : match r with
    | .val d => Rep K F' v d
    | .new o => ∃ a, v = .ref a ∧ F' a = none ∧ H a = none ∧ ORep K F' H' a o
    | .exc _ => True
/-- what is wanted of what came -/
def outR (r : Ret) (E : XK) (Q : VK) (v : V) (H : Hp) : Prop := match r with
  | .exc C => E (.ref C) none H
  | _ => Q v H
/-- THE PROMISE: from arguments as it hands back r and leaves them as' -/
def SpG (K : PySem.W.Frag) (P : List AV → Ret → List AV → Prop) : Sp := fun vs H Q E => ∃ F as r as', Ex F H ∧ ArgsR K F H vs as ∧ P as r as' ∧ ∀ v F' H', CallEnd K F H F' H' vs as as' v r → outR r E Q v H'
def AV.ev : AV → EV
  | .val d => .val d
  | .own o => .own o
open Classical in
noncomputable def hideA (vs : List V) (as : List AV) (H : Hp) : Hp := fun a => if ownA vs as a then none else H a
theorem hideA_ex {vs : List V} {as : List AV} {H : Hp} : Ex (hideA vs as H) H := fun a o e => by
  unfold hideA at e
  split at e
  · cases e
  · exact e
/-- what was handed in is in its slots yet -/
def Held (as as' : List AV) (e : Env) : Prop := ∀ (i : Nat) (o : OB), as[i]? = some (AV.own o) → ∃ o', as'[i]? = some (AV.own o') ∧ e[i]? = some (EV.own o')
/-- a def's body keeps its promise -/
theorem run_SpG {K : PySem.W.Frag} {P : List AV → Ret → List AV → Prop} {Nm : List Str} {n : Nat} {t : TS} {vs : List V} {H : Hp} {Q : VK} {E : XK} (h : SpG K P vs H Q E) (hn : ∀ as r as', P as r as' → as.length = n ∧ n ≤ Nm.length)
    (body : ∀ as r as', P as r as' → ∃ pr : List Nat, (∀ (i : Nat) (o : OB), as[i]? = some (AV.own o) → i ∈ pr) ∧ Exec K pr (fun cls d _ H => E cls d H) t (as.map AV.ev ++ List.replicate (Nm.length - n) .any)
      (fun e => r = .val .non ∧ Held as as' e) (fun _ => False) (fun _ => False) (fun q e => q = r ∧ Held as as' e)) :
    t { nx := fun _ H' => Q .non H', rt := Q } (L2.start Nm vs) H := by
  obtain ⟨F, as, r, as', e, ar, p, k⟩ := h
  obtain ⟨hl, hnm⟩ := hn as r as' p
  obtain ⟨pr, hpr, hx⟩ := body as r as' p
  have lvs : vs.length = n := by rw [ar.len, hl]
  have stg : ∀ (i : Nat) (v : V), vs[i]? = some v → (L2.start Nm vs)[i]? = some (some v) := fun i v h => by
    unfold L2.start
    have hi : i < vs.length := (List.getElem?_eq_some_iff.mp h).1
    rw [List.getElem?_append_left (by simpa using hi), List.getElem?_map, h]; rfl
  have evg : ∀ (i : Nat) (x : EV), (as.map AV.ev ++ List.replicate (Nm.length - n) .any)[i]? = some x → x = .any ∨ ∃ a, as[i]? = some a ∧ x = a.ev := fun i x h => by
    by_cases hi : i < as.length
    · rw [List.getElem?_append_left (by simpa using hi), List.getElem?_map] at h
      cases z : as[i]? with
      | none => rw [z] at h; cases h
      | some a => rw [z] at h; cases h; exact .inr ⟨a, rfl, rfl⟩
    · rw [List.getElem?_append_right (by simpa using Nat.le_of_not_lt hi)] at h
      have := List.getElem?_eq_some_iff.mp h
      obtain ⟨h1, h2⟩ := this
      rw [List.getElem_replicate] at h2
      exact .inl h2.symm
  have evo : ∀ (i : Nat) (o : OB), (as.map AV.ev ++ List.replicate (Nm.length - n) .any)[i]? = some (.own o) → as[i]? = some (.own o) := fun i o h => by
    rcases evg i _ h with z | ⟨a, h1, h2⟩
    · cases z
    · cases a with
      | val d => cases h2
      | own u => cases h2; exact h1
  -- the addresses
  let oa : Nat → Addr := fun i => match vs[i]? with
    | some (.ref a) => a
    | _ => 0
  have oav : ∀ (i : Nat) (a : Addr), vs[i]? = some (.ref a) → oa i = a := fun i a h => by show (match vs[i]? with | some (.ref a) => a | _ => 0) = a; rw [h]
  let fx : Nat → Option Addr := fun i => match as[i]? with
    | some (.own _) => some (oa i)
    | _ => none
  have fxs : ∀ i a, fx i = some a → ∃ o, as[i]? = some (.own o) ∧ a = oa i := fun i a h => by
    have h' : (match as[i]? with | some (.own _) => some (oa i) | _ => none) = some a := h
    cases z : as[i]? with
    | none => rw [z] at h'; cases h'
    | some x =>
      rw [z] at h'
      cases x with
      | val d => cases h'
      | own o => cases h'; exact ⟨o, rfl, rfl⟩
  have hidN : ∀ (i : Nat) (o : OB) (a : Addr), as[i]? = some (.own o) → vs[i]? = some (.ref a) → hideA vs as H a = none := fun i o a h1 h2 => by
    unfold hideA
    rw [if_pos ⟨i, o, h1, h2⟩]
  have S : Sig K ⟨F, hideA vs as H, fx⟩ F oa (L2.start Nm vs) H (as.map AV.ev ++ List.replicate (Nm.length - n) .any) := by
    refine ⟨⟨Ex.refl _, hideA_ex, e, fun a h => .inl h⟩, ?_, fun i d h => ?_, fun i o h => ?_, fun i j o u h1 h2 q => ?_, fun i a h => ?_⟩
    · unfold L2.start; simp [lvs, hl]
    · rcases evg i _ h with z | ⟨a, h1, h2⟩
      · cases z
      · cases a with
        | own o => cases h2
        | val d' =>
          cases h2
          obtain ⟨v, q1, q2⟩ := ar.val i d h1
          exact ⟨v, stg i v q1, q2⟩
    · have h1 := evo i o h
      obtain ⟨a, q1, q2, q3⟩ := ar.own i o h1
      rw [oav i a q1]
      exact ⟨stg i _ q1, q2, hidN i o a h1 q1, q3⟩
    · have h1 := evo i o h1
      have h2 := evo j u h2
      obtain ⟨a, q1, _⟩ := ar.own i o h1
      obtain ⟨a', q1', _⟩ := ar.own j u h2
      rw [oav i a q1, oav j a' q1'] at q
      subst q
      exact ar.dist i j o u a h1 h2 q1 q1'
    · obtain ⟨o, h1, rfl⟩ := fxs i a h
      obtain ⟨a, q1, _, q3⟩ := ar.own i o h1
      obtain ⟨w, hw⟩ := q3.ho
      exact ⟨rfl, by rw [oav i a q1, hw]; simp⟩
  have fin : ∀ env F' oa' σ' H' v, Sig K ⟨F, hideA vs as H, fx⟩ F' oa' σ' H' env → Held as as' env → (RetR K ⟨F, hideA vs as H, fx⟩ F' H' v r ∨ ∃ C, r = .exc C) → outR r E Q v H' := fun env F' oa' σ' H' v S' ho hr => by
    have fxo : ∀ (i : Nat) (o : OB) (a : Addr), as[i]? = some (.own o) → vs[i]? = some (.ref a) → oa' i = a ∧ H' a ≠ none := fun i o a h1 h2 => by
      have q : fx i = some a := by
        show (match as[i]? with | some (.own _) => some (oa i) | _ => none) = some a
        rw [h1, oav i a h2]
      exact S'.fix i a q
    have hkp : ∀ a u, H a = some u → ¬ ownA vs as a → H' a = some u := fun a u h n => S'.g.gh a u (by
      show hideA vs as H a = some u
      unfold hideA
      rw [if_neg n]; exact h)
    refine k v F' H' ⟨S'.g.gf, S'.g.fh, hkp, fun a h => ?_, fun a h => ?_, fun i o h => ?_, ?_⟩
    · rcases S'.g.gn a h with q | q
      · exact .inl q
      · by_cases z : ownA vs as a
        · obtain ⟨i, o, h1, h2⟩ := z
          obtain ⟨o', h3, h4⟩ := ho i o h1
          obtain ⟨_, x2, _⟩ := S'.own i o' h4
          rw [(fxo i o a h1 h2).1] at x2
          exact absurd x2 h
        · refine .inr ?_
          have q' : hideA vs as H a = none := q
          unfold hideA at q'
          rw [if_neg z] at q'
          exact q'
    · by_cases z : ownA vs as a
      · obtain ⟨i, o, h1, h2⟩ := z
        exact (fxo i o a h1 h2).2
      · cases w : H a with
        | none => exact absurd w h
        | some u => rw [hkp a u w z]; simp
    · obtain ⟨o', h3, h4⟩ := ho i o h
      obtain ⟨a, q1, _⟩ := ar.own i o h
      obtain ⟨_, x2, _, x4⟩ := S'.own i o' h4
      rw [(fxo i o a h q1).1] at x2 x4
      exact ⟨o', a, h3, q1, x2, x4⟩
    · cases r with
      | exc C => trivial
      | val d =>
        rcases hr with hr | ⟨_, hr⟩
        · exact hr
        · cases hr
      | new o =>
        rcases hr with hr | ⟨_, hr⟩
        rotate_left
        · cases hr
        obtain ⟨a, rfl, h1, h2, h3, h4⟩ := hr
        refine ⟨a, rfl, h1, ?_, h4⟩
        have h2' : hideA vs as H a = none := h2
        unfold hideA at h2'
        split at h2'
        · rename_i z
          obtain ⟨i, o', h5, h6⟩ := z
          refine absurd ?_ (h3 i)
          show (match as[i]? with | some (.own _) => some (oa i) | _ => none) = some a
          rw [h5, oav i a h6]
        · exact h2'
  refine hx ⟨F, hideA vs as H, fx⟩ F oa (L2.start Nm vs) H _ (fun i h => ?_) S ⟨fun env F' oa σ H h S x => ?_, fun _ _ _ _ _ h => h.elim, fun _ _ _ _ _ h => h.elim, fun q env F' oa σ H v h S x hr => ?_, fun X env F' oa σ H h S x => ?_⟩
  · cases z : fx i with
    | none => exact absurd z h
    | some a =>
      obtain ⟨o, h1, _⟩ := fxs i a z
      exact hpr i o h1
  · obtain ⟨h1, h2⟩ := h
    subst h1
    exact fin env F' oa σ H .non S h2 (.inl .non)
  · obtain ⟨h1, h2⟩ := h
    subst h1
    have := fin env F' oa σ H v S h2 (.inl hr)
    cases q with
    | exc C => exact hr.elim
    | val d => exact this
    | new o => exact this
  · obtain ⟨h1, h2⟩ := h
    subst h1
    exact fin env F' oa σ H .non S h2 (.inr ⟨_, rfl⟩)
/-- raise C('..') -/
def tRaise (W : WX) (C : Addr) : TS := fun _ σ H => W (.ref C) none σ H
section
variable {K : PySem.W.Frag} {pr : List Nat} {W : WX} {env e1 : Env} {N B C : Env → Prop} {R : Ret → Env → Prop} {X : Addr}
end
end DL

namespace DL
open PySem L2

/-! ### calls -/
section
variable {K : PySem.W.Frag} {env e1 : Env} {P : List AV → Ret → List AV → Prop} {rs : List Res} {as as' : List AV} {d : D} {o : OB} {ta : TA} {E : XK}
def slots : List Res → List Nat
  | [] => []
  | .val _ :: r => slots r
  | .slot i :: r => i :: slots r
/-! ### expressions that raise -/
variable {W : WX} {X : Addr} {te tb tl : TE} {t u : TT} {rr : R2} {e2 : Env} {r : Res} {cc : Bool} {pr : List Nat} {N B C : Env → Prop} {R : Ret → Env → Prop} {g : TG}
end
end DL

/-! ### an exception that is caught, and kept by a name behind its clause -/
namespace L2
open PySem PySem.Spec PyProof.Rows DL
section
variable {X : Cx} {pins : List (Addr × Obj)} {σ : L2.St} {H : Hp} {s : Shared}
/-- an exception that lies there untracked is tracked from now on -/
theorem Inv.heldExc (I : Inv X pins σ H s) {C a : Addr} {oe : Obj} {vs : Array Value} (ha : s.heap.get? a = some oe) (hz : Zc (.ref C) none oe) (hd : oe.data = .fields vs) (na : H a = none) (nL : a ≠ X.env.locals)
    (n0 : X.s_0.heap.get? a = none) (np : ∀ p ∈ X.pn ++ pins, p.1 ≠ a) : Inv X pins σ (upd H a (ExK C a)) s := by
  have other : ∀ {b : Addr} {o : HO}, H b = some o → upd H a (ExK C a) b = some o := fun {b o} hb => by
    rw [upd_ne (fun z => by rw [z, na] at hb; cases hb)]; exact hb
  have cellNe : ∀ x c, X.env.cells.lookup x = some c → c ≠ a := fun x c hx z => by
    obtain ⟨v, o, ho, hv⟩ := I.cell x c hx
    rw [z, ha] at ho
    cases ho
    rw [hd] at hv; cases hv
  refine { ok := I.ok, os := I.os, bare := I.bare, base := ?_, loc := I.loc, cell := I.cell, free := ?_, freeC := fun x c hx => ?_, pin := fun p hp => ?_, hok := fun b o hb => ?_, len := I.len }
  · refine { keep := I.base.keep, slot := I.base.slot, free := fun b o hb h0 hx => ?_, there := I.base.there, tups := fun b xs hb => other (I.base.tups b xs hb), frzs := fun b o u hb => other (I.base.frzs b o u hb), tbls := fun b ps hb => ?_ }
    · rw [upd_ne (fun z => by rw [z, n0] at hb; cases hb)]
      exact I.base.free b o hb h0 hx
    · obtain ⟨more, q⟩ := I.base.tbls b ps hb
      exact ⟨more, other q⟩
  · rw [upd_ne (Ne.symm nL)]; exact I.free
  · rw [upd_ne (cellNe x c hx)]; exact I.freeC x c hx
  · obtain ⟨h1, h2, h3⟩ := I.pin p hp
    exact ⟨h1, by rw [upd_ne (np p hp)]; exact h2, h3⟩
  · by_cases z : b = a
    · subst z
      rw [upd_same] at hb
      cases hb
      exact ⟨⟨oe, vs, ha, hz, hd⟩, ⟨oe, ha⟩, fun _ _ ⟨o', vs', q1, q2⟩ k => ⟨o', vs', k o' q1, q2⟩⟩
    · rw [upd_ne z] at hb
      exact (I.hok b o hb).stay (fun _ _ _ q => q) (fun _ q => other q) (fun _ _ q => other q)
/-- what 'except x as n: m = n' wishes: slot j is m's, i is n's -/
def wKeep (K : PySem.W.Frag) (c : Value) (i j : Nat) (D : Ends) : WX := fun cls d σ H =>
  ∃ C, cls = .ref C ∧ d = none ∧ PySem.W.exmOne K cls c = some true ∧ ∀ a, H a = none → D.nx (((σ.set i (some (.ref a))).set j (some (.ref a))).set i none) (upd H a (ExK C a))
end
section
variable {X : Cx} {x n : Str} {c : Value} {i j : Nat} {body suite : List Stmt} {b₀ : Stmt} {np pos pos' : Pos} {tb : WX → TS}
theorem ps_try_keep (hs : X.stack = X.env :: X.outer) (hf : X.env.frame = some X.env.locals) (hex : X.ex = []) (hN : X.N.Nodup) (hi : X.N[i]? = some n) (hln : X.env.kindOf n = some .local) (hc : Names X x c)
    (hb : ∀ (W : WX) (pn : List (Addr × Obj)) (xe : Value → Shared → Prop), Takes (X.tr pn xe) W → PassesOwn (model X.prog X.w) X.A X.env xe → PSs (X.tr pn xe) body (tb W))
    (hsu : ∀ (a : Addr) (oe : Obj) (pn : List (Addr × Obj)), PSs (X.suite a ((a, oe) :: pn)) (b₀ :: suite) (tAsg (tVar i) (gName j))) (hij : i < X.N.length) :
    PS X (.Try body [.ExceptHandler (some (.Name x np)) (some n) (b₀ :: suite) pos'] [] [] pos) (fun D σ H => tb (wKeep X.K c i j D) D σ H) := by
  constructor
  intro pins s σ H D I h
  have okX := I.ok
  have fr : X.A.frames = some (X.env :: X.outer) := okX.frames.trans (congrArg some hs)
  apply wpAny_Try_except
  refine wpAny_mono ((hb (wKeep X.K c i j D) (X.pn ++ pins) _ (fun u s' air => ?_) PassesOwn.looking).run [] s σ H D (I.toTry _) h) (fun f s1 r => ?_) (fun _ _ z => z)
  · obtain ⟨a, B, sI, ps, σ', H', cls, d, eu, J', nb, up, sky, na, os, ag, C, ecls, ed, match1, go⟩ := air
    subst eu ecls ed
    have J : Inv X pins σ' H' sI := J'.ofTry okX
    rw [hs] at sky
    change wpAny (model X.prog X.w) X.A (noteFrame (.ref a) X.env) _ _ _
    refine Sky.land Zc.steady fr hf sky fun h3 air3 up3 => ?_
    have B0 : B.get? a = none := air3.2.1
    obtain ⟨oe3, vs3, at3, z3, d3⟩ := air3.there
    have J3 : Inv X pins σ' H' { s' with heap := h3 } := J.landed nb air3.1 (up.trans up3) os ag
    -- it is no frame
    have noFr : a ∉ frs (X.env :: X.outer) := fun hm => by
      obtain ⟨_, o, eo, no⟩ := air3.2.2.1.mem hm
      rw [at3] at eo
      cases eo
      exact no _ d3
    have nL : a ≠ X.env.locals := fun z => noFr (List.mem_filterMap.mpr ⟨X.env, List.mem_cons_self, by rw [hf, z]⟩)
    have nF : a ∉ X.fs := fun hm => by
      obtain ⟨e, h1, h2⟩ := List.mem_filterMap.mp hm
      exact noFr (List.mem_filterMap.mpr ⟨e, List.mem_cons_of_mem _ h1, h2⟩)
    -- it is new
    have nI : sI.heap.get? a = none := by
      cases q : sI.heap.get? a with
      | none => rfl
      | some o =>
        have := nb a o q (by show a ∉ frs X.stack; rw [hs]; exact noFr)
        rw [B0] at this; cases this
    have n0 : X.s_0.heap.get? a = none := by
      cases q : X.s_0.heap.get? a with
      | none => rfl
      | some o =>
        obtain ⟨o', q'⟩ := J.base.there a o q (by rw [hex]; exact List.not_mem_nil)
        rw [nI] at q'; cases q'
    have npin : ∀ p ∈ X.pn ++ pins, p.1 ≠ a := fun p hp z => by
      have := (J.pin p hp).1
      rw [z, nI] at this; cases this
    refine wpAny_handleBy_cons (codeAny_handlers_test ?_) (by intro q; cases q)
    have cl : PySem.W.Looks (model X.prog X.w) h3 (typeOf (.ref a)) (.ref C) := fun _ _ _ s2 k q => wpAny_typeOf_ref (k _ _ at3) (by rw [z3.1]; exact q)
    have look := PySem.W.exm_one (M := model X.prog X.w) J3.kIn cl match1
    have S3 := J3.suite at3 d3 na nL nF
    have named : ∀ (Q E : Value → Shared → Prop), Q c { s' with heap := h3 } → wpAny (model X.prog X.w) (X.A.mark (some (.ref a))) (eval (.Name x np) X.env) Q E { s' with heap := h3 } := by
      intro Q E q
      rcases hc with ⟨hg, hdb, hm | ⟨hm, hv, hnn⟩⟩
      · exact ld_glob (X := X.suite a ((a, oe3) :: (X.pn ++ pins))) S3 hg hm q hdb
      · exact ld_blt (X := X.suite a ((a, oe3) :: (X.pn ++ pins))) S3 hg hm hv q hnn hdb
    refine named _ _ (look.here ?_)
    apply codeAny_handlers_suite_as
    refine HandSPX.lands_againZ air3 fun h4 air4 up4 => ?_
    obtain ⟨oe, vs, at4, z4, d4⟩ := air4.there
    have J4 : Inv X pins σ' H' { s' with heap := h4 } := J.landed nb air4.1 ((up.trans up3).trans up4) os ag
    have S4 := J4.suite at4 d4 na nL nF
    have loc : Loc X.env.scope n := .inl hln
    refine store_ok (X := X.suite a ((a, oe) :: (X.pn ++ pins))) (v := .ref a) S4 hN hi loc rfl (fun s5 S5 => ?_) (.inr hln)
    have lσ : i < σ'.length := by rw [J.len]; exact hij
    -- what the suite leaves: the two names hold it
    let Dk : Ends := { nx := fun σ6 H6 => σ6 = (σ'.set i (some (.ref a))).set j (some (.ref a)) ∧ H6 = H', rt := fun _ _ => False }
    have suite1 : tAsg (tVar i) (gName j) Dk (σ'.set i (some (.ref a))) H' := ⟨.ref a, List.getElem?_set_self lσ, rfl, rfl⟩
    refine wpAny_mono ((hsu a oe (X.pn ++ pins)).run [] s5 _ H' Dk S5 suite1) (fun f s6 r => ?_) (fun _ _ z => z.elim)
    cases f with
    | next =>
      obtain ⟨σ6, H6, S6, eσ, eH⟩ := r
      subst eσ eH
      obtain ⟨at6, _, _, _, _⟩ := S6.pin (a, oe) (List.mem_append_left _ List.mem_cons_self)
      have J6 := Inv.heldExc (S6.unsuite okX) at6 z4 d4 na nL n0 npin
      exact gone_ok J6 hN hi hln fun s7 J7 => ⟨_, _, J7, go a na⟩
    | brk => obtain ⟨_, _, _, q⟩ := r; exact q.elim
    | cont => obtain ⟨_, _, _, q⟩ := r; exact q.elim
    | ret u => obtain ⟨_, _, _, _, _, q⟩ := r; exact q.elim
  · cases f with
    | next =>
      obtain ⟨σ1, H1, J1, q1⟩ := r
      exact wpAny_execs_nil ⟨σ1, H1, J1.ofTry okX, q1⟩
    | brk =>
      obtain ⟨σ1, H1, J1, q1⟩ := r
      exact ⟨σ1, H1, J1.ofTry okX, q1⟩
    | cont =>
      obtain ⟨σ1, H1, J1, q1⟩ := r
      exact ⟨σ1, H1, J1.ofTry okX, q1⟩
    | ret u =>
      obtain ⟨v, σ1, H1, J1, rv, q1⟩ := r
      exact ⟨v, σ1, H1, J1.ofTry okX, rv, q1⟩
end
end L2

namespace DL
open PySem L2
section
variable {K : PySem.W.Frag} {b : Bs} {F H : Hp} {oa : Nat → Addr} {σ : L2.St} {env : Env} {i j : Nat}
theorem Sig.unset (S : Sig K b F oa σ H env) : Sig K b F oa (σ.set i none) H (env.set i .any) where
  g := S.g
  len := by simp [S.len]
  val := fun n d e => by
    by_cases q : i = n
    · subst q
      rw [List.getElem?_set] at e
      split at e
      · split at e <;> cases e
      · rename_i z; exact absurd rfl z
    · rw [List.getElem?_set_ne q] at e
      rw [List.getElem?_set_ne q]
      exact S.val n d e
  own := fun n d e => by
    by_cases q : i = n
    · subst q
      rw [List.getElem?_set] at e
      split at e
      · split at e <;> cases e
      · rename_i z; exact absurd rfl z
    · rw [List.getElem?_set_ne q] at e
      rw [List.getElem?_set_ne q]
      exact S.own n d e
  dist := fun n m o u e f z => by
    have t : ∀ (n : Nat) (o : OB), (env.set i .any)[n]? = some (EV.own o) → env[n]? = some (EV.own o) := fun n o e => by
      by_cases q : i = n
      · subst q
        rw [List.getElem?_set] at e
        split at e
        · split at e <;> cases e
        · rename_i z; exact absurd rfl z
      · rw [List.getElem?_set_ne q] at e; exact e
    exact S.dist n m o u (t _ _ e) (t _ _ f) z
  fix := S.fix
end
/-- try: body / except c as n: m = n -/
def tTry (K : PySem.W.Frag) (c : Value) (i j : Nat) (tb : WX → TS) : TS := fun D σ H => tb (wKeep K c i j D) D σ H
theorem ps_tryK {X : Cx} {x n : Str} {c : Value} {i j : Nat} {body suite : List Stmt} {b₀ : Stmt} {np pos pos' : Pos} {tb : WX → TS} (hs : X.stack = X.env :: X.outer) (hf : X.env.frame = some X.env.locals) (hex : X.ex = []) (hN : X.N.Nodup) (hi : X.N[i]? = some n)
    (hln : X.env.kindOf n = some .local) (hc : Names X x c)
    (hb : ∀ (W : WX) (pn : List (Addr × Obj)) (xe : Value → Shared → Prop), Takes (X.tr pn xe) W → PassesOwn (model X.prog X.w) X.A X.env xe → PSs (X.tr pn xe) body (tb W))
    (hsu : ∀ (a : Addr) (oe : Obj) (pn : List (Addr × Obj)), PSs (X.suite a ((a, oe) :: pn)) (b₀ :: suite) (tAsg (tVar i) (gName j))) (hij : i < X.N.length) :
    PS X (.Try body [.ExceptHandler (some (.Name x np)) (some n) (b₀ :: suite) pos'] [] [] pos) (tTry X.K c i j tb) := ps_try_keep hs hf hex hN hi hln hc hb hsu hij
/-- an error of the class at C is what «except S» names -/
theorem exm_mk {K : PySem.W.Frag} {C S : Addr} (h1 : PySem.W.subIn K (.ref S) (.type "BaseException") = some true) (h2 : PySem.W.isClsIn K S = true) (h3 : PySem.W.typeIn K (.ref S) = some (.type "type")) (h4 : PySem.W.subIn K (.ref C) (.ref S) = some true) : PySem.W.exmOne K (.ref C) (.ref S) = some true := by
  have h2' : (PySem.W.clsIn K S).isSome = true := h2
  show (if (PySem.W.subIn K (.ref S) (.type "BaseException") == some true) = true then (if ((PySem.W.clsIn K S).isSome && PySem.W.typeIn K (.ref S) == some (.type "type")) = true then PySem.W.subIn K (.ref C) (.ref S) else none) else none) = some true
  rw [h1, h2', h3]
  simp only [beq_self_eq_true, Bool.and_self, if_true]
  exact h4
section
variable {K : PySem.W.Frag} {pr : List Nat} {W : WX} {env : Env} {i j : Nat} {N B C : Env → Prop} {R : Ret → Env → Prop} {c : Value} {tb : WX → TS}
/-- what is caught goes on with slot j holding it -/
def caught (K : PySem.W.Frag) (c : Value) (i j : Nat) (N : Env → Prop) (R : Ret → Env → Prop) : Ret → Env → Prop := fun q e => match q with
  | .exc X => PySem.W.exmOne K (.ref X) c = some true ∧ N (((e.set i (.val (.exc X))).set j (.val (.exc X))).set i .any)
  | q => R q e
end

/-! ### isinstance, of exceptions too -/
def rIsX (K : PySem.W.Frag) : List V → Hp → VK → Prop := fun xs H Q => ∃ (a C : Addr) (c : V) (u : Value) (b : Bool), xs = [.ref a, c] ∧ H a = some (ExK C a) ∧ ExcC K C ∧ ClsV c u ∧ PySem.W.kitOne K (.ref C) u = some b ∧ Q (.bl b) H
def rIsXT (K : PySem.W.Frag) : List V → Hp → VK → Prop := fun xs H Q => ∃ (a C tp : Addr) (cs : List V) (us : List Value) (b : Bool), xs = [.ref a, .ref tp] ∧ H a = some (ExK C a) ∧ ExcC K C ∧ H tp = some (.tup cs) ∧ Paired ClsV cs us ∧ PySem.W.kitAny K (.ref C) us = some b ∧ Q (.bl b) H
theorem exk_at {X : Cx} {pins : List (Addr × Obj)} {σ : L2.St} {H : Hp} {s : Shared} {a C : Addr} (I : Inv X pins σ H s) (h : H a = some (ExK C a)) : ∃ oe, PySem.W.InstAt s.heap a oe C none := by
  obtain ⟨⟨oe, vs, h1, h2, h3⟩, _⟩ := (show ObjOk X.prog X.w H s.heap a (ExK C a) from I.hok a _ h)
  obtain ⟨oc, od, dt, sl⟩ := oe
  obtain ⟨z1, z2⟩ := h2
  dsimp only at z1 z2 h3
  subst z1 z2 h3
  exact ⟨_, h1, rfl, rfl, trivial⟩
section
variable {X : Cx}
theorem call_isX : CallR X (.builtin "isinstance") (rIsX X.K) := by
  intro pins s σ H xs us Q I r h
  obtain ⟨a, C, c, u, b, rfl, ha, x, k, e, q⟩ := h
  obtain ⟨u1, u2, rfl, r1, r2⟩ := vals2 r
  have e2 := k.eq r2
  subst e2
  cases (show u1 = Value.ref a from r1)
  obtain ⟨oe, J⟩ := exk_at I ha
  exact PySem.W.kia_one (PySem.W.handS_kitx_exc x.hg x.hk x.hs x.hd x.ha x.hn x.ht x.hm) I.kIn J e (fun z => nomatch z) fun tk => ⟨.bl b, H, I.tok tk, rfl, q⟩
theorem call_isXT : CallR X (.builtin "isinstance") (rIsXT X.K) := by
  intro pins s σ H xs us Q I r h
  obtain ⟨a, C, tp, cs, ws, b, rfl, ha, x, hT, k, e, q⟩ := h
  obtain ⟨u1, u2, rfl, r1, r2⟩ := vals2 r
  cases (show u1 = Value.ref a from r1)
  cases (show u2 = Value.ref tp from r2)
  obtain ⟨oe, J⟩ := exk_at I ha
  obtain ⟨_, its, rv, o, h1, h2, n, h3⟩ := (show ObjOk X.prog X.w H s.heap tp (.tup cs) from I.hok tp _ hT)
  have e3 := ClsV.all k rv
  subst e3
  obtain ⟨oc, od, dt, sl⟩ := o
  dsimp only at h2 h3
  subst h2 h3
  exact PySem.W.kia_tup (PySem.W.handS_kitx_exc x.hg x.hk x.hs x.hd x.ha x.hn x.ht x.hm) I.kIn J h1 e (fun z => nomatch z) fun tk => ⟨.bl b, H, I.tok tk, rfl, q⟩
end
def rIsiU (K : PySem.W.Frag) : List V → Hp → VK → Prop := fun xs H Q => rIsi K xs H Q ∨ (rIsiT K xs H Q ∨ (rIsX K xs H Q ∨ rIsXT K xs H Q))
theorem call_isiA {X : Cx} {K : PySem.W.Frag} (e : X.K = K := by rfl) : CallR X (.builtin "isinstance") (rIsiU K) := by subst e; exact CallR.or call_isi (CallR.or call_isiT (CallR.or call_isX call_isXT))
/-- raise C('..') -/
theorem ps_raiseC {X : Cx} {W : WX} {C : Addr} {e : Expr} {pos : Pos} (hc : X.calm = true) (tk : Takes X W) (he : PMk X e (fun _ H Q => Q (.ref C) none H)) : PS X (.Raise (some e) none pos) (tRaise W C) := ps_raise hc tk he
end DL

namespace DL
open PySem L2

/-! ### operators and built-ins by what their operands came to -/
section
variable {K : PySem.W.Frag} {te ta tb tc : TE} {t u : TT} {env e e1 e2 e3 : Env} {r r1 r2 r3 : Res} {d d1 d2 : D} {o : OB} {i j k' : Int} {x y : Str} {c c1 c2 : Bool} {l m : List D} {rr : R2}
end

/-! ### defs -/
/-- a def that may be called by its name -/
structure Df (P : Program) (w : World) (K : PySem.W.Frag) (mg : Str → Option Value) (base : Heap) (k : Nat) (x : Str) (sp : Sp) : Prop where
  ex : ∃ (f : Addr) (fd : FuncData) (ps : List Str), FnOk P w K mg base CX0 k f fd ps sp ∧ mg x = some (.ref f) ∧ PySem.W.keepIn K (.ref f) = true ∧ Binds K fd ps []
section
variable {X : Cx} {k j : Nat} {x : Str} {sp : Sp} {p pos : Pos} {e : Expr} {es : List Expr} {t : TA}
end
/-- .. that may raise -/
structure Dx (P : Program) (w : World) (K : PySem.W.Frag) (mg : Str → Option Value) (base : Heap) (k : Nat) (x : Str) (sp : Sp) : Prop where
  ex : ∃ (f : Addr) (fd : FuncData) (ps : List Str), FnOk P w K mg base (L2.CX P w) k f fd ps sp ∧ mg x = some (.ref f) ∧ PySem.W.keepIn K (.ref f) = true ∧ Binds K fd ps []
section
variable {X : Cx} {W : WX} {k j : Nat} {x : Str} {sp : Sp} {p pos : Pos} {e : Expr} {es : List Expr} {t : TA}
theorem pe_dx (c : Dx X.prog X.w X.K X.mg X.base k x sp) (tk : Takes X W) (hr : Room j X.A) (hk : k ≤ j) (hg : Gl X x) (ha : PA X (e :: es) t)
    (hdb : (x == ("__debug__" : Str)) = false := by decide) (he : starEach (e :: es) X.env = (false, eval e X.env) :: starEach es X.env := by rfl) (hpl : (backTo pos (starEach es X.env)).any (·.1) = false := by rfl) :
    PE X (.Call (.Name x p) (e :: es) [] pos) (tCallS sp (WE W) t) := by
  obtain ⟨f, fd, ps, F, hm, kp, b⟩ := c.ex
  exact pe_callS F (hr.mono hk) hg hm kp b (fun σ => passAt tk σ) ha hdb he hpl
/-- .. and does not, where it is called -/
theorem pe_dx0 (c : Dx X.prog X.w X.K X.mg X.base k x sp) (hr : Room j X.A) (hk : k ≤ j) (hg : Gl X x) (ha : PA X (e :: es) t)
    (hdb : (x == ("__debug__" : Str)) = false := by decide) (he : starEach (e :: es) X.env = (false, eval e X.env) :: starEach es X.env := by rfl) (hpl : (backTo pos (starEach es X.env)).any (·.1) = false := by rfl) :
    PE X (.Call (.Name x p) (e :: es) [] pos) (tCall sp [] E0 t) := by
  obtain ⟨f, fd, ps, F, hm, kp, b⟩ := c.ex
  exact pe_call F (hr.mono hk) hg hm kp b .nil passL ha hdb he hpl
end
theorem vals_noOwn {ds : List D} {i : Nat} {o : OB} : (ds.map AV.val)[i]? ≠ some (AV.own o) := by
  rw [List.getElem?_map]
  cases ds[i]? <;> simp
section
variable {K : PySem.W.Frag} {env e1 : Env} {f : List D → D → Prop} {g : List D → OB → Prop} {rs : List Res} {ds : List D} {d : D} {o : OB} {ta : TA} {E : XK}
end
section
variable {K : PySem.W.Frag} {env e1 : Env} {f : List D → Ret → Prop} {rs : List Res} {ds : List D} {d : D} {o : OB} {ta : TA} {W : WX} {C : Addr} {E : XK}
end
section
variable {P : Program} {w : World} {K : PySem.W.Frag} {mg : Str → Option Value} {base : Heap} {x qn : Str} {st : Stmt} {fa : Addr} {fd : FuncData} {N ps : List Str} {k : Nat}
theorem spG_len {Pr : List AV → Ret → List AV → Prop} {n : Nat} (hn : ∀ as r as', Pr as r as' → as.length = n) {vs : List V} {H : Hp} {Q : VK} {E : XK} (h : SpG K Pr vs H Q E) : vs.length = n := by
  obtain ⟨F, as, r, as', _, ar, p, _⟩ := h
  rw [ar.len, hn as r as' p]
theorem Fn.ofG {Pr : List AV → Ret → List AV → Prop} (F : Fun K x qn st fa fd) (S : FnScope N ps (defScope st)) (hn : ∀ as r as', Pr as r as' → as.length = ps.length)
    (body : ∀ (cdv : Value) (A : Around) (outer : List PySem.Env) (s : Shared) (H : Hp) (E : XK), Room k (A.deeper (PyProof.Rows.envOfC qn (defScope st) s.heap.objs.size fa cdv)) →
      ∃ t, PSs (cxOf CX0 P w K mg base N qn (defScope st) fa cdv A outer s H E).nox (defBody st) t ∧ ∀ as r as', Pr as r as' → ∃ pr : List Nat, (∀ (i : Nat) (o : OB), as[i]? = some (AV.own o) → i ∈ pr) ∧ Exec K pr (fun cls d _ H => E cls d H) t (as.map AV.ev ++ List.replicate (N.length - ps.length) .any)
      (fun e => r = .val .non ∧ Held as as' e) (fun _ => False) (fun _ => False) (fun q e => q = r ∧ Held as as' e)) : FnOk P w K mg base CX0 (k + 1) fa fd ps (SpG K Pr) :=
  F.ok S (fun vs H Q E h => spG_len hn h) (fun cdv A outer s H vs Q E hr h => by
    obtain ⟨t, h1, h2⟩ := body cdv A outer s H E hr
    have hpl : ps.length ≤ N.length := by have := congrArg List.length S.pre; rw [List.length_take] at this; omega
    exact ⟨t, h1, run_SpG h (fun as r as' p => ⟨hn as r as' p, hpl⟩) h2⟩)
theorem Dx.of {sp : Sp} (h : FnOk P w K mg base (L2.CX P w) k fa fd ps sp) (F : Fun K x qn st fa fd) (hm : mg x = some (.ref fa)) (b : Binds K fd ps []) : Dx P w K mg base k x sp := ⟨fa, fd, ps, h, hm, F.kp, b⟩
theorem Df.of {sp : Sp} (h : FnOk P w K mg base CX0 k fa fd ps sp) (F : Fun K x qn st fa fd) (hm : mg x = some (.ref fa)) (b : Binds K fd ps []) : Df P w K mg base k x sp := ⟨fa, fd, ps, h, hm, F.kp, b⟩
end
end DL

namespace DL
open PySem L2
/-! ### == of data, by a plain function -/
mutual
def pl : Nat → D → Bool
  | _, .non => true
  | _, .bl _ => true
  | _, .int _ => true
  | _, .str x => PyData.canLay0 (.str x)
  | n + 1, .tup l => plL n l
  | n + 1, .lst l => plL n l
  | _, _ => false
def plL : Nat → List D → Bool
  | _, [] => true
  | n, d :: r => pl n d && plL n r
end
/-! ### items -/
/-! ### comprehensions over one name, the slots left as they are -/
section
variable {K : PySem.W.Frag} {te : TE} {t : TT} {env e1 : Env} {wi : TI} {j : Nat}
end
/-! ### isinstance of data -/
end DL

namespace DL
open PySem L2
section
variable {K : PySem.W.Frag} {pr : List Nat} {W : WX} {s : TS} {env e1 : Env} {i j : Nat} {N B C : Env → Prop} {R : Ret → Env → Prop} {wi : TI} {ds : List D}
theorem small_of {n : Int} (c : Int) (h0 : 0 ≤ n) (h1 : n ≤ 70) (hc : c = 1 ∨ c = 2 ∨ c = 3 ∨ c = 8) : Builtin.Range.small 0 n c = true := by
  have k1 : ∀ m : Nat, m < 71 → Builtin.Range.small 0 (m : Int) 1 = true := by decide
  have k2 : ∀ m : Nat, m < 71 → Builtin.Range.small 0 (m : Int) 2 = true := by decide
  have k3 : ∀ m : Nat, m < 71 → Builtin.Range.small 0 (m : Int) 3 = true := by decide
  have k8 : ∀ m : Nat, m < 71 → Builtin.Range.small 0 (m : Int) 8 = true := by decide
  have e : n = ((n.toNat : Nat) : Int) := by omega
  rw [e]
  rcases hc with h | h | h | h <;> subst h
  · exact k1 _ (by omega)
  · exact k2 _ (by omega)
  · exact k3 _ (by omega)
  · exact k8 _ (by omega)
theorem rg_of {n c : Int} (h : Builtin.Range.small 0 n c = true) (hc : 0 < c ∧ c < 1000) : RgC 0 n c (if 0 < n then (n - 1) / c + 1 else 0).toNat := by
  refine ⟨by omega, by omega, h, ?_⟩
  unfold Builtin.Range.rangeSize
  rw [if_pos (show c > 0 from hc.1)]
  by_cases q : 0 < n
  · rw [if_pos q, if_pos q]
    have : 0 ≤ (n - 1) / c := Int.ediv_nonneg (by omega) (by omega)
    rw [show n - 0 - 1 = n - 1 by omega]
    omega
  · rw [if_neg q, if_neg q]; rfl
/-- range(0, n, 3) for n to 70 -/
theorem rg3 {n : Int} (h0 : 0 ≤ n) (h1 : n ≤ 70) : RgC 0 n 3 (if 0 < n then (n - 1) / 3 + 1 else 0).toNat := rg_of (small_of 3 h0 h1 (by omega)) (by omega)
theorem log2_lt {n : Int} {k : Nat} (h0 : 0 < n) (h : n < 2 ^ k) (hk : k < 9000) : 0 < n ∧ n.natAbs.log2 < 9000 := by
  refine ⟨h0, ?_⟩
  have e : ((2 ^ k : Nat) : Int) = 2 ^ k := by simp
  have a : n.natAbs < 2 ^ k := by omega
  have := (Nat.log2_lt (n := n.natAbs) (k := k) (by omega)).mpr a
  omega
end
end DL

/-! ### methods of data by what their operands came to -/
namespace L2
open PySem PySem.Spec PyProof.Rows
end L2
namespace DL
open PySem L2
section
variable {K : PySem.W.Frag} {te tb : TE} {ta : TA} {env e e1 e2 : Env} {r r' : Res} {rs : List Res} {d : D} {l : List D} {i j : Nat} {n : Int} {x y : Str}
end
end DL

namespace DL
open PySem L2
/-! ### more statements and operators -/
def ipAddU : TIp := fun x y H Q => ipI (fun i j => i + j) x y H Q ∨ rExt2 x y H Q
theorem ip_addU {X : Cx} : PIp X .Add ipAddU := fun pins s σ H x y v u Q I rx ry h => by
  rcases h with h | h
  · exact ip_add pins s σ H x y v u Q I rx ry h
  · exact iop_ext pins s σ H x y v u Q I rx ry h
section
variable {K : PySem.W.Frag} {pr : List Nat} {W : WX} {te ta tb : TE} {env e1 e2 e : Env} {r r1 r2 : Res} {i j : Nat} {l m : List D} {N B C : Env → Prop} {R : Ret → Env → Prop} {n k : Int} {d d1 d2 : D} {c : Bool}
end
end DL
namespace DL
open PySem L2
theorem small_up {a b c : Int} (ha : -(2 ^ 60) ≤ a) (ha' : a < 2 ^ 60) (hb : -(2 ^ 60) ≤ b) (hb' : b < 2 ^ 60) (hc : 0 < c) (hc' : c < 2 ^ 60) : Builtin.Range.small a b c = true := by
  unfold Builtin.Range.small Builtin.Range.rangeSize
  have q : ∀ x : Int, 0 ≤ x → 0 ≤ x / c ∧ x / c ≤ x := fun x h => ⟨Int.ediv_nonneg h (by omega), Int.ediv_le_self c h⟩
  simp only [show c > 0 from hc, if_true]
  by_cases h : a < b
  · rw [if_pos h]
    have := q (b - a - 1) (by omega)
    simp only [Builtin.Range.rangeFitsLong, Bool.and_eq_true, Bool.or_eq_true, decide_eq_true_eq, beq_iff_eq]
    omega
  · rw [if_neg h]
    simp only [Builtin.Range.rangeFitsLong, Bool.and_eq_true, Bool.or_eq_true, decide_eq_true_eq, beq_iff_eq]
    omega
theorem rg_up {a b c : Int} (ha : -(2 ^ 60) ≤ a) (ha' : a < 2 ^ 60) (hb : -(2 ^ 60) ≤ b) (hb' : b < 2 ^ 60) (hc : 0 < c) (hc' : c < 1000000) : RgC a b c (if a < b then (b - a - 1) / c + 1 else 0).toNat := by
  refine ⟨by omega, by omega, small_up ha ha' hb hb' hc (by omega), ?_⟩
  unfold Builtin.Range.rangeSize
  rw [if_pos (show c > 0 from hc)]
  by_cases q : a < b
  · rw [if_pos q]
    have : 0 ≤ (b - a - 1) / c := Int.ediv_nonneg (by omega) (by omega)
    omega
  · rw [if_neg q]; rfl
end DL

/-! ### a tuple times any small number -/
namespace L2
open PySem PySem.Spec PyProof.Rows
theorem mulT_same (l : Addr) (items : Array Value) (n : Nat) (dd : Option Addr) (sl : Array (Option Value)) (x : Int) (u : Tok) (c0 : (decide (x < -(2 ^ 63)) || decide (x ≥ 2 ^ 63)) = false) (c1 : (items.isEmpty || x == 1) = true) :
    Meets (Builtin.«tuple.__mul__» ⟨[.ref l, .int x u], []⟩) (fun _ R s => s.heap.get? l = some { cls := .type "tuple", dict := dd, data := .seq items n, slots := sl } ∧ R (.ok (.ret (.ref l))) s) := .of_wp fun prog w A R s h => by
  obtain ⟨hp, g, d, tk, os⟩ := s
  obtain ⟨hl, h⟩ := h
  have g1 := AutoSeq1.idx_int
  wp_walk using wpAny_loadPart' hl
  repeat (first
    | (refine wpAny_ite_false (decide_eq_false (by rw [c0]; decide)) ?_; wp_walk using wpAny_loadPart' hl)
    | (refine wpAny_ite_true (decide_eq_true c1) ?_; wp_walk using wpAny_loadPart' hl))
  exact ⟨_, rfl, h⟩
theorem mulT_none (l : Addr) (items : Array Value) (n : Nat) (dd : Option Addr) (sl : Array (Option Value)) (x : Int) (u : Tok) (c0 : (decide (x < -(2 ^ 63)) || decide (x ≥ 2 ^ 63)) = false) (c1 : (items.isEmpty || x == 1) = false) (c2 : (decide (x ≤ 0) || items.isEmpty) = true) :
    Meets (Builtin.«tuple.__mul__» ⟨[.ref l, .int x u], []⟩) (fun _ R s => s.heap.get? l = some { cls := .type "tuple", dict := dd, data := .seq items n, slots := sl } ∧
      R (.ok (.ret (.ref s.heap.objs.size))) { s with heap := s.heap.push { cls := .type "tuple", data := .seq #[] }, toks := s.toks }) := .of_wp fun prog w A R s h => by
  obtain ⟨hp, g, d, tk, os⟩ := s
  obtain ⟨hl, h⟩ := h
  have g1 := AutoSeq1.idx_int
  wp_walk using wpAny_loadPart' hl
  repeat (first
    | (refine wpAny_ite_false (decide_eq_false (by rw [c0]; decide)) ?_; wp_walk using wpAny_loadPart' hl)
    | (refine wpAny_ite_false (decide_eq_false (by rw [c1]; decide)) ?_; wp_walk using wpAny_loadPart' hl)
    | (refine wpAny_ite_true (decide_eq_true c2) ?_; wp_walk using wpAny_loadPart' hl))
  exact ⟨_, rfl, h⟩
/-- a tuple times k, a new one: up to 4000000 items -/
theorem rep_new {X : Cx} {pins : List (Addr × Obj)} {s : Shared} {σ : L2.St} {H : Hp} {l : Addr} {k : Int} {t : Tok} {xs : List V} {Q : VK} (I : Inv X pins σ H s) (hT : SqT X.K H l xs) (hne : xs ≠ []) (h1 : 2 ≤ k) (h2 : k ≤ 4000) (hz : xs.length ≤ 1000)
    (q : ∀ p, H p = none → Q (.ref p) (upd H p (.tup (List.replicate k.toNat xs).flatten))) : wpAny (model X.prog X.w) X.A (binaryOp .Mult (.ref l) (.int k t)) (EP X pins σ Q) X.xe s := by
  obtain ⟨its, r, ⟨⟨_, dd, _, sl⟩, ho, rfl, n, rfl⟩, hs⟩ := I.tuple hT
  have le : its.length = xs.length := r.length.symm
  have size : its.toArray.size = xs.length := le
  have full : its.toArray.isEmpty = false := by
    cases its with
    | nil => exact absurd (List.eq_nil_of_length_eq_zero le.symm) hne
    | cons _ _ => rfl
  have most : k.toNat * xs.length ≤ 4000 * 1000 := Nat.mul_le_mul (by omega) hz
  have mosti : ((its.toArray.size : Nat) : Int) * k ≤ 4000000 := by
    have e : ((its.toArray.size : Nat) : Int) * k = ((k.toNat * xs.length : Nat) : Int) := by
      rw [size, Int.natCast_mul, Int.toNat_of_nonneg (by omega), Int.mul_comm]
    rw [e]; omega
  have c0 : (decide (k < -(2 ^ 63)) || decide (k ≥ 2 ^ 63)) = false := by simp; omega
  have c1 : (its.toArray.isEmpty || k == 1) = false := by rw [full]; simp; omega
  have c2 : (decide (k ≤ 0) || its.toArray.isEmpty) = false := by rw [full]; simp; omega
  have c4 : Builtin.Tuple.tupleTooMany (((its.toArray.size : Nat) : Int) * k) = false := by
    unfold Builtin.Tuple.tupleTooMany
    rw [sizeLine_eq]
    exact decide_eq_false (by omega)
  have fit : ∀ {α : Type} (ys : List α), ys.length = xs.length → (List.replicate k.toNat ys).flatten.length ≤ sizeLine := fun ys e => by
    rw [PyProof.Rows.lm_len_rep_flat, e, sizeLine_eq]; omega
  have mul := tuple_mulW l its.toArray n dd sl k t c0 c1 c2 (by omega) c4 (by rw [size_rep, List.size_toArray]; exact fit its le)
  rw [size_rep] at mul
  refine wpAny_binaryOp_repeat_ref (T := "tuple") (U := "int") (by decide) ⟨_, ho, rfl⟩ (fun s' => typeIs_int s' k t) noFill_tuple_mul F.fills_int_mul F.slot_int_rmul repeat_tuple F.slot_int_index.lookup
    (call_meets F.slot_int_rmul (typeIs_int s k t) F.entry_int_rmul (F.args_int_rmul_2 _ _) (int_rmul_tuple k t l its.toArray n dd sl)
      ⟨ho, rfl, ⟨_, ho, rfl⟩, call_meets F.slot_tuple_mul ⟨_, ho, rfl⟩ F.entry_tuple_mul (F.args_tuple_mul_2 _ _) mul ⟨ho, ?_⟩⟩)
  exact ⟨.ref s.heap.objs.size, _, I.laid (t' := s.toks) (o := .tup (List.replicate k.toNat xs).flatten) (fun b ob q => Heap.get?_push_of_some _ q) (Nat.le_refl _) ⟨fit xs rfl, _, r.rep k.toNat, IsTup.new _ _⟩, rfl, q _ (I.hok.fresh (Nat.le_refl _))⟩
/-- a tuple times any k to 100000: itself, or a new one -/
def rMulT (K : PySem.W.Frag) : R2 := fun x y H Q => ∃ l k xs, x = .ref l ∧ y = .int k ∧ SqT K H l xs ∧ k ≤ 4000 ∧ -1000 ≤ k ∧ xs.length ≤ 1000 ∧ (xs = [] → Q (.ref l) H) ∧ (k = 1 → Q (.ref l) H) ∧ (xs ≠ [] → k ≠ 1 → ∀ p, H p = none → Q (.ref p) (upd H p (.tup (List.replicate k.toNat xs).flatten)))
theorem op_mulT {X : Cx} : OpR X (binaryOp .Mult) (rMulT X.K) := by
  intro pins s σ H x y v u Q I rx ry h
  obtain ⟨l, k, xs, rfl, rfl, hT, h2, h1, hz, q0, q1, q2⟩ := h
  by_cases big : xs ≠ [] ∧ 2 ≤ k
  · cases rx
    obtain ⟨t, rfl⟩ := ry
    exact rep_new I hT big.1 big.2 h2 hz (q2 big.1 (by omega))
  · cases rx
    obtain ⟨t, rfl⟩ := ry
    obtain ⟨its, r, ⟨⟨cls, dd, data, sl⟩, ho, hc, n, hd⟩, hs⟩ := I.tuple hT
    simp only at hc hd
    subst hc hd
    have hle : its.length = xs.length := r.length.symm
    have c0 : (decide (k < -(2 ^ 63)) || decide (k ≥ 2 ^ 63)) = false := by
      rw [decide_eq_false (by omega), decide_eq_false (by omega)]; rfl
    by_cases one : xs = [] ∨ k = 1
    · have c1 : (its.toArray.isEmpty || k == 1) = true := by
        rcases one with e | e
        · have : its = [] := List.eq_nil_of_length_eq_zero (by rw [hle, e]; rfl)
          rw [this]; rfl
        · rw [e]; simp
      refine wpAny_binaryOp_repeat_ref (T := "tuple") (U := "int") (by decide) ⟨_, ho, rfl⟩ (fun s' => typeIs_int s' k t) noFill_tuple_mul F.fills_int_mul F.slot_int_rmul repeat_tuple F.slot_int_index.lookup
        (call_meets F.slot_int_rmul (typeIs_int s k t) F.entry_int_rmul (F.args_int_rmul_2 _ _) (int_rmul_tuple k t l its.toArray n dd sl)
          ⟨ho, rfl, ⟨_, ho, rfl⟩, call_meets F.slot_tuple_mul ⟨_, ho, rfl⟩ F.entry_tuple_mul (F.args_tuple_mul_2 _ _) (mulT_same l its.toArray n dd sl k t c0 c1) ⟨ho, ?_⟩⟩)
      refine ⟨.ref l, H, I, rfl, ?_⟩
      rcases one with e | e
      · exact q0 e
      · exact q1 e
    · have n1 : xs ≠ [] := fun e => one (.inl e)
      have n2 : k ≠ 1 := fun e => one (.inr e)
      have k0 : k ≤ 0 := by
        by_cases z : 2 ≤ k
        · exact absurd ⟨n1, z⟩ big
        · omega
      have hi : its.toArray.isEmpty = false := by
        cases its with
        | nil => exact absurd (List.eq_nil_of_length_eq_zero hle.symm) n1
        | cons a b => rfl
      have c1 : (its.toArray.isEmpty || k == 1) = false := by
        rw [hi, Bool.false_or]
        exact beq_eq_false_iff_ne.mpr n2
      have c2 : (decide (k ≤ 0) || its.toArray.isEmpty) = true := by rw [decide_eq_true k0]; rfl
      have e0 : k.toNat = 0 := by omega
      have q := q2 n1 n2
      rw [e0] at q
      refine wpAny_binaryOp_repeat_ref (T := "tuple") (U := "int") (by decide) ⟨_, ho, rfl⟩ (fun s' => typeIs_int s' k t) noFill_tuple_mul F.fills_int_mul F.slot_int_rmul repeat_tuple F.slot_int_index.lookup
        (call_meets F.slot_int_rmul (typeIs_int s k t) F.entry_int_rmul (F.args_int_rmul_2 _ _) (int_rmul_tuple k t l its.toArray n dd sl)
          ⟨ho, rfl, ⟨_, ho, rfl⟩, call_meets F.slot_tuple_mul ⟨_, ho, rfl⟩ F.entry_tuple_mul (F.args_tuple_mul_2 _ _) (mulT_none l its.toArray n dd sl k t c0 c1 c2) ⟨ho, ?_⟩⟩)
      refine ⟨.ref s.heap.objs.size, _, I.laid (t' := s.toks) (o := .tup []) (fun b ob q => Heap.get?_push_of_some _ q) (Nat.le_refl _) ?_, rfl, q _ (I.hok.fresh (Nat.le_refl _))⟩
      exact ⟨by decide, [], .nil, IsTup.new _ _⟩
end L2
namespace DL
open PySem L2
def rMulA (K : PySem.W.Frag) : R2 := fun x y H Q => rMulU x y H Q ∨ rMulT K x y H Q
theorem op_mulA {X : Cx} {K : PySem.W.Frag} (e : X.K = K := by rfl) : OpR X (binaryOp .Mult) (rMulA K) := by subst e; exact OpR.or op_mulU op_mulT
section
variable {K : PySem.W.Frag} {te ta tb : TE} {env e e1 e2 : Env} {r r1 r2 r' : Res} {i j : Int} {d d1 d2 : D} {l m : List D} {o o' : OB} {n : Nat}
/-- enumerate(xs) -/
def enumD (l : List D) : List D := (List.range l.length).map fun i => .tup [.int (i : Nat), l.getD i .non]
theorem enumD_len : (enumD l).length = l.length := by simp [enumD]
theorem enumD_get {i : Nat} (h : (enumD l)[i]? = some d) : ∃ x, l[i]? = some x ∧ d = .tup [.int (i : Nat), x] := by
  unfold enumD at h
  rw [List.getElem?_map] at h
  obtain ⟨k, hk, rfl⟩ := Option.map_eq_some_iff.mp h
  obtain ⟨h1, h2⟩ := List.getElem?_eq_some_iff.mp hk
  rw [List.length_range] at h1
  rw [List.getElem_range] at h2
  subst h2
  exact ⟨l[i], by simp [h1], by rw [List.getD_eq_getElem?_getD, List.getElem?_eq_getElem h1]; rfl⟩
def zipD (l m : List D) : List D := (l.zip m).map fun p => .tup [p.1, p.2]
end
/-! ### defs whose first argument is an object that they change -/
def PO (f : OB → List D → Ret → OB → Prop) : List AV → Ret → List AV → Prop := fun as r as' => ∃ o ds o', as = .own o :: ds.map AV.val ∧ as' = .own o' :: ds.map AV.val ∧ f o ds r o'
section
variable {K : PySem.W.Frag} {ta : TA} {env e1 : Env} {rs : List Res} {ds : List D} {d : D} {o o' ob : OB} {i : Nat} {f : OB → List D → Ret → OB → Prop} {E : XK}
end
section
variable {P : Program} {w : World} {K : PySem.W.Frag} {mg : Str → Option Value} {base : Heap} {x qn : Str} {st : Stmt} {fa : Addr} {fd : FuncData} {N ps : List Str} {k : Nat}
theorem Fn.ofO {f : OB → List D → Ret → OB → Prop} (F : Fun K x qn st fa fd) (S : FnScope N ps (defScope st)) (hn : ∀ o ds r o', f o ds r o' → ds.length + 1 = ps.length)
    (body : ∀ (cdv : Value) (A : Around) (outer : List PySem.Env) (s : Shared) (H : Hp) (E : XK), Room k (A.deeper (PyProof.Rows.envOfC qn (defScope st) s.heap.objs.size fa cdv)) →
      ∃ t, PSs (cxOf CX0 P w K mg base N qn (defScope st) fa cdv A outer s H E).nox (defBody st) t ∧ ∀ o ds r o', f o ds r o' → Exec K [0] (fun cls d _ H => E cls d H) t (EV.own o :: ds.map EV.val ++ List.replicate (N.length - ps.length) .any)
      (fun e => r = .val .non ∧ e[0]? = some (.own o')) (fun _ => False) (fun _ => False) (fun q e => q = r ∧ e[0]? = some (.own o'))) : FnOk P w K mg base CX0 (k + 1) fa fd ps (SpG K (PO f)) :=
  Fn.ofG F S (fun as r as' ⟨o, ds, o', h1, _, h4⟩ => by rw [h1, List.length_cons, List.length_map]; exact hn o ds r o' h4) fun cdv A outer s H E hr => by
    obtain ⟨t, h1, h2⟩ := body cdv A outer s H E hr
    refine ⟨t, h1, fun as r as' ⟨o, ds, o', e1, e2, hf⟩ => ⟨[0], fun i ob h => ?_, ?_⟩⟩
    · subst e1
      cases i with
      | zero => exact List.mem_cons_self
      | succ i => rw [List.getElem?_cons_succ] at h; exact absurd h vals_noOwn
    subst e1 e2
    have held : ∀ e : Env, e[0]? = some (.own o') → Held (.own o :: ds.map AV.val) (.own o' :: ds.map AV.val) e := fun e he i ob h => by
      cases i with
      | zero => exact ⟨o', rfl, he⟩
      | succ i => rw [List.getElem?_cons_succ] at h; exact absurd h vals_noOwn
    have em : (AV.own o :: ds.map AV.val).map AV.ev = EV.own o :: ds.map EV.val := by rw [List.map_cons, List.map_map]; rfl
    rw [em]
    exact x_mono (h2 o ds r o' hf) (fun e h => ⟨h.1, held e h.2⟩) (fun _ h => h) (fun _ h => h) fun q e h => ⟨h.1, held e h.2⟩
end
end DL

namespace DL
open PySem L2
/-! ### a comprehension whose part changes the object in the first slot -/
section
variable {K : PySem.W.Frag} {te : TE} {wi : TI} {env R : Env} {k : Nat} {ds : List D}
end
end DL

/-! ### xs.insert, a list times n, isinstance of several classes -/
namespace L2
open PySem
end L2
namespace DL
open PySem L2
section
variable {K : PySem.W.Frag} {pr : List Nat} {W : WX} {te ta tb : TE} {ts : TA} {env e1 e2 e : Env} {r : Res} {i : Nat} {l m : List D} {N B C : Env → Prop} {R : Ret → Env → Prop} {n j : Int} {d : D} {c : Bool}
end
end DL
namespace DL
open PySem L2
theorem ixN_nat {n i : Nat} (h : i < n) : ixN n (i : Int) = some i := by
  unfold ixN
  rw [if_pos (by omega), if_pos (by omega)]; rfl
end DL
namespace DL
open PySem L2
end DL

/-! ### len(set(xs)), xs.pop(i), xs.remove(x), xs[::-1], objects lent to a call -/
namespace L2
open PySem PySem.Spec PyProof.Rows
/-- how many unlike ones -/
def unlike (ns : List Int) : Nat := (PyProof.Rows.firstMet (fun i => ns.getD i 0) ns.length).length
end L2
namespace DL
open PySem L2
section
variable {K : PySem.W.Frag} {pr : List Nat} {W : WX} {te ta tb : TE} {ts : TA} {env e1 e2 e : Env} {r : Res} {i : Nat} {l m : List D} {N B C : Env → Prop} {R : Ret → Env → Prop} {n j : Int} {d : D} {c : Bool} {ns : List Int} {o : OB} {ds : List D} {rs : List Res}
theorem RepL.eraseIdx {F : Hp} : ∀ {vs : List V} {ds : List D} (n : Nat), RepL K F vs ds → RepL K F (vs.eraseIdx n) (ds.eraseIdx n)
  | _, _, _, .nil => .nil
  | _, _, 0, .cons _ r => r
  | _, _, n + 1, .cons q r => .cons q (RepL.eraseIdx n r)
/-- what each argument reads -/
inductive Rds (env : Env) : List Res → List D → Prop
  | nil : Rds env [] []
  | cons {r : Res} {d : D} {rs : List Res} {ds : List D} : Rd env r d → Rds env rs ds → Rds env (r :: rs) (d :: ds)
theorem Rds.rep {b : Bs} {F : Hp} {oa : Nat → Addr} {σ : L2.St} {H : Hp} (S : Sig K b F oa σ H env) : ∀ {vs : List V} {rs : List Res} {ds : List D}, RRs K F oa vs rs → Rds env rs ds → vs.length = ds.length ∧ ∀ (i : Nat) (d : D), ds[i]? = some d → ∃ v, vs[i]? = some v ∧ Rep K H v d
  | [], _, _, h, .nil => ⟨rfl, fun i d hi => by simp at hi⟩
  | _ :: _, _, _, h, .nil => h.elim
  | [], _, _, h, .cons _ _ => h.elim
  | v :: vs, _, _, h, .cons q t => by
    obtain ⟨h1, h2⟩ := Rds.rep S h.2 t
    refine ⟨by rw [List.length_cons, List.length_cons, h1], fun i d hi => ?_⟩
    cases i with
    | zero => simp at hi; subst hi; exact ⟨v, rfl, q.rep S h.1⟩
    | succ i => simp at hi; exact h2 i d hi
end
end DL

/-! ### xs[k] += n; in, of data of any depth; more that raises -/
namespace L2
open PySem PySem.Spec PyProof.Rows
end L2
namespace DL
open PySem L2
section
variable {X : Cx} {k j : Nat} {x : Str} {sp : Sp} {p pos : Pos}
end
theorem room65 {k : Nat} {A : Around} (r : Room k A) : A.units + 65 < cLine := by have := r.un; omega
section
variable {K : PySem.W.Frag} {pr : List Nat} {W : WX} {te ta tb to : TE} {ts : TA} {env e1 e2 e : Env} {r r1 r2 : Res} {i : Nat} {l m : List D} {N B C : Env → Prop} {R : Ret → Env → Prop} {n j k0 : Int} {d : D} {c : Bool} {X : Addr} {t u : TT}
/-! raising in parts -/
end
end DL

/-! ### instances of own classes: made, read, written -/
namespace DL
open PySem L2
section
variable {K : PySem.W.Frag} {F : Hp}
end
section
variable {K : PySem.W.Frag} {pr : List Nat} {W : WX} {te ta tv : TE} {ts : TA} {env e1 e2 e : Env} {r : Res} {rs : List Res} {i : Nat} {N B C : Env → Prop} {R : Ret → Env → Prop} {d : D} {ds : List D} {Cc : Addr} {fs : List (Str × D)} {f : Str} {o : OB}
end
/-- a class whose instances are made by a call of its name -/
structure Mf (P : Program) (w : World) (K : PySem.W.Frag) (mg : Str → Option Value) (base : Heap) (k : Nat) (x : Str) (C : Addr) (sp : Sp) : Prop where
  ex : ∃ (f : Addr) (fd : FuncData) (ps : List Str), Mk K C f ∧ FnOk P w K mg base CX0 k f fd ps sp ∧ mg x = some (.ref C) ∧ Binds K fd ps []
section
variable {X : Cx} {k j : Nat} {x : Str} {C : Addr} {sp : Sp} {p pos : Pos} {e : Expr} {es : List Expr} {t : TA}
end
theorem Mf.of {P : Program} {w : World} {K : PySem.W.Frag} {mg : Str → Option Value} {base : Heap} {k : Nat} {x : Str} {C fa : Addr} {fd : FuncData} {ps : List Str} {sp : Sp} (M : Mk K C fa) (h : FnOk P w K mg base CX0 k fa fd ps sp) (hm : mg x = some (.ref C)) (b : Binds K fd ps []) : Mf P w K mg base k x C sp := ⟨fa, fd, ps, M, h, hm, b⟩
end DL
namespace DL
open PySem L2
/-! ### try: .. except C: .. -/
def tTryO (K : PySem.W.Frag) (c : Value) (ts : TS) (tb : WX → TS) : TS := fun D σ H => tb (wOnly K c (fun _ _ _ => ts) (fun _ _ _ _ => False) D) D σ H
section
variable {K : PySem.W.Frag} {pr : List Nat} {W : WX} {env : Env} {N B C M : Env → Prop} {R : Ret → Env → Prop} {c : Value} {tb : WX → TS} {ts : TS}
end
end DL
namespace L2
open PySem PySem.Spec PyProof.Rows
theorem noI_tuple_add : typeLookup (.type "tuple") (dunderI "add") = pure none := by rw [typeLookup_type, builtinLookup_eq_fast]; kernel_rfl
section
variable {prog : Program} {w : World} {A : Around} {E : Value → Shared → Prop} {s : Shared}
theorem icat_tup {t b : Addr} {vs ws : List Value} {Q : Value → Shared → Prop} (ht : IsTup s.heap t vs.toArray) (hb : IsTup s.heap b ws.toArray) (hv : vs ≠ [])
    (h1 : ws = [] → Q (.ref t) s) (h2 : ws ≠ [] → Q (.ref s.heap.objs.size) { s with heap := s.heap.push { cls := .type "tuple", data := .seq (vs ++ ws).toArray } })
    (hsz : vs.length + ws.length ≤ sizeLine) : wpAny (model prog w) A (inplaceOp .Add (.ref t) (.ref b)) Q E s := by
  obtain ⟨⟨cls, dd, data, sl⟩, ho, hc, n, hd⟩ := id ht
  obtain ⟨⟨cls2, dd2, data2, sl2⟩, ho2, hc2, n2, hd2⟩ := id hb
  simp only at hc hd hc2 hd2
  subst hc hd hc2 hd2
  have e : vs.toArray ++ ws.toArray = (vs ++ ws).toArray := by simp
  by_cases hw : ws = []
  · exact wpAny_inplaceOp_concat ⟨_, ho, rfl⟩ ⟨_, ho2, rfl⟩ noI_tuple_add noFill_tuple_add seq_tuple_add (call_meets PySem.F.slot_tuple_add ⟨_, ho, rfl⟩ PySem.F.entry_tuple_add (PySem.F.args_tuple_add_2 _ _)
      (tuple_addW1 t b vs.toArray ws.toArray n n2 dd dd2 sl sl2 (by simpa using hv) (by simp [hw])) ⟨ho, ho2, h1 hw⟩)
  · refine wpAny_inplaceOp_concat ⟨_, ho, rfl⟩ ⟨_, ho2, rfl⟩ noI_tuple_add noFill_tuple_add seq_tuple_add (call_meets PySem.F.slot_tuple_add ⟨_, ho, rfl⟩ PySem.F.entry_tuple_add (PySem.F.args_tuple_add_2 _ _)
      (tuple_addW2 t b vs.toArray ws.toArray n n2 dd dd2 sl sl2 (by simpa using hv) (by simpa using hw) (by rw [List.size_toArray, List.size_toArray]; exact hsz)) ⟨ho, ho2, ?_⟩)
    rw [e]
    exact h2 hw
end
theorem iop_catT {X : Cx} : OpR X (inplaceOp .Add) (rCatT X.K) := by
  intro pins s σ H x y v u Q I rx ry h
  obtain ⟨a, b, xs, ys, rfl, rfl, ha, hb, hx, hz, q1, q2⟩ := h
  cases rx
  cases ry
  obtain ⟨its, r1, p1, _⟩ := I.tuple ha
  obtain ⟨its2, r2, p2, _⟩ := I.tuple hb
  refine icat_tup p1 p2 (fun z => hx (r1.nil_iff.mp z)) (fun z => ⟨.ref a, H, I, rfl, q1 (r2.nil_iff.mp z)⟩) (fun z => ?_) (by rw [← r1.length, ← r2.length]; exact hz)
  refine ⟨.ref s.heap.objs.size, _, I.laid (t' := s.toks) (o := .tup (xs ++ ys)) (fun b ob q => Heap.get?_push_of_some _ q) (Nat.le_refl _) ?_, rfl, q2 (fun w => z (r2.nil_iff.mpr w)) _ (I.hok.fresh (Nat.le_refl _))⟩
  exact ⟨by rw [List.length_append]; exact hz, _, r1.append r2, IsTup.new _ _⟩
end L2
namespace DL
open PySem L2
def ipAddT (K : PySem.W.Frag) : TIp := fun x y H Q => ipAddU x y H Q ∨ rCatT K x y H Q
theorem ip_addT {X : Cx} {K : PySem.W.Frag} (e : X.K = K := by rfl) : PIp X .Add (ipAddT K) := by
  subst e
  intro pins s σ H x y v u Q I rx ry h
  rcases h with h | h
  · exact ip_addU pins s σ H x y v u Q I rx ry h
  · exact iop_catT pins s σ H x y v u Q I rx ry h
section
variable {K : PySem.W.Frag} {pr : List Nat} {W : WX} {te : TE} {env e1 : Env} {i : Nat} {l m : List D} {N B C : Env → Prop} {R : Ret → Env → Prop}
end
end DL

/-! ### repr of tuples, where nothing is under way: in the law's own def, called from the top -/
namespace L2
open PySem PySem.Spec PyProof.Rows
/-- what a def promises where it is called from the top -/
structure RunC (P : Program) (w : World) (K : PySem.W.Frag) (mg : Str → Option Value) (base : Heap) (CX : CXT) (f : Addr) (fd : FuncData) (ps : List Str) (sp : Sp) : Prop where
  run : ∀ (outer : List Env) (s : Shared) (H : Hp) (args : Args) (us : List Value) (vs : List V) (Q : VK) (E : XK), Env0 P w K mg base callerA outer s H → BindsTo s fd args (ps.zip us) → Vals vs us → sp vs H Q E →
    codeAny (model P w) callerA (.call (.ref f) args) (CR CX outer P w H s Q E) s
theorem RunC.imp {P : Program} {w : World} {K : PySem.W.Frag} {mg : Str → Option Value} {base : Heap} {CX : CXT} {f : Addr} {fd : FuncData} {ps : List Str} {sp sp' : Sp} (R : RunC P w K mg base CX f fd ps sp) (h : ∀ vs H Q E, sp' vs H Q E → sp vs H Q E) : RunC P w K mg base CX f fd ps sp' :=
  ⟨fun outer s H args us vs Q E e b r q => R.run outer s H args us vs Q E e b r (h _ _ _ _ q)⟩
end L2

namespace DL
open PySem L2
/-! ### what repr shows of data -/
section
variable {K : PySem.W.Frag} {e : Env} {r : Res} {l : List D}
end
section
variable {P : Program} {w : World} {K : PySem.W.Frag} {mg : Str → Option Value} {base : Heap} {x qn : Str} {st : Stmt} {fa : Addr} {fd : FuncData} {N ps : List Str} {k : Nat}
end
end DL

/-! ### methods of own classes that only read; isinstance of an instance -/
namespace DL
open PySem L2
/-- a method -/
structure Mt (P : Program) (w : World) (K : PySem.W.Frag) (mg : Str → Option Value) (base : Heap) (k : Nat) (C : Addr) (m : Str) (sp : Sp) : Prop where
  ex : ∃ (f : Addr) (fd : FuncData) (ps : List Str), Meth K C m f ∧ FnOk P w K mg base CX0 k f fd ps sp ∧ Binds K fd ps []
theorem Mt.of {P : Program} {w : World} {K : PySem.W.Frag} {mg : Str → Option Value} {base : Heap} {k : Nat} {m : Str} {C fa : Addr} {fd : FuncData} {ps : List Str} {sp : Sp} (M : Meth K C m fa) (h : FnOk P w K mg base CX0 k fa fd ps sp) (b : Binds K fd ps []) : Mt P w K mg base k C m sp := ⟨fa, fd, ps, M, h, b⟩
section
variable {X : Cx} {k j : Nat} {m : Str} {C : Addr} {sp : Sp} {apos pos : Pos} {o e : Expr} {es : List Expr} {t : TA} {ta : TE}
end
section
variable {K : PySem.W.Frag} {env e e1 e2 : Env} {f : List D → D → Prop} {rs : List Res} {ds : List D} {d : D} {ta : TE} {ts : TA} {E : XK} {Cc : Addr} {m : Str} {fs : List (Str × D)}
/-- what isinstance asks of an own class -/
structure InC (K : PySem.W.Frag) (C : Addr) : Prop where
  cl : Cls K C
  ha : PySem.W.findIn K (.ref C) "__class__" = some (some (.builtin "object.__class__"))
  hn : PySem.W.specialIn K (.builtin "object.__class__") "__get__" = some (some (.builtin "getset_descriptor.__get__"))
  ht : PySem.W.takesIn K (.builtin "object.__class__") = some true
  hm : PySem.W.mroIn K C (.type "object") = some true
end
end DL
/-! ### repr of tuples, ints and texts, at the top -/
namespace DL
open PySem L2
section
variable {K : PySem.W.Frag} {e : Env} {r : Res} {l : List D} {i : Int} {x : Str}
end
end DL

/-! ### instances made by an __init__ that may raise -/
namespace L2
open PySem PySem.Spec PyProof.Rows
section
variable {X : Cx} {CX : CXT} {k : Nat} {f C : Addr} {fd : FuncData} {ps : List Str} {sp : Sp} {E : St → XK} {x : Str} {p pos : Pos} {e : Expr} {es : List Expr} {t : TA}
theorem run_makeS {pins : List (Addr × Obj)} {σ : St} {H : Hp} {s : Shared} {Q : VK} {us : List Value} {vs : List V} (M : Mk X.K C f) (F : FnOk X.prog X.w X.K X.mg X.base CX k f fd ps sp) (hr : Room (k + 1) X.A) (hb : Binds X.K fd ps [])
    (hx : PassesAt CX X σ (E σ)) (I : Inv X pins σ H s) (r : Vals vs us)
    (h : ∀ x dx, H x = none → H dx = none → dx ≠ x → sp (.ref x :: vs) (upd (upd H dx (.own x)) x (.ins C dx [])) (fun v H2 => v = .non ∧ Q (.ref x) H2) (E σ)) :
    wpAny (model X.prog X.w) X.A (call (.ref C) us) (EP X pins σ Q) X.xe s := by
  have hq := h (s.heap.objs.size + 1) s.heap.objs.size (I.hok.fresh (Nat.le_succ _)) (I.hok.fresh (Nat.le_refl _)) (Nat.ne_of_lt (Nat.lt_succ_self _))
  have I2 := Inv.made (C := C) I
  have r2 : Vals (V.ref (s.heap.objs.size + 1) :: vs) (Value.ref (s.heap.objs.size + 1) :: us) := .cons rfl r
  have hl : (Value.ref (s.heap.objs.size + 1) :: us).length = ps.length := by
    have e := r2.length
    rw [F.len _ _ _ _ hq] at e
    exact e.symm
  have b := hb _ (Value.ref (s.heap.objs.size + 1) :: us) I2.kIn (by rw [List.append_nil]; exact hl)
  rw [List.append_nil] at b
  refine wpAny_call (make_map (f := f) I.kIn M.makes M.init (beq_iff_eq.mp M.fn) (codeAny_mono (F.run _ X.stack _ _ ⟨Value.ref (s.heap.objs.size + 1) :: us, []⟩ (Value.ref (s.heap.objs.size + 1) :: us) _ _ (E σ) (hr.make C us [])
    (I2.env0.make C us []) b r2 hq) fun r s' hq' => ?_))
  cases r with
  | error e => exact hx pins _ _ e s' I2 hq'
  | ok fl =>
    cases fl with
    | ret u =>
      obtain ⟨v, H', I3, rv, ev, q3⟩ := I2.after hq'
      subst ev
      exact ⟨rv, ⟨V.ref (s.heap.objs.size + 1), H', I3, rfl, q3⟩⟩
    | next => exact False.elim hq'
    | brk => exact False.elim hq'
    | cont => exact False.elim hq'
def tMakeS (C : Addr) (sp : Sp) (E : St → XK) (t : TA) : TE := fun σ H Q => t σ H fun vs H1 => ∀ x dx, H1 x = none → H1 dx = none → dx ≠ x →
  sp (.ref x :: vs) (upd (upd H1 dx (.own x)) x (.ins C dx [])) (fun v H2 => v = .non ∧ Q (.ref x) H2) (E σ)
theorem pe_makeS (M : Mk X.K C f) (F : FnOk X.prog X.w X.K X.mg X.base CX k f fd ps sp) (hr : Room (k + 1) X.A) (hg : Gl X x) (hm : X.mg x = some (.ref C)) (hb : Binds X.K fd ps []) (hx : ∀ σ, PassesAt CX X σ (E σ))
    (ha : PA X (e :: es) t) (hdb : (x == ("__debug__" : Str)) = false := by decide) (he : starEach (e :: es) X.env = (false, eval e X.env) :: starEach es X.env := by rfl) (hpl : (backTo pos (starEach es X.env)).any (·.1) = false := by rfl) :
    PE X (.Call (.Name x p) (e :: es) [] pos) (tMakeS C sp E t) := by
  refine ⟨fun pins s σ H Q I h => ?_⟩
  refine wpAny_Call_Name_kw (ld_glob I hg hm ?_ hdb)
  refine PySem.W.callWith_K (h₀ := X.base) I.ok.mod.kin M.kp (thn (ha.run pos pins s σ H _ I h) fun us s1 ⟨vs, H1, I1, r, q⟩ => ⟨I1.kIn, ?_⟩) he hpl
  exact run_makeS M F hr hb (hx σ) I1 r q
end
end L2
namespace DL
open PySem L2
structure Mx (P : Program) (w : World) (K : PySem.W.Frag) (mg : Str → Option Value) (base : Heap) (k : Nat) (x : Str) (C : Addr) (sp : Sp) : Prop where
  ex : ∃ (f : Addr) (fd : FuncData) (ps : List Str), Mk K C f ∧ FnOk P w K mg base (L2.CX P w) k f fd ps sp ∧ mg x = some (.ref C) ∧ Binds K fd ps []
theorem Mx.of {P : Program} {w : World} {K : PySem.W.Frag} {mg : Str → Option Value} {base : Heap} {k : Nat} {x : Str} {C fa : Addr} {fd : FuncData} {ps : List Str} {sp : Sp} (M : Mk K C fa) (h : FnOk P w K mg base (L2.CX P w) k fa fd ps sp) (hm : mg x = some (.ref C)) (b : Binds K fd ps []) : Mx P w K mg base k x C sp := ⟨fa, fd, ps, M, h, hm, b⟩
section
variable {X : Cx} {W : WX} {k j : Nat} {x : Str} {C : Addr} {sp : Sp} {p pos : Pos} {e : Expr} {es : List Expr} {t : TA}
theorem pe_mx (c : Mx X.prog X.w X.K X.mg X.base k x C sp) (tk : Takes X W) (hr : Room j X.A) (hk : k + 1 ≤ j) (hg : Gl X x) (ha : PA X (e :: es) t)
    (hdb : (x == ("__debug__" : Str)) = false := by decide) (he : starEach (e :: es) X.env = (false, eval e X.env) :: starEach es X.env := by rfl) (hpl : (backTo pos (starEach es X.env)).any (·.1) = false := by rfl) :
    PE X (.Call (.Name x p) (e :: es) [] pos) (tMakeS C sp (WE W) t) := by
  obtain ⟨f, fd, ps, M, F, hm, b⟩ := c.ex
  exact pe_makeS M F (hr.mono hk) hg hm b (fun σ => passAt tk σ) ha hdb he hpl
/-- .. and does not raise, where it is made -/
theorem pe_mx0 (c : Mx X.prog X.w X.K X.mg X.base k x C sp) (hr : Room j X.A) (hk : k + 1 ≤ j) (hg : Gl X x) (ha : PA X (e :: es) t)
    (hdb : (x == ("__debug__" : Str)) = false := by decide) (he : starEach (e :: es) X.env = (false, eval e X.env) :: starEach es X.env := by rfl) (hpl : (backTo pos (starEach es X.env)).any (·.1) = false := by rfl) :
    PE X (.Call (.Name x p) (e :: es) [] pos) (tMake C sp [] E0 t) := by
  obtain ⟨f, fd, ps, M, F, hm, b⟩ := c.ex
  exact pe_make M F (hr.mono hk) hg hm b .nil passL ha hdb he hpl
end
section
variable {K : PySem.W.Frag} {pr : List Nat} {W : WX} {ts : TA} {env e1 : Env} {rs : List Res} {ds : List D} {Cc Ce : Addr} {fs : List (Str × D)} {b : Bs} {F1 H1 : Hp} {oa : Nat → Addr} {σ : L2.St} {vs : List V} {x dx : Addr}
end
section
variable {P : Program} {w : World} {K : PySem.W.Frag} {mg : Str → Option Value} {base : Heap} {x qn : Str} {st : Stmt} {fa : Addr} {fd : FuncData} {N ps : List Str} {k : Nat}
end
end DL

namespace DL
open PySem L2
/-! ### rows of bits, in plain Lean -/
def gathA (a : Int) (l : List Int) : Int := l.foldl (fun n b => 2 * n + b) a
def gath (l : List Int) : Int := gathA 0 l
def bitsN (n : Int) (m : Nat) : List Int := (List.range m).map fun p => n / 2 ^ (m - 1 - p) % 2
def Bits (l : List Int) : Prop := ∀ b, b ∈ l → b = 0 ∨ b = 1
theorem Bits.nil : Bits [] := fun _ h => by cases h
theorem Bits.append {l m : List Int} (h1 : Bits l) (h2 : Bits m) : Bits (l ++ m) := fun b h => by
  rcases List.mem_append.mp h with q | q
  · exact h1 b q
  · exact h2 b q
theorem gathA_append {a : Int} {l m : List Int} : gathA a (l ++ m) = gathA (gathA a l) m := by unfold gathA; rw [List.foldl_append]
theorem gath_snoc {l : List Int} {b : Int} : gath (l ++ [b]) = 2 * gath l + b := by unfold gath; rw [gathA_append]; rfl
theorem gathA_lin : ∀ (l : List Int) (a : Int), gathA a l = a * 2 ^ l.length + gath l
  | [], a => by simp [gathA, gath]
  | b :: l, a => by
    show gathA (2 * a + b) l = _
    have e : gath (b :: l) = gathA (2 * 0 + b) l := rfl
    rw [e, gathA_lin l (2 * a + b), gathA_lin l (2 * 0 + b), List.length_cons, Int.pow_succ]
    generalize (2 : Int) ^ l.length = p
    rw [Int.add_mul, Int.add_mul, Int.mul_comm 2 a, Int.mul_assoc, Int.mul_comm 2 p]
    omega
theorem gath_append {l m : List Int} : gath (l ++ m) = gath l * 2 ^ m.length + gath m := by
  unfold gath
  rw [gathA_append]
  exact gathA_lin m _
theorem gath_range : ∀ (n : Nat) (l : List Int), l.length = n → Bits l → 0 ≤ gath l ∧ gath l < 2 ^ n
  | 0, l, h, _ => by
    have : l = [] := List.eq_nil_of_length_eq_zero h
    subst this
    exact ⟨by decide, by decide⟩
  | n + 1, l, h, hb => by
    rcases List.eq_nil_or_concat l with e | ⟨i, b, e⟩
    · subst e; cases h
    · rw [e, List.concat_eq_append] at h hb ⊢
      have hl : i.length = n := by simpa using h
      obtain ⟨h1, h2⟩ := gath_range n i hl fun b q => hb b (List.mem_append_left _ q)
      have hb := hb b (List.mem_append_right _ List.mem_cons_self)
      rw [gath_snoc, Int.pow_succ]
      omega
theorem gath_in {l : List Int} (h : Bits l) : 0 ≤ gath l ∧ gath l < 2 ^ l.length := gath_range _ l rfl h
theorem bitsN_len {n : Int} {m : Nat} : (bitsN n m).length = m := by simp [bitsN]
theorem bitsN_bits {n : Int} {m : Nat} : Bits (bitsN n m) := fun b h => by
  unfold bitsN at h
  obtain ⟨p, _, rfl⟩ := List.mem_map.mp h
  have : ∀ x : Int, x % 2 = 0 ∨ x % 2 = 1 := fun x => by omega
  exact this _
theorem pow_pos2 (k : Nat) : (0 : Int) < 2 ^ k := Int.pow_pos (by decide)
theorem bitsN_succ {n : Int} {m : Nat} : bitsN n (m + 1) = bitsN (n / 2) m ++ [n % 2] := by
  unfold bitsN
  rw [List.range_succ, List.map_append]
  congr 1
  · apply List.map_congr_left
    intro p hp
    have hp := List.mem_range.mp hp
    have e : m + 1 - 1 - p = (m - 1 - p) + 1 := by omega
    rw [e, Int.pow_succ, Int.mul_comm, ← Int.ediv_ediv_of_nonneg (by decide)]
  · simp
theorem gath_bitsN : ∀ (m : Nat) (n : Int), gath (bitsN n m) = n % 2 ^ m
  | 0, n => by
    show (0 : Int) = n % 1
    omega
  | m + 1, n => by
    rw [bitsN_succ, gath_snoc, gath_bitsN m, Int.pow_succ]
    have hp := pow_pos2 m
    generalize (2 : Int) ^ m = p at hp ⊢
    have h1 : n = 2 * (n / 2) + n % 2 := by omega
    have h2 := Int.mul_ediv_add_emod (n / 2) p
    have h3 := Int.emod_nonneg (n / 2) (show p ≠ 0 by omega)
    have h4 := Int.emod_lt_of_pos (n / 2) hp
    have e : n % (p * 2) = (2 * (n / 2 % p) + n % 2 + p * 2 * (n / 2 / p)) % (p * 2) := by
      congr 1
      have : p * 2 * (n / 2 / p) = 2 * (p * (n / 2 / p)) := by rw [Int.mul_comm p 2, Int.mul_assoc]
      omega
    have e2 : (2 * (n / 2 % p) + n % 2 + p * 2 * (n / 2 / p)) % (p * 2) = 2 * (n / 2 % p) + n % 2 := by
      rw [Int.add_mul_emod_self_left]
      exact Int.emod_eq_of_lt (by omega) (by omega)
    exact (e.trans e2).symm
theorem bitsN_zero : ∀ m : Nat, bitsN 0 m = List.replicate m 0
  | 0 => rfl
  | m + 1 => by
    rw [bitsN_succ, show (0 : Int) / 2 = 0 from rfl, bitsN_zero m, List.replicate_succ']
    rfl
theorem bitAnd1 {x : Int} : Builtin.bitAnd x 1 = x % 2 := by
  have h := PySem.W.kbt_mask x 1
  exact h
theorem bitOr_bit {n b : Int} (h : 0 ≤ n) (hb : b = 0 ∨ b = 1) : Builtin.bitOr (n * 2 ^ 1) b = 2 * n + b := by
  rw [or_low (k := 1) h (by omega) (by omega)]
  omega
/-! bytes in bits -/
def Bytes (l : List Int) : Prop := ∀ b, b ∈ l → 0 ≤ b ∧ b ≤ 255
def bitsOf (l : List Int) : List Int := (l.map fun b => bitsN b 8).flatten
def val (l : List Int) : Int := l.foldl (fun n b => n * 256 + b) 0
theorem bitsOf_cons {b : Int} {l : List Int} : bitsOf (b :: l) = bitsN b 8 ++ bitsOf l := rfl
theorem bitsOf_append {l m : List Int} : bitsOf (l ++ m) = bitsOf l ++ bitsOf m := by unfold bitsOf; rw [List.map_append, List.flatten_append]
theorem bitsOf_len : ∀ l : List Int, (bitsOf l).length = 8 * l.length
  | [] => rfl
  | b :: l => by rw [bitsOf_cons, List.length_append, bitsN_len, bitsOf_len l, List.length_cons]; omega
theorem bitsOf_bits : ∀ l : List Int, Bits (bitsOf l)
  | [] => Bits.nil
  | b :: l => by rw [bitsOf_cons]; exact bitsN_bits.append (bitsOf_bits l)
theorem bitsOf_at : ∀ (l : List Int) (k : Nat), k < l.length → ((bitsOf l).drop (8 * k)).take 8 = bitsN (l.getD k 0) 8
  | [], k, h => by simp at h
  | b :: l, 0, h => by
    rw [bitsOf_cons]
    show (bitsN b 8 ++ bitsOf l).take 8 = bitsN b 8
    rw [List.take_append_of_le_length (by rw [bitsN_len]; omega), List.take_of_length_le (by rw [bitsN_len]; omega)]
  | b :: l, k + 1, h => by
    rw [bitsOf_cons, show 8 * (k + 1) = 8 + 8 * k by omega, ← List.drop_drop]
    have e : (bitsN b 8 ++ bitsOf l).drop 8 = bitsOf l := by
      rw [List.drop_append_of_le_length (by rw [bitsN_len]; omega), List.drop_of_length_le (by rw [bitsN_len]; omega), List.nil_append]
    rw [e, bitsOf_at l k (by simpa using h)]
    rfl
theorem byte_back {b : Int} (h : 0 ≤ b ∧ b ≤ 255) : gath (bitsN b 8) = b := by
  rw [gath_bitsN]
  omega
/-- eight bits at a time -/
def dataOf (l : List Int) : List Int := (List.range (l.length / 8)).map fun k => gath ((l.drop (8 * k)).take 8)
theorem dataOf_bitsOf {l : List Int} (h : Bytes l) : dataOf (bitsOf l) = l := by
  unfold dataOf
  rw [bitsOf_len, show 8 * l.length / 8 = l.length by omega]
  apply List.ext_getElem
  · simp
  · intro k h1 h2
    rw [List.getElem_map, List.getElem_range, bitsOf_at l k h2, List.getD_eq_getElem?_getD, List.getElem?_eq_getElem h2]
    exact byte_back (h _ (List.getElem_mem h2))
end DL
namespace DL
open PySem L2
theorem sIx_some {n d : Nat} {v : Int} (h : 0 ≤ v) : HT.sIx n d (some v) = min v.toNat n := by
  show (if v < 0 then (v + (n : Int)).toNat else min v.toNat n) = _
  rw [if_neg (by omega)]
end DL

/-! ### texts: one sign in a text, join, index; a written dict; reversed(range(n)) -/
namespace DL
open PySem L2
def rJoin (K : PySem.W.Frag) : V → List V → Hp → VK → Prop := fun x xs H Q => ∃ a p, ∃ ys : List Str, x = .str a ∧ xs = [.ref p] ∧ (SqL K H p (ys.map V.str) ∨ SqT K H p (ys.map V.str)) ∧
    (ys.map (·.length)).sum + ys.length * a.length ≤ 16777216 ∧ Q (.str (Txt.join a ys)) H
def rIdxS : V → List V → Hp → VK → Prop := fun x xs H Q => ∃ (a b : Str) (k : Nat), x = .str a ∧ xs = [.str b] ∧ Txt.index0 a b = some k ∧ Q (.int (k : Nat)) H
section
variable {X : Cx} {o e : Expr} {to te : TE} {apos pos : Pos}
end
section
variable {K : PySem.W.Frag} {e env e1 e2 : Env} {to te : TE} {r : Res} {a b z : Str} {ys : List Str} {k : Nat} {c : Nat} {neg : Bool} {da : Addr} {w : World} {d : D} {n : Int}
end
end DL

/-! ## plain functions for the defs (no program in sight) -/
namespace SM
open PySem L2

/-- data; an object that may change is told by its place in a plain heap -/
inductive D where
  | non | bl (b : Bool) | int (i : Int) | str (x : Str) | ty (n : String)
  | tup (l : List D) | wt (l : List D) | scr (l : List D) | ref (i : Nat) | nm (x : String) | exc (C : String)
instance : Inhabited D := ⟨.non⟩
inductive O where
  | lst (l : List D)
  /-- t: its keys are tuples; lk: a loop walks it -/
  | dic (t lk : Bool) (kvs : List (D × D))
  | obj (C : String) (fs : List (String × D))
abbrev Hs := List O
abbrev Sl := List (Option D)
inductive RE (α : Type) where
  | ok (a : α) (A : Hs) | exc (C : String) (A : Hs) | stuck
def RE.bind {α β : Type} (r : RE α) (f : α → Hs → RE β) : RE β := match r with
  | .ok a A => f a A
  | .exc C A => .exc C A
  | .stuck => .stuck
/-- an exception has no road from here -/
def RE.noX {α : Type} : RE α → RE α
  | .ok a A => .ok a A
  | _ => .stuck
abbrev E := Sl → Hs → RE D
abbrev Tt := Sl → Hs → RE Bool
abbrev As := Sl → Hs → RE (List D)
abbrev Fn := List D → Hs → RE D
inductive RS where
  | nx (σ : Sl) (A : Hs) | bk (σ : Sl) (A : Hs) | ct (σ : Sl) (A : Hs) | rt (d : D) (A : Hs) | exc (C : String) (σ : Sl) (A : Hs) | stuck
abbrev S := Sl → Hs → RS
/-- a new object -/
def alloc (A : Hs) (o : O) : RE D := .ok (.ref A.length) (A ++ [o])

def eVar (i : Nat) : E := fun env A => match env[i]? with
  | some (some d) => .ok d A
  | _ => .stuck
def eC (d : D) : E := fun _ A => .ok d A
def eOp (o : D → D → Hs → RE D) (a b : E) : E := fun env A => (a env A).bind fun x A1 => (b env A1).bind fun y A2 => o x y A2
def eUn (o : D → Hs → RE D) (a : E) : E := fun env A => (a env A).bind fun x A1 => o x A1
def aNil : As := fun _ A => .ok [] A
def aCons (a : E) (as : As) : As := fun env A => (a env A).bind fun x A1 => (as env A1).bind fun xs A2 => .ok (x :: xs) A2
def eCB (f : List D → Hs → RE D) (as : As) : E := fun env A => (as env A).bind fun ds A1 => f ds A1
/-- a call where nothing that is raised has a road -/
def eCall0 (f : Fn) (as : As) : E := fun env A => (as env A).bind fun ds A1 => (f ds A1).noX
def eCall (f : Fn) (as : As) : E := fun env A => (as env A).bind fun ds A1 => f ds A1
def make (C : String) (f : Fn) (ds : List D) (A1 : Hs) : RE D := match f (.ref A1.length :: ds) (A1 ++ [.obj C []]) with
    | .ok .non A2 => .ok (.ref A1.length) A2
    | .exc X A2 => .exc X A2
    | _ => .stuck
def eMake0 (C : String) (f : Fn) (as : As) : E := fun env A => (as env A).bind fun ds A1 => (make C f ds A1).noX
def eMake (C : String) (f : Fn) (as : As) : E := fun env A => (as env A).bind fun ds A1 => make C f ds A1
/-- the class of an object, its fields -/
def objAt (A : Hs) : D → Option (String × List (String × D))
  | .ref i => match A[i]? with
    | some (.obj C fs) => some (C, fs)
    | _ => none
  | _ => none
/-- what holds of all -/
def AllC (P : String → Prop) : List String → Prop
  | [] => True
  | c :: r => P c ∧ AllC P r
theorem AllC.of {P : String → Prop} {c : String} : ∀ {l : List String}, AllC P l → c ∈ l → P c
  | _ :: r, h, q => by
    rcases List.mem_cons.mp q with z | z
    · rw [z]; exact h.1
    · exact AllC.of h.2 z
def methOf (m : String) (tbl : List (String × Fn)) (A : Hs) (x : D) : Option Fn := match objAt A x with
  | some (C, fs) => if (fs.lookup m).isSome then none else tbl.lookup C
  | none => none
def eMeth (m : String) (tbl : List (String × Fn)) (o : E) (as : As) : E := fun env A => (o env A).bind fun x A1 => match methOf m tbl A1 x with
  | some f => (as env A1).bind fun ds A2 => f (x :: ds) A2
  | none => .stuck
def eMeth0 (m : String) (tbl : List (String × Fn)) (o : E) (as : As) : E := fun env A => (o env A).bind fun x A1 => match methOf m tbl A1 x with
  | some f => (as env A1).bind fun ds A2 => (f (x :: ds) A2).noX
  | none => .stuck
/-- o.f, o of one of the classes cs -/
def getFld (cs : List String) (f : String) (A : Hs) (x : D) : Option D := match objAt A x with
  | some (C, fs) => if C ∈ cs then fs.lookup f else none
  | none => none
def eFld (cs : List String) (f : String) (o : E) : E := fun env A => (o env A).bind fun x A1 => match getFld cs f A1 x with
  | some d => .ok d A1
  | none => .stuck
def eAnd (a b : E) : E := fun env A => (a env A).bind fun x A1 => match x with
  | .bl true => b env A1
  | .bl false => .ok (.bl false) A1
  | _ => .stuck
def eOr (a b : E) : E := fun env A => (a env A).bind fun x A1 => match x with
  | .bl false => b env A1
  | .bl true => .ok (.bl true) A1
  | _ => .stuck
def eNot (a : E) : E := fun env A => (a env A).bind fun x A1 => match x with
  | .bl c => .ok (.bl (!c)) A1
  | _ => .stuck
/-- a < b < c -/
def eCh (o o' : D → D → Hs → RE D) (a b c : E) : E := fun env A => (a env A).bind fun x A1 => (b env A1).bind fun y A2 => (o x y A2).bind fun z A3 => match z with
  | .bl false => .ok (.bl false) A3
  | .bl true => (c env A3).bind fun w A4 => o' y w A4
  | _ => .stuck
def tOf (a : E) : Tt := fun env A => (a env A).bind fun x A1 => match x with
  | .bl c => .ok c A1
  | _ => .stuck
def tAn (a b : Tt) : Tt := fun env A => (a env A).bind fun c A1 => if c = true then b env A1 else .ok false A1
def tOo (a b : Tt) : Tt := fun env A => (a env A).bind fun c A1 => if c = true then .ok true A1 else b env A1
def tNo (a : Tt) : Tt := fun env A => (a env A).bind fun c A1 => .ok (!c) A1
def tYe : Tt := fun _ A => .ok true A
def eIf (t : Tt) (a b : E) : E := fun env A => (t env A).bind fun c A1 => if c = true then a env A1 else b env A1
def eTup (as : As) : E := fun env A => (as env A).bind fun ds A1 => if ds.length ≤ sizeLine then .ok (.tup ds) A1 else .stuck
def eLst (as : As) : E := fun env A => (as env A).bind fun ds A1 => if ds.length ≤ sizeLine then alloc A1 (.lst ds) else .stuck
def eDNew (t : Bool) : E := fun _ A => alloc A (.dic t false [])
def oNo : Sl → Hs → RE (Option Int) := fun _ A => .ok none A
def oSo (a : E) : Sl → Hs → RE (Option Int) := fun env A => (a env A).bind fun x A1 => match x with
  | .int i => .ok (some i) A1
  | _ => .stuck
def eSl (o : D → Option Int → Option Int → Hs → RE D) (a : E) (l h : Sl → Hs → RE (Option Int)) : E := fun env A => (a env A).bind fun x A1 => (l env A1).bind fun lo A2 => (h env A2).bind fun hi A3 => o x lo hi A3

/-! ### statements -/
def sSeq (a b : S) : S := fun env A => match a env A with
  | .nx env' A' => b env' A'
  | r => r
def sNx : S := fun env A => .nx env A
def sBk : S := fun env A => .bk env A
def sCt : S := fun env A => .ct env A
def ofE (env : Sl) (r : RE D) (k : D → Hs → RS) : RS := match r with
  | .ok d A => k d A
  | .exc C A => .exc C env A
  | .stuck => .stuck
def ofT (env : Sl) (r : RE Bool) (k : Bool → Hs → RS) : RS := match r with
  | .ok d A => k d A
  | .exc C A => .exc C env A
  | .stuck => .stuck
def sDrop (a : E) : S := fun env A => ofE env (a env A) fun _ A1 => .nx env A1
def sRet (a : E) : S := fun env A => ofE env (a env A) fun d A1 => .rt d A1
def sRetN : S := fun _ A => .rt .non A
def sIf (t : Tt) (a b : S) : S := fun env A => ofT env (t env A) fun c A1 => if c = true then a env A1 else b env A1
/-- targets -/
abbrev G := D → Sl → Hs → Option Sl
def gN (i : Nat) : G := fun d env _ => some (env.set i (some d))
def gAll : List G → List D → Sl → Hs → Option Sl
  | [], [], env, _ => some env
  | g :: gs, d :: ds, env, A => match g d env A with
    | some env' => gAll gs ds env' A
    | none => none
  | _, _, _, _ => none
def gT (gs : List G) : G := fun d env A => match d with
  | .tup ds => gAll gs ds env A
  | _ => none
def sAsg (a : E) (g : G) : S := fun env A => ofE env (a env A) fun d A1 => match g d env A1 with
  | some env' => .nx env' A1
  | none => .stuck
def sSet (i : Nat) (a : E) : S := fun env A => ofE env (a env A) fun d A1 => .nx (env.set i (some d)) A1
/-- a, b = x, y -/
def sPar (i j : Nat) (as : As) : S := fun env A => match as env A with
  | .ok [x, y] A1 => .nx ((env.set i (some x)).set j (some y)) A1
  | .exc C A1 => .exc C env A1
  | _ => .stuck
def sAug (i : Nat) (o : D → D → Hs → RE D) (a : E) : S := fun env A => match env[i]? with
  | some (some x) => ofE env (a env A) fun y A1 => ofE env (o x y A1) fun z A2 => .nx (env.set i (some z)) A2
  | _ => .stuck
def putF (f : String) (d : D) : List (String × D) → List (String × D)
  | [] => [(f, d)]
  | (g, e) :: r => if g = f then (g, d) :: r else (g, e) :: putF f d r
def setFld (cs : List String) (A : Hs) (x : D) (f : String) (d : D) : Option Hs := match x with
  | .ref i => match A[i]? with
    | some (.obj C fs) => if C ∈ cs ∧ fs.length < 999 then some (A.set i (.obj C (putF f d fs))) else none
    | _ => none
  | _ => none
/-- o.f = e -/
def sFl (cs : List String) (f : String) (o a : E) : S := fun env A => ofE env (a env A) fun d A1 => ofE env (o env A1) fun x A2 => match setFld cs A2 x f d with
  | some A3 => .nx env A3
  | none => .stuck
/-- o.f op= e -/
def sFlAug (cs : List String) (f : String) (op : D → D → Hs → RE D) (o a : E) : S := fun env A => ofE env (o env A) fun x A1 => match getFld cs f A1 x with
  | some v => ofE env (a env A1) fun y A2 => ofE env (op v y A2) fun z A3 => match setFld cs A3 x f z with
    | some A4 => .nx env A4
    | none => .stuck
  | none => .stuck
/-- what is walked: the items; what must stand for the walk to go on -/
structure Wk where
  ds : List D
  gd : Hs → Prop
open Classical in
noncomputable def forL (g : G) (b : S) (gd : Hs → Prop) : List D → S
  | [], env, A => if gd A then .nx env A else .stuck
  | d :: ds, env, A => if gd A then match g d env A with
    | some env1 => match b env1 A with
      | .nx env2 A2 => forL g b gd ds env2 A2
      | .ct env2 A2 => forL g b gd ds env2 A2
      | .bk env2 A2 => .nx env2 A2
      | r => r
    | none => .stuck
    else .stuck
noncomputable def sFor (w : Sl → Hs → RE Wk) (g : G) (b : S) : S := fun env A => match w env A with
  | .ok k A1 => forL g b k.gd k.ds env A1
  | .exc C A1 => .exc C env A1
  | .stuck => .stuck
/-- some turns of a while -/
def whN (t : Tt) (b : S) : Nat → S
  | 0, _, _ => .stuck
  | n + 1, env, A => ofT env (t env A) fun c A1 => if c = true then match b env A1 with
      | .nx env2 A2 => whN t b n env2 A2
      | .ct env2 A2 => whN t b n env2 A2
      | .bk env2 A2 => .nx env2 A2
      | r => r
    else .nx env A1
open Classical in
noncomputable def sWh (t : Tt) (b : S) : S := fun env A => if h : ∃ n, whN t b n env A ≠ .stuck then whN t b h.choose env A else .stuck
/-- the slots of a block's own names, not known -/
def wipeS (env : Sl) : List Nat → Sl
  | [] => env
  | v :: vs => (wipeS env vs).set v none
open Classical in
noncomputable def lcL (g : G) (t : Tt) (a : E) (gd : Hs → Prop) (env : Sl) : List D → List D → Hs → RE (List D)
  | [], acc, A => if gd A then .ok acc A else .stuck
  | d :: ds, acc, A => if gd A then match g d env A with
    | some env1 => match t env1 A with
      | .ok true A1 => match a env1 A1 with
        | .ok x A2 => if acc.length < sizeLine then lcL g t a gd env ds (acc ++ [x]) A2 else .stuck
        | _ => .stuck
      | .ok false A1 => lcL g t a gd env ds acc A1
      | _ => .stuck
    | none => .stuck
    else .stuck
/-- a list comprehension; vs: the block's own slots -/
noncomputable def eLc (w : Sl → Hs → RE Wk) (g : G) (t : Tt) (a : E) (vs : List Nat) : E := fun env A => (w env A).bind fun k A1 => match lcL g t a k.gd (wipeS env vs) k.ds [] A1 with
  | .ok l A2 => alloc A2 (.lst l)
  | _ => .stuck
/-- a def by its body: n parameters, m names -/
def mkFn (n m : Nat) (b : S) : Fn := fun ds A => if ds.length = n then match b (ds.map some ++ List.replicate (m - n) none) A with
    | .nx _ A' => .ok .non A'
    | .rt d A' => .ok d A'
    | .exc C _ A' => .exc C A'
    | _ => .stuck
  else .stuck
/-- raise C('..') -/
def sRaise (C : String) : S := fun env A => .exc C env A
/-- try: b / except (catches) as i: slot j = it -/
def sTryK (catches : List String) (i j : Nat) (b : S) : S := fun env A => match b env A with
  | .exc C env1 A1 => if C ∈ catches then .nx (((env1.set i (some (.exc C))).set j (some (.exc C))).set i none) A1 else .stuck
  | r => r
/-- try: b / except (catches): s -/
def sTryO (catches : List String) (b s : S) : S := fun env A => match b env A with
  | .exc C env1 A1 => if C ∈ catches then s env1 A1 else .stuck
  | r => r

theorem whN_mono {t : Tt} {b : S} : ∀ {n : Nat} {env : Sl} {A : Hs}, whN t b n env A ≠ .stuck → whN t b (n + 1) env A = whN t b n env A := by
  intro n
  induction n with
  | zero => intro env A h; exact absurd rfl h
  | succ n ih =>
    intro env A h
    unfold whN at h ⊢
    cases ht : t env A with
    | stuck => rw [ht] at h; rfl
    | exc C A1 => rfl
    | ok c A1 =>
      rw [ht] at h
      cases c with
      | false => rfl
      | true =>
        simp only [ofT, if_true] at h ⊢
        cases hb : b env A1 with
        | nx e2 A2 => rw [hb] at h; exact ih h
        | ct e2 A2 => rw [hb] at h; exact ih h
        | bk _ _ => rfl
        | rt _ _ => rfl
        | exc _ _ _ => rfl
        | stuck => rfl
theorem whN_le {t : Tt} {b : S} {env : Sl} {A : Hs} {n k : Nat} (h : whN t b n env A ≠ .stuck) : whN t b (n + k) env A = whN t b n env A := by
  induction k with
  | zero => rfl
  | succ k ih => rw [← ih, ← Nat.add_assoc]; exact whN_mono (by rw [ih]; exact h)
theorem sWh_eq {t : Tt} {b : S} {env : Sl} {A : Hs} {n : Nat} (h : whN t b n env A ≠ .stuck) : sWh t b env A = whN t b n env A := by
  have hx : ∃ n, whN t b n env A ≠ .stuck := ⟨n, h⟩
  unfold sWh
  rw [dif_pos hx]
  have h2 := hx.choose_spec
  rcases Nat.le_total hx.choose n with q | q
  · have := whN_le (k := n - hx.choose) h2
    rw [show hx.choose + (n - hx.choose) = n by omega] at this
    exact this.symm
  · have := whN_le (k := hx.choose - n) h
    rw [show n + (hx.choose - n) = hx.choose by omega] at this
    exact this
/-- one turn -/
theorem sWh_turn {t : Tt} {b : S} {env : Sl} {A : Hs} : sWh t b env A = ofT env (t env A) fun c A1 => if c = true then match b env A1 with
      | .nx env2 A2 => sWh t b env2 A2
      | .ct env2 A2 => sWh t b env2 A2
      | .bk env2 A2 => .nx env2 A2
      | r => r
    else .nx env A1 := by
  have back : ∀ {env : Sl} {A : Hs}, sWh t b env A ≠ .stuck → ∃ n, whN t b n env A ≠ .stuck := fun {env A} h => by
    unfold sWh at h
    split at h
    · assumption
    · exact absurd rfl h
  have stk : ∀ {env : Sl} {A : Hs}, (∀ n, whN t b n env A = .stuck) → sWh t b env A = .stuck := fun {env A} h => by
    unfold sWh
    rw [dif_neg]
    rintro ⟨n, hn⟩
    exact hn (h n)
  cases ht : t env A with
  | stuck =>
    rw [stk fun n => by cases n with
      | zero => rfl
      | succ n => unfold whN; rw [ht]; rfl]
    rfl
  | exc C A1 =>
    have e : whN t b 1 env A = .exc C env A1 := by unfold whN; rw [ht]; rfl
    rw [sWh_eq (n := 1) (by rw [e]; simp), e]
    rfl
  | ok c A1 =>
    cases c with
    | false =>
      have e : whN t b 1 env A = .nx env A1 := by unfold whN; rw [ht]; rfl
      rw [sWh_eq (n := 1) (by rw [e]; simp), e]
      rfl
    | true =>
      simp only [ofT, if_true]
      have e : ∀ n, whN t b (n + 1) env A = match b env A1 with
        | .nx env2 A2 => whN t b n env2 A2
        | .ct env2 A2 => whN t b n env2 A2
        | .bk env2 A2 => .nx env2 A2
        | r => r := fun n => by
        conv => lhs; unfold whN
        rw [ht]; rfl
      have fin : ∀ r, r ≠ .stuck → (∀ n, whN t b (n + 1) env A = r) → sWh t b env A = r := fun r hr h => by rw [sWh_eq (n := 1) (by rw [h 0]; exact hr), h 0]
      have again : ∀ e2 A2, (∀ n, whN t b (n + 1) env A = whN t b n e2 A2) → sWh t b env A = sWh t b e2 A2 := fun e2 A2 h => by
        by_cases q : ∃ n, whN t b n e2 A2 ≠ .stuck
        · obtain ⟨n, hn⟩ := q
          rw [sWh_eq hn, sWh_eq (n := n + 1) (by rw [h n]; exact hn), h n]
        · have q' : ∀ n, whN t b n e2 A2 = .stuck := fun n => Classical.byContradiction fun z => q ⟨n, z⟩
          rw [stk q', stk fun n => by cases n with
            | zero => rfl
            | succ n => rw [h n, q' n]]
      cases hb : b env A1 with
      | nx e2 A2 => exact again e2 A2 fun n => by rw [e, hb]
      | ct e2 A2 => exact again e2 A2 fun n => by rw [e, hb]
      | bk e2 A2 => exact fin _ (by simp) fun n => by rw [e, hb]
      | rt d A2 => exact fin _ (by simp) fun n => by rw [e, hb]
      | exc C e2 A2 => exact fin _ (by simp) fun n => by rw [e, hb]
      | stuck => exact stk fun n => by cases n with
          | zero => rfl
          | succ n => rw [e, hb]
end SM

/-! ## how the plain functions stand to the program: the relation of the heaps -/
namespace SM
open PySem L2
open DL (Ex ExK)

/-- where the names' things stand; T: the tables of code objects, the names in them -/
structure CaT where
  fn : String → Addr
  T : List (Addr × Str)
instance : CoeFun CaT (fun _ => String → Addr) := ⟨CaT.fn⟩
/-- free, or a table of code objects -/
def Fr1 (H : Hp) (a : Addr) : Prop := ∀ u, H a = some u → ∃ ps, u = .tbl ps
theorem Fr1.none {H : Hp} {a : Addr} (h : H a = none) : Fr1 H a := fun u e => by rw [h] at e; cases e
theorem Fr1.back {H H' : Hp} {a : Addr} (h : Fr1 H' a) (k : ∀ u, H a = some u → H' a = some u) : Fr1 H a := fun u e => h u (k u e)
/-- no table, no code object -/
def Ordy : HO → Prop
  | .lst _ => True
  | .dK _ => True
  | .dT _ => True
  | .ins _ _ _ => True
  | .frz _ _ => True
  | .tup _ => True
  | _ => False
theorem Ordy.tbl {u : HO} (o : Ordy u) (ps : Array Value) : u ≠ .tbl ps := fun z => by rw [z] at o; exact o
theorem Ordy.code {u : HO} (o : Ordy u) (c : Addr) (q : Str) : u ≠ LamX.CodeO c q := fun z => by
  rw [z] at o
  unfold LamX.CodeO at o
  exact o
theorem Fr1.no {H : Hp} {a : Addr} {u : HO} (h : Fr1 H a) (e : H a = some u) (o : Ordy u) : False := by
  obtain ⟨ps, z⟩ := h u e
  exact o.tbl ps z
theorem tabs_upd {T : List (Addr × Str)} {H : Hp} {a : Addr} {u w : HO} (h : LamX.Tabs T H) (e : H a = some w) (o : Ordy w) : LamX.Tabs T (upd H a u) := fun p hp => by
  obtain ⟨ps, h1, h2, h3⟩ := h p hp
  refine ⟨ps, ?_, h2, fun pos cv hc => ?_⟩
  · rw [upd_ne fun z => by rw [z, e] at h1; exact o.tbl ps (Option.some.inj h1)]; exact h1
  · obtain ⟨c, e1, e2⟩ := h3 pos cv hc
    exact ⟨c, e1, by rw [upd_ne fun z => by rw [z, e] at e2; exact o.code _ _ (Option.some.inj e2)]; exact e2⟩
/-- m begins m' -/
abbrev Pre (m m' : List Addr) : Prop := ∃ r, m' = m ++ r
theorem Pre.refl (m : List Addr) : Pre m m := ⟨[], by simp⟩
theorem Pre.trans {a b c : List Addr} (x : Pre a b) (y : Pre b c) : Pre a c := by
  obtain ⟨r, rfl⟩ := x; obtain ⟨s, rfl⟩ := y; exact ⟨r ++ s, by simp⟩
theorem Pre.get {m m' : List Addr} {i : Nat} {a : Addr} (x : Pre m m') (h : m[i]? = some a) : m'[i]? = some a := by
  obtain ⟨r, rfl⟩ := x
  rw [List.getElem?_append_left (List.getElem?_eq_some_iff.mp h).1]; exact h
theorem Pre.mem {m m' : List Addr} {a : Addr} (x : Pre m m') (h : a ∈ m) : a ∈ m' := by
  obtain ⟨r, rfl⟩ := x; exact List.mem_append_left _ h

mutual
inductive Rep (K : PySem.W.Frag) (ca : CaT) (F : Hp) (m : List Addr) : V → D → Prop
  | non : Rep K ca F m .non .non
  | bl (b : Bool) : Rep K ca F m (.bl b) (.bl b)
  | int (i : Int) : Rep K ca F m (.int i) (.int i)
  | str (x : Str) : Rep K ca F m (.str x) (.str x)
  | ty (n : String) : Rep K ca F m (.ty n) (.ty n)
  | tup {a : Addr} {vs : List V} {l : List D} : F a = some (.tup vs) → RepL K ca F m vs l → Rep K ca F m (.ref a) (.tup l)
  | wt {a : Addr} {vs : List V} {l : List D} : SqT K F a vs → RepL K ca F m vs l → Rep K ca F m (.ref a) (.wt l)
  | scr {a : Addr} {vs : List V} {l : List D} : SqL K F a vs → RepL K ca F m vs l → Rep K ca F m (.ref a) (.scr l)
  | ref {a : Addr} {i : Nat} : m[i]? = some a → Rep K ca F m (.ref a) (.ref i)
  | nm (x : String) : Rep K ca F m (.ref (ca x)) (.nm x)
  | exc {a : Addr} {C : String} : F a = some (ExK (ca C) a) → Rep K ca F m (.ref a) (.exc C)
inductive RepL (K : PySem.W.Frag) (ca : CaT) (F : Hp) (m : List Addr) : List V → List D → Prop
  | nil : RepL K ca F m [] []
  | cons {v : V} {vs : List V} {d : D} {ds : List D} : Rep K ca F m v d → RepL K ca F m vs ds → RepL K ca F m (v :: vs) (d :: ds)
end
section
variable {K : PySem.W.Frag} {ca : CaT} {F F' : Hp} {m m' : List Addr}
mutual
theorem Rep.mono (e : Ex F F') (p : Pre m m') : ∀ {v : V} {d : D}, Rep K ca F m v d → Rep K ca F' m' v d
  | _, _, .non => .non
  | _, _, .bl b => .bl b
  | _, _, .int i => .int i
  | _, _, .str x => .str x
  | _, _, .ty n => .ty n
  | _, _, .tup h r => .tup (e _ _ h) (RepL.mono e p r)
  | _, _, .wt h r => .wt (e.t h) (RepL.mono e p r)
  | _, _, .scr h r => .scr (e.l h) (RepL.mono e p r)
  | _, _, .ref h => .ref (p.get h)
  | _, _, .nm x => .nm x
  | _, _, .exc h => .exc (e _ _ h)
theorem RepL.mono (e : Ex F F') (p : Pre m m') : ∀ {vs : List V} {ds : List D}, RepL K ca F m vs ds → RepL K ca F' m' vs ds
  | _, _, .nil => .nil
  | _, _, .cons h r => .cons (Rep.mono e p h) (RepL.mono e p r)
end
theorem RepL.length : ∀ {vs : List V} {ds : List D}, RepL K ca F m vs ds → vs.length = ds.length
  | _, _, .nil => rfl
  | _, _, .cons _ r => by rw [List.length_cons, List.length_cons, r.length]
theorem RepL.get : ∀ {vs : List V} {ds : List D} {i : Nat} {d : D}, RepL K ca F m vs ds → ds[i]? = some d → ∃ v, vs[i]? = some v ∧ Rep K ca F m v d
  | _, _, _, _, .nil, h => by simp at h
  | _, _, 0, _, .cons h _, e => by simp at e; subst e; exact ⟨_, rfl, h⟩
  | _, _, i + 1, _, .cons _ r, e => by
    obtain ⟨v, h1, h2⟩ := RepL.get (i := i) r (by simpa using e)
    exact ⟨v, by simpa using h1, h2⟩
theorem RepL.append : ∀ {vs ws : List V} {ds es : List D}, RepL K ca F m vs ds → RepL K ca F m ws es → RepL K ca F m (vs ++ ws) (ds ++ es)
  | _, _, _, _, .nil, s => s
  | _, _, _, _, .cons h r, s => .cons h (RepL.append r s)
theorem RepL.take : ∀ {vs : List V} {ds : List D} (n : Nat), RepL K ca F m vs ds → RepL K ca F m (vs.take n) (ds.take n)
  | _, _, 0, _ => .nil
  | _, _, _ + 1, .nil => .nil
  | _, _, n + 1, .cons h r => .cons h (RepL.take n r)
theorem RepL.drop : ∀ {vs : List V} {ds : List D} (n : Nat), RepL K ca F m vs ds → RepL K ca F m (vs.drop n) (ds.drop n)
  | _, _, 0, r => r
  | _, _, _ + 1, .nil => .nil
  | _, _, n + 1, .cons _ r => RepL.drop n r
theorem RepL.set {v : V} {d : D} (h : Rep K ca F m v d) : ∀ {vs : List V} {ds : List D} (n : Nat), RepL K ca F m vs ds → RepL K ca F m (vs.set n v) (ds.set n d)
  | _, _, _, .nil => .nil
  | _, _, 0, .cons _ r => .cons h r
  | _, _, n + 1, .cons q r => .cons q (RepL.set h n r)
theorem RepL.reverse : ∀ {vs : List V} {ds : List D}, RepL K ca F m vs ds → RepL K ca F m vs.reverse ds.reverse
  | _, _, .nil => .nil
  | _, _, .cons h r => by
    rw [List.reverse_cons, List.reverse_cons]
    exact (RepL.reverse r).append (.cons h .nil)
theorem RepL.eraseIdx : ∀ {vs : List V} {ds : List D} (n : Nat), RepL K ca F m vs ds → RepL K ca F m (vs.eraseIdx n) (ds.eraseIdx n)
  | _, _, _, .nil => .nil
  | _, _, 0, .cons _ r => r
  | _, _, n + 1, .cons q r => .cons q (RepL.eraseIdx n r)
theorem RepL.dropLast {vs : List V} {ds : List D} (h : RepL K ca F m vs ds) : RepL K ca F m vs.dropLast ds.dropLast := by
  rw [List.dropLast_eq_take, List.dropLast_eq_take, h.length]
  exact h.take _
theorem RepL.flatRep {vs : List V} {ds : List D} (h : RepL K ca F m vs ds) : ∀ n : Nat, RepL K ca F m (List.replicate n vs).flatten (List.replicate n ds).flatten
  | 0 => .nil
  | n + 1 => by
    rw [List.replicate_succ, List.replicate_succ, List.flatten_cons, List.flatten_cons]
    exact h.append (RepL.flatRep h n)
/-- ints, truths, texts: the values are those of the data -/
theorem RepL.ints : ∀ {vs : List V} {ns : List Int}, RepL K ca F m vs (ns.map D.int) → vs = ns.map V.int
  | _, [], h => by cases h; rfl
  | _, n :: r, h => by
    cases h with
    | cons q t => cases q; rw [RepL.ints t]; rfl
theorem RepL.bools : ∀ {vs : List V} {ns : List Bool}, RepL K ca F m vs (ns.map D.bl) → vs = ns.map V.bl
  | _, [], h => by cases h; rfl
  | _, n :: r, h => by
    cases h with
    | cons q t => cases q; rw [RepL.bools t]; rfl
theorem RepL.strs : ∀ {vs : List V} {ns : List Str}, RepL K ca F m vs (ns.map D.str) → vs = ns.map V.str
  | _, [], h => by cases h; rfl
  | _, n :: r, h => by
    cases h with
    | cons q t => cases q; rw [RepL.strs t]; rfl
theorem RepL.of_ints : ∀ {ns : List Int}, RepL K ca F m (ns.map V.int) (ns.map D.int)
  | [] => .nil
  | n :: _ => .cons (.int n) RepL.of_ints
end
/-- keys -/
def kD : Key → D
  | .inl i => .int i
  | .inr x => .str x
def kT (l : List Key) : D := .tup (l.map kD)
inductive KvR (K : PySem.W.Frag) (ca : CaT) (F : Hp) (m : List Addr) {κ δ : Type} (kd : κ → δ) : List (κ × V) → List (δ × D) → Prop
  | nil : KvR K ca F m kd [] []
  | cons {k : κ} {v : V} {d : D} {r : List (κ × V)} {s : List (δ × D)} : Rep K ca F m v d → KvR K ca F m kd r s → KvR K ca F m kd ((k, v) :: r) ((kd k, d) :: s)
theorem KvR.mono {K : PySem.W.Frag} {ca : CaT} {F F' : Hp} {m m' : List Addr} {κ δ : Type} {kd : κ → δ} (e : Ex F F') (p : Pre m m') : ∀ {l : List (κ × V)} {s : List (δ × D)}, KvR K ca F m kd l s → KvR K ca F' m' kd l s
  | _, _, .nil => .nil
  | _, _, .cons h r => .cons (h.mono e p) (KvR.mono e p r)
theorem KvR.length {K : PySem.W.Frag} {ca : CaT} {F : Hp} {m : List Addr} {κ δ : Type} {kd : κ → δ} : ∀ {l : List (κ × V)} {s : List (δ × D)}, KvR K ca F m kd l s → l.length = s.length
  | _, _, .nil => rfl
  | _, _, .cons _ r => by rw [List.length_cons, List.length_cons, KvR.length r]
/-- the object u stands at a, locked or not -/
def At (H : Hp) (a : Addr) : Bool → HO → Prop
  | false, u => H a = some u
  | true, u => ∃ od, H a = some (.frz od u)
def fS (f : String) : Str := ⟨(f.toList.map Char.toNat).toArray⟩
theorem fS_inj {f g : String} : fS f = fS g ↔ f = g := by
  refine ⟨fun h => ?_, fun h => by rw [h]⟩
  unfold fS at h
  injection h with h
  have h2 : f.toList.map Char.toNat = g.toList.map Char.toNat := by
    have := congrArg Array.toList h
    simpa using this
  have inj : ∀ a b : Char, a.toNat = b.toNat → a = b := fun a b e => Char.ext (UInt32.toNat_inj.mp e)
  have h3 : ∀ (l m : List Char), l.map Char.toNat = m.map Char.toNat → l = m := by
    intro l
    induction l with
    | nil => intro m h; cases m with
      | nil => rfl
      | cons _ _ => simp at h
    | cons a l ih =>
      intro m h
      cases m with
      | nil => simp at h
      | cons b m =>
        rw [List.map_cons, List.map_cons] at h
        injection h with h1 h2
        rw [inj a b h1, ih m h2]
  exact String.toList_inj.mp (h3 _ _ h2)
/-- fields by their names -/
inductive FdR (K : PySem.W.Frag) (ca : CaT) (F : Hp) (m : List Addr) : List (Str × V) → List (String × D) → Prop
  | nil : FdR K ca F m [] []
  | cons {f : String} {v : V} {d : D} {r : List (Str × V)} {s : List (String × D)} : Rep K ca F m v d → FdR K ca F m r s → FdR K ca F m ((fS f, v) :: r) ((f, d) :: s)
theorem FdR.mono {K : PySem.W.Frag} {ca : CaT} {F F' : Hp} {m m' : List Addr} (e : Ex F F') (p : Pre m m') : ∀ {l : List (Str × V)} {s : List (String × D)}, FdR K ca F m l s → FdR K ca F' m' l s
  | _, _, .nil => .nil
  | _, _, .cons h r => .cons (h.mono e p) (FdR.mono e p r)
theorem FdR.length {K : PySem.W.Frag} {ca : CaT} {F : Hp} {m : List Addr} : ∀ {l : List (Str × V)} {s : List (String × D)}, FdR K ca F m l s → l.length = s.length
  | _, _, .nil => rfl
  | _, _, .cons _ r => by rw [List.length_cons, List.length_cons, FdR.length r]
def ORep (K : PySem.W.Frag) (ca : CaT) (F : Hp) (m : List Addr) (H : Hp) (a : Addr) : O → Prop
  | .lst l => ∃ vs, H a = some (.lst vs) ∧ RepL K ca F m vs l
  | .dic false lk l => ∃ kvs, At H a lk (.dK kvs) ∧ KvR K ca F m kD kvs l
  | .dic true lk l => ∃ kvs, At H a lk (.dT kvs) ∧ KvR K ca F m kT kvs l
  | .obj C fs => ∃ dx kvs, H a = some (.ins (ca C) dx kvs) ∧ FdR K ca F m kvs fs
theorem At.mono {H H' : Hp} {a : Addr} {lk : Bool} {u : HO} (h : At H a lk u) (k : ∀ w, H a = some w → H' a = some w) : At H' a lk u := by
  cases lk with
  | false => exact k _ h
  | true => obtain ⟨od, h⟩ := h; exact ⟨od, k _ h⟩
section
variable {K : PySem.W.Frag} {ca : CaT} {F F' H H' : Hp} {m m' : List Addr} {a : Addr} {o : O}
theorem ORep.mono (h : ORep K ca F m H a o) (e : Ex F F') (p : Pre m m') (k : ∀ u, H a = some u → H' a = some u) : ORep K ca F' m' H' a o := by
  cases o with
  | lst l => obtain ⟨vs, x, r⟩ := h; exact ⟨vs, k _ x, r.mono e p⟩
  | dic t lk l =>
    cases t with
    | false => obtain ⟨kvs, x, r⟩ := h; exact ⟨kvs, x.mono k, r.mono e p⟩
    | true => obtain ⟨kvs, x, r⟩ := h; exact ⟨kvs, x.mono k, r.mono e p⟩
  | obj C fs => obtain ⟨dx, kvs, x, r⟩ := h; exact ⟨dx, kvs, k _ x, r.mono e p⟩
theorem ORep.ordy (h : ORep K ca F m H a o) : ∃ u, H a = some u ∧ Ordy u := by
  cases o with
  | lst l => obtain ⟨vs, x, r⟩ := h; exact ⟨_, x, trivial⟩
  | dic t lk l =>
    cases t with
    | false =>
      obtain ⟨kvs, x, r⟩ := h
      cases lk with
      | false => exact ⟨_, x, trivial⟩
      | true => obtain ⟨od, x⟩ := x; exact ⟨_, x, trivial⟩
    | true =>
      obtain ⟨kvs, x, r⟩ := h
      cases lk with
      | false => exact ⟨_, x, trivial⟩
      | true => obtain ⟨od, x⟩ := x; exact ⟨_, x, trivial⟩
  | obj C fs => obtain ⟨dx, kvs, x, _⟩ := h; exact ⟨_, x, trivial⟩
theorem ORep.ho (h : ORep K ca F m H a o) : ∃ u, H a = some u := by
  cases o with
  | lst l => obtain ⟨vs, x, r⟩ := h; exact ⟨_, x⟩
  | dic t lk l =>
    cases t with
    | false =>
      obtain ⟨kvs, x, r⟩ := h
      cases lk with
      | false => exact ⟨_, x⟩
      | true => obtain ⟨od, x⟩ := x; exact ⟨_, x⟩
    | true =>
      obtain ⟨kvs, x, r⟩ := h
      cases lk with
      | false => exact ⟨_, x⟩
      | true => obtain ⟨od, x⟩ := x; exact ⟨_, x⟩
  | obj C fs => obtain ⟨dx, kvs, x, _⟩ := h; exact ⟨_, x⟩
end
/-- the plain heap A is the heap H: m tells where its objects stand, F what never changes -/
structure Rl (K : PySem.W.Frag) (ca : CaT) (F : Hp) (m : List Addr) (A : Hs) (H : Hp) : Prop where
  fh : Ex F H
  len : m.length = A.length
  nd : m.Nodup
  fr : ∀ a ∈ m, F a = none
  ob : ∀ (i : Nat) (o : O) (a : Addr), A[i]? = some o → m[i]? = some a → ORep K ca F m H a o
  tb : LamX.Tabs ca.T H
  ft : ∀ a ps, F a ≠ some (.tbl ps)
/-- what a step leaves -/
structure Stp (F : Hp) (m : List Addr) (H F' : Hp) (m' : List Addr) (H' : Hp) : Prop where
  ff : Ex F F'
  mm : Pre m m'
  kp : ∀ a u, H a = some u → a ∉ m → (∀ ps, u ≠ .tbl ps) → H' a = some u
  gn : ∀ a, F' a ≠ none → F a ≠ none ∨ Fr1 H a ∨ ∃ xs, F' a = some (.tup xs)
  gm : ∀ a, a ∈ m' → a ∈ m ∨ Fr1 H a
  th : ∀ a, Fr1 H' a → Fr1 H a
  fz : ∀ a o u, H a = some (.frz o u) → H' a = some (.frz o u)
structure Slt (K : PySem.W.Frag) (ca : CaT) (F : Hp) (m : List Addr) (σ : L2.St) (env : Sl) : Prop where
  len : σ.length = env.length
  val : ∀ (i : Nat) (d : D), env[i]? = some (some d) → ∃ v : V, σ[i]? = some (some v) ∧ Rep K ca F m v d
section
variable {K : PySem.W.Frag} {ca : CaT} {F F1 F2 H H1 H2 : Hp} {m m1 m2 : List Addr} {A : Hs} {σ : L2.St} {env : Sl} {p : Addr} {u : HO} {o : O} {d : D} {v : V} {i : Nat}
theorem Stp.refl : Stp F m H F m H := ⟨Ex.refl _, Pre.refl _, fun _ _ h _ _ => h, fun a h => .inl h, fun a h => .inl h, fun _ h => h, fun _ _ _ h => h⟩
theorem Stp.trans (x : Stp F m H F1 m1 H1) (y : Stp F1 m1 H1 F2 m2 H2) : Stp F m H F2 m2 H2 := by
  refine ⟨x.ff.trans y.ff, x.mm.trans y.mm, fun a u h n nt => ?_, fun a h => ?_, fun a h => ?_, fun a h => x.th a (y.th a h), fun a o u h => y.fz a o u (x.fz a o u h)⟩
  · refine y.kp a u (x.kp a u h n nt) (fun hm => ?_) nt
    rcases x.gm a hm with q | q
    · exact n q
    · obtain ⟨ps, z⟩ := q u h
      exact nt ps z
  · rcases y.gn a h with q | q | q
    · rcases x.gn a q with z | z | ⟨xs, z⟩
      · exact .inl z
      · exact .inr (.inl z)
      · exact .inr (.inr ⟨xs, y.ff a _ z⟩)
    · exact .inr (.inl (x.th a q))
    · exact .inr (.inr q)
  · rcases y.gm a h with q | q
    · exact x.gm a q
    · exact .inr (x.th a q)
theorem Slt.mono (S : Slt K ca F m σ env) (e : Ex F F1) (p : Pre m m1) : Slt K ca F1 m1 σ env := ⟨S.len, fun i d h => by
  obtain ⟨v, h1, h2⟩ := S.val i d h
  exact ⟨v, h1, h2.mono e p⟩⟩
theorem Slt.stp (S : Slt K ca F m σ env) (x : Stp F m H F1 m1 H1) : Slt K ca F1 m1 σ env := S.mono x.ff x.mm
theorem Slt.set (S : Slt K ca F m σ env) (r : Rep K ca F m v d) : Slt K ca F m (σ.set i (some v)) (env.set i (some d)) := ⟨by simp [S.len], fun j e h => by
  by_cases q : i = j
  · subst q
    rw [List.getElem?_set] at h ⊢
    have l := S.len
    split at h
    · split at h
      · cases h
        refine ⟨v, ?_, r⟩
        simp_all
      · cases h
    · rename_i z; exact absurd rfl z
  · rw [List.getElem?_set_ne q] at h ⊢
    exact S.val j e h⟩
theorem Slt.unset (S : Slt K ca F m σ env) : Slt K ca F m (σ.set i none) (env.set i none) := ⟨by simp [S.len], fun j e h => by
  by_cases q : i = j
  · subst q
    rw [List.getElem?_set] at h
    split at h
    · split at h <;> cases h
    · rename_i z; exact absurd rfl z
  · rw [List.getElem?_set_ne q] at h ⊢
    exact S.val j e h⟩
theorem Rl.ordy (R : Rl K ca F m A H) {a : Addr} (ha : m[i]? = some a) : ∃ u, H a = some u ∧ Ordy u := by
  have il : i < A.length := by rw [← R.len]; exact (List.getElem?_eq_some_iff.mp ha).1
  exact (R.ob i A[i] a (List.getElem?_eq_getElem il) ha).ordy
theorem Rl.ne (R : Rl K ca F m A H) {a : Addr} (h : a ∈ m) : H a ≠ none := by
  obtain ⟨i, hi⟩ := List.getElem?_of_mem h
  have l : i < A.length := by rw [← R.len]; exact (List.getElem?_eq_some_iff.mp hi).1
  obtain ⟨u, hu⟩ := (R.ob i A[i] a (by simp [l]) hi).ho
  rw [hu]; simp
theorem Rl.out (R : Rl K ca F m A H) {a : Addr} (h : H a = none) : a ∉ m := fun q => R.ne q h
/-- a new thing that stands -/
theorem Rl.new (R : Rl K ca F m A H) (n : H p = none) (hu : ∀ ps, u ≠ HO.tbl ps := by intro _ h; cases h) : Rl K ca (upd F p u) m A (upd H p u) ∧ Stp F m H (upd F p u) m (upd H p u) := by
  have nf := R.fh.back n
  refine ⟨⟨R.fh.both, R.len, R.nd, fun a h => ?_, fun i o a h1 h2 => (R.ob i o a h1 h2).mono (Ex.new nf) (Pre.refl _) fun w hw => Ex.new n a w hw, R.tb.ext fun b o h => Ex.new n b o h, fun a ps => ?_⟩, Ex.new nf, Pre.refl _, fun a w h _ _ => Ex.new n a w h, fun a h => ?_, fun a h => .inl h, fun a h => h.back fun u hu => Ex.new n a u hu, fun a o w h => Ex.new n a _ h⟩
  · rw [upd_ne (fun z => R.out n (by rw [← z]; exact h))]; exact R.fr a h
  · by_cases q : a = p
    · subst q; rw [upd_same]; exact fun z => hu ps (Option.some.inj z)
    · rw [upd_ne q]; exact R.ft a ps
  · by_cases q : a = p
    · subst q; exact .inr (.inl (.none n))
    · rw [upd_ne q] at h; exact .inl h
/-- a tuple that stands is known from now on -/
theorem Rl.catch {vs : List V} (R : Rl K ca F m A H) (h : H p = some (.tup vs)) : ∃ F1, Rl K ca F1 m A H ∧ Stp F m H F1 m H ∧ F1 p = some (.tup vs) := by
  have nm : p ∉ m := fun hm => by
    obtain ⟨i, hi⟩ := List.getElem?_of_mem hm
    have l : i < A.length := by rw [← R.len]; exact (List.getElem?_eq_some_iff.mp hi).1
    have r := R.ob i A[i] p (by simp [l]) hi
    cases q : A[i] with
    | lst l => rw [q] at r; obtain ⟨vs, x, _⟩ := r; rw [h] at x; cases x
    | obj C fs => rw [q] at r; obtain ⟨dx, kvs, x, _⟩ := r; rw [h] at x; cases x
    | dic t lk l =>
      rw [q] at r
      cases t with
      | false =>
        obtain ⟨kvs, x, _⟩ := r
        cases lk with
        | false => have x : H p = some (.dK kvs) := x; rw [h] at x; cases x
        | true => obtain ⟨od, x⟩ := x; rw [h] at x; cases x
      | true =>
        obtain ⟨kvs, x, _⟩ := r
        cases lk with
        | false => have x : H p = some (.dT kvs) := x; rw [h] at x; cases x
        | true => obtain ⟨od, x⟩ := x; rw [h] at x; cases x
  have e : Ex F (upd F p (.tup vs)) := fun a o ha => by
    by_cases q : a = p
    · subst q
      have := R.fh a o ha
      rw [h] at this
      cases this
      exact upd_same
    · rw [upd_ne q]; exact ha
  refine ⟨upd F p (.tup vs), ⟨fun a o ha => ?_, R.len, R.nd, fun a ha => ?_, fun i o a h1 h2 => (R.ob i o a h1 h2).mono e (Pre.refl _) fun w hw => hw, R.tb, fun a ps => ?_⟩, ⟨e, Pre.refl _, fun a w h _ _ => h, fun a ha => ?_, fun a h => .inl h, fun a h => h, fun a o w h => h⟩, upd_same⟩
  · by_cases q : a = p
    · subst q; rw [upd_same] at ha; cases ha; exact h
    · rw [upd_ne q] at ha; exact R.fh a o ha
  · rw [upd_ne (fun z => nm (by rw [← z]; exact ha))]; exact R.fr a ha
  · by_cases q : a = p
    · subst q; rw [upd_same]; intro z; cases z
    · rw [upd_ne q]; exact R.ft a ps
  · by_cases q : a = p
    · subst q; exact .inr (.inr ⟨vs, upd_same⟩)
    · rw [upd_ne q] at ha; exact .inl ha
/-- a new thing that nobody tracks -/
theorem Rl.newH (R : Rl K ca F m A H) (n : H p = none) : Rl K ca F m A (upd H p u) ∧ Stp F m H F m (upd H p u) := by
  refine ⟨⟨R.fh.trans (Ex.new n), R.len, R.nd, R.fr, fun i o a h1 h2 => (R.ob i o a h1 h2).mono (Ex.refl _) (Pre.refl _) fun w hw => Ex.new n a w hw, R.tb.ext fun b o h => Ex.new n b o h, R.ft⟩, Ex.refl _, Pre.refl _, fun a w h _ _ => Ex.new n a w h, fun a h => .inl h, fun a h => .inl h, fun a h => h.back fun u hu => Ex.new n a u hu, fun a o w h => Ex.new n a _ h⟩
/-- what is there is taken into the plain heap -/
theorem Rl.take (R : Rl K ca F m A H) (n : p ∉ m) (nf : F p = none) (r : ORep K ca F (m ++ [p]) H p o) : Rl K ca F (m ++ [p]) (A ++ [o]) H := by
  refine ⟨R.fh, by simp [R.len], ?_, fun a h => ?_, fun i o' a h1 h2 => ?_, R.tb, R.ft⟩
  · rw [List.nodup_append]
    refine ⟨R.nd, by simp, fun a h b hb e => ?_⟩
    rw [List.mem_singleton] at hb
    exact n (by rw [← hb, ← e]; exact h)
  · rcases List.mem_append.mp h with q | q
    · exact R.fr a q
    · rw [List.mem_singleton] at q; rw [q]; exact nf
  · by_cases q : i < A.length
    · rw [List.getElem?_append_left q] at h1
      rw [List.getElem?_append_left (by rw [R.len]; exact q)] at h2
      exact (R.ob i o' a h1 h2).mono (Ex.refl _) ⟨[p], rfl⟩ fun _ h => h
    · rw [List.getElem?_append_right (Nat.le_of_not_lt q)] at h1
      rw [List.getElem?_append_right (by rw [R.len]; exact Nat.le_of_not_lt q)] at h2
      rw [R.len] at h2
      have e : i - A.length = 0 := by
        have := (List.getElem?_eq_some_iff.mp h1).1
        simp at this; omega
      rw [e] at h1 h2
      cases h1; cases h2; exact r
/-- a new object of the plain heap -/
theorem Rl.alloc (R : Rl K ca F m A H) (n : H p = none) (r : ORep K ca F (m ++ [p]) (upd H p u) p o) : Rl K ca F (m ++ [p]) (A ++ [o]) (upd H p u) ∧ Stp F m H F (m ++ [p]) (upd H p u) ∧ Rep K ca F (m ++ [p]) (.ref p) (.ref A.length) := by
  obtain ⟨R1, g1⟩ := R.newH (u := u) n
  refine ⟨R1.take (R.out n) (R.fh.back n) r, ⟨Ex.refl _, ⟨[p], rfl⟩, g1.kp, g1.gn, fun a h => ?_, g1.th, g1.fz⟩, .ref (by rw [List.getElem?_append_right (by rw [R.len]; exact Nat.le_refl _), R.len]; simp)⟩
  rcases List.mem_append.mp h with q | q
  · exact .inl q
  · rw [List.mem_singleton] at q; exact .inr (by rw [q]; exact .none n)
/-- an object of the plain heap is another one now -/
theorem Rl.put {a : Addr} {o' : O} (R : Rl K ca F m A H) (ha : m[i]? = some a) (nz : ∀ od w, H a ≠ some (.frz od w)) (r : ORep K ca F m (upd H a u) a o') : Rl K ca F m (A.set i o') (upd H a u) ∧ Stp F m H F m (upd H a u) := by
  have hm : a ∈ m := List.mem_of_getElem? ha
  have fa := R.fr a hm
  obtain ⟨w0, e0, o0⟩ := R.ordy ha
  refine ⟨⟨R.fh.right fa, by simp [R.len], R.nd, R.fr, fun j o b h1 h2 => ?_, tabs_upd R.tb e0 o0, R.ft⟩, Ex.refl _, Pre.refl _, fun b w h n _ => ?_, fun a h => .inl h, fun a h => .inl h, fun b h => ?_, fun b od w h => ?_⟩
  · by_cases q : i = j
    · subst q
      rw [ha] at h2; cases h2
      rw [List.getElem?_set] at h1
      split at h1
      · split at h1
        · cases h1; exact r
        · cases h1
      · rename_i z; exact absurd rfl z
    · rw [List.getElem?_set_ne q] at h1
      have nb : b ≠ a := fun z => q (by
        subst z
        exact (List.getElem?_inj (List.getElem?_eq_some_iff.mp ha).1 R.nd).mp (ha.trans h2.symm))
      exact (R.ob j o b h1 h2).mono (Ex.refl _) (Pre.refl _) fun w hw => by rw [upd_ne nb]; exact hw
  · rw [upd_ne fun z => n (by rw [z]; exact hm)]; exact h
  · by_cases q : b = a
    · subst q
      obtain ⟨w1, e1, o1⟩ := r.ordy
      exact (h.no e1 o1).elim
    · exact h.back fun u hu => by rw [upd_ne q]; exact hu
  · rw [upd_ne fun z => nz od w (by rw [← z]; exact h)]; exact h
theorem Rl.at (R : Rl K ca F m A H) (hA : A[i]? = some o) (r : Rep K ca F m v (.ref i)) : ∃ a, v = .ref a ∧ m[i]? = some a ∧ ORep K ca F m H a o := by
  cases r with
  | ref h => exact ⟨_, rfl, h, R.ob i o _ hA h⟩

/-! ### simulations -/
/-- what is wanted behind it, told of the plain end -/
def Po {α β : Type} (K : PySem.W.Frag) (ca : CaT) (Rr : Hp → List Addr → β → α → Prop) (F : Hp) (m : List Addr) (H : Hp) (W : WX) (σ : L2.St) (Q : β → Hp → Prop) : RE α → Prop
  | .ok a A' => ∀ v F' m' H', Rl K ca F' m' A' H' → Stp F m H F' m' H' → Rr F' m' v a → Q v H'
  | .exc C A' => ∀ F' m' H', Rl K ca F' m' A' H' → Stp F m H F' m' H' → W (.ref (ca C)) none σ H'
  | .stuck => False
def Sim {α β : Type} (K : PySem.W.Frag) (ca : CaT) (Rr : Hp → List Addr → β → α → Prop) (W : WX) (te : L2.St → Hp → (β → Hp → Prop) → Prop) (f : Sl → Hs → RE α) : Prop :=
  ∀ F m A σ H env Q, Rl K ca F m A H → Slt K ca F m σ env → Po K ca Rr F m H W σ Q (f env A) → te σ H Q
def ReqI {α : Type} : Hp → List Addr → α → α → Prop := fun _ _ b c => b = c
abbrev SimE (K : PySem.W.Frag) (ca : CaT) (W : WX) (te : TE) (f : E) : Prop := Sim K ca (Rep K ca) W te f
abbrev SimT (K : PySem.W.Frag) (ca : CaT) (W : WX) (te : TT) (f : Tt) : Prop := Sim K ca ReqI W te f
abbrev SimA (K : PySem.W.Frag) (ca : CaT) (W : WX) (te : TA) (f : As) : Prop := Sim K ca (RepL K ca) W te f
abbrev SimO (K : PySem.W.Frag) (ca : CaT) (W : WX) (te : TO) (f : Sl → Hs → RE (Option Int)) : Prop := Sim K ca ReqI W te f
end
section
variable {K : PySem.W.Frag} {ca : CaT} {F F1 F2 H H1 H2 : Hp} {m m1 m2 : List Addr} {A : Hs} {σ : L2.St} {env : Sl} {W : WX}
theorem Po.stp {α β : Type} {Rr : Hp → List Addr → β → α → Prop} {Q : β → Hp → Prop} {r : RE α} (h : Po K ca Rr F m H W σ Q r) (g : Stp F m H F1 m1 H1) : Po K ca Rr F1 m1 H1 W σ Q r := by
  cases r with
  | ok a A' => exact fun v F' m' H' R g' q => h v F' m' H' R (g.trans g') q
  | exc C A' => exact fun F' m' H' R g' => h F' m' H' R (g.trans g')
  | stuck => exact h
theorem Po.imp {α β : Type} {Rr : Hp → List Addr → β → α → Prop} {Q Q' : β → Hp → Prop} {r : RE α} (h : Po K ca Rr F m H W σ Q r) (k : ∀ v H, Q v H → Q' v H) : Po K ca Rr F m H W σ Q' r := by
  cases r with
  | ok a A' => exact fun v F' m' H' R g' q => k _ _ (h v F' m' H' R g' q)
  | exc C A' => exact h
  | stuck => exact h
/-- first f, then g -/
theorem Sim.bind {α β γ δ : Type} {Rr : Hp → List Addr → β → α → Prop} {Rs : Hp → List Addr → δ → γ → Prop} {te : L2.St → Hp → (β → Hp → Prop) → Prop} {f : Sl → Hs → RE α} (h : Sim K ca Rr W te f) (R : Rl K ca F m A H) (S : Slt K ca F m σ env) {g : α → Hs → RE γ}
    {Q : δ → Hp → Prop} {T : β → Hp → Prop} (p : Po K ca Rs F m H W σ Q ((f env A).bind g))
    (k : ∀ F1 m1 A1 H1 x a, Rl K ca F1 m1 A1 H1 → Stp F m H F1 m1 H1 → Slt K ca F1 m1 σ env → Rr F1 m1 x a → Po K ca Rs F1 m1 H1 W σ Q (g a A1) → T x H1) : te σ H T := by
  refine h F m A σ H env T R S ?_
  cases q : f env A with
  | ok a A1 =>
    rw [q] at p
    exact fun v F1 m1 H1 R1 g1 r => k F1 m1 A1 H1 v a R1 g1 (S.stp g1) r (Po.stp p g1)
  | exc C A1 => rw [q] at p; exact p
  | stuck => rw [q] at p; exact p
/-! ### expressions -/
variable {ta tb tc te : TE} {a b c : E} {i : Nat} {d : D} {t u : TT} {ft fu : Tt} {ts : TA} {as : As}
theorem se_var : SimE K ca W (tVar i) (eVar i) := fun F m A σ H env Q R S p => by
  unfold eVar at p
  cases q : env[i]? with
  | none => rw [q] at p; exact p.elim
  | some z =>
    cases z with
    | none => rw [q] at p; exact p.elim
    | some d =>
      rw [q] at p
      obtain ⟨v, h1, h2⟩ := S.val i d q
      exact ⟨v, h1, p v F m H R Stp.refl h2⟩
theorem se_c {v : V} (h : ∀ F m, Rep K ca F m v d) : SimE K ca W (tC v) (eC d) := fun F m A σ H env Q R S p => p v F m H R Stp.refl (h F m)
theorem se_int {n : Int} : SimE K ca W (tC (.int n)) (eC (.int n)) := se_c fun _ _ => .int n
theorem se_bl {c : Bool} : SimE K ca W (tC (.bl c)) (eC (.bl c)) := se_c fun _ _ => .bl c
theorem se_non : SimE K ca W (tC .non) (eC .non) := se_c fun _ _ => .non
theorem se_ty {x : String} : SimE K ca W (tC (.ty x)) (eC (.ty x)) := se_c fun _ _ => .ty x
theorem se_nm {x : String} {a : Addr} (h : ca x = a) : SimE K ca W (tC (.ref a)) (eC (.nm x)) := se_c fun _ _ => h ▸ .nm x
/-- an operator: two operands' values, their data -/
def OpS (K : PySem.W.Frag) (ca : CaT) (r : R2) (o : D → D → Hs → RE D) : Prop := ∀ F m A H x y dx dy W σ Q, Rl K ca F m A H → Rep K ca F m x dx → Rep K ca F m y dy → Po K ca (Rep K ca) F m H W σ Q (o dx dy A) → r x y H Q
theorem se_op {r : R2} {o : D → D → Hs → RE D} (h : OpS K ca r o) (ha : SimE K ca W ta a) (hb : SimE K ca W tb b) : SimE K ca W (tOp r ta tb) (eOp o a b) := fun F m A σ H env Q R S p =>
  ha.bind R S p fun F1 m1 A1 H1 x dx R1 g1 S1 rx p1 => hb.bind R1 S1 p1 fun F2 m2 A2 H2 y dy R2 g2 S2 ry p2 => h F2 m2 A2 H2 x y dx dy W σ Q R2 (rx.mono g2.ff g2.mm) ry p2
def UnS (K : PySem.W.Frag) (ca : CaT) (r : V → Hp → VK → Prop) (o : D → Hs → RE D) : Prop := ∀ F m A H x dx W σ Q, Rl K ca F m A H → Rep K ca F m x dx → Po K ca (Rep K ca) F m H W σ Q (o dx A) → r x H Q
theorem se_un {r : V → Hp → VK → Prop} {o : D → Hs → RE D} (h : UnS K ca r o) (ha : SimE K ca W ta a) : SimE K ca W (tUn r ta) (eUn o a) := fun F m A σ H env Q R S p =>
  ha.bind R S p fun F1 m1 A1 H1 x dx R1 g1 S1 rx p1 => h F1 m1 A1 H1 x dx W σ Q R1 rx p1
theorem sa_nil : SimA K ca W tNil aNil := fun F m A σ H env Q R S p => p [] F m H R Stp.refl .nil
theorem sa_cons (ha : SimE K ca W ta a) (hs : SimA K ca W ts as) : SimA K ca W (tCons ta ts) (aCons a as) := fun F m A σ H env Q R S p =>
  ha.bind R S p fun F1 m1 A1 H1 x dx R1 g1 S1 rx p1 => hs.bind R1 S1 p1 fun F2 m2 A2 H2 xs ds R2 g2 S2 rs p2 => p2 (x :: xs) F2 m2 H2 R2 Stp.refl (.cons (rx.mono g2.ff g2.mm) rs)
def CbS (K : PySem.W.Frag) (ca : CaT) (r : List V → Hp → VK → Prop) (o : List D → Hs → RE D) : Prop := ∀ F m A H xs ds W σ Q, Rl K ca F m A H → RepL K ca F m xs ds → Po K ca (Rep K ca) F m H W σ Q (o ds A) → r xs H Q
theorem se_cb {r : List V → Hp → VK → Prop} {o : List D → Hs → RE D} (h : CbS K ca r o) (hs : SimA K ca W ts as) : SimE K ca W (tCB r ts) (eCB o as) := fun F m A σ H env Q R S p =>
  hs.bind R S p fun F1 m1 A1 H1 xs ds R1 g1 S1 rx p1 => h F1 m1 A1 H1 xs ds W σ Q R1 rx p1
theorem se_and (ha : SimE K ca W ta a) (hb : SimE K ca W tb b) : SimE K ca W (tAndV ta tb) (eAnd a b) := fun F m A σ H env Q R S p =>
  ha.bind R S p fun F1 m1 A1 H1 x dx R1 g1 S1 rx p1 => by
    cases rx with
    | bl c =>
      refine ⟨c, rfl, ?_⟩
      cases c with
      | true => exact hb F1 m1 A1 σ H1 env Q R1 S1 p1
      | false => exact p1 _ F1 m1 H1 R1 Stp.refl (.bl false)
    | _ => exact p1.elim
theorem se_not (ha : SimE K ca W ta a) : SimE K ca W (tNotV ta) (eNot a) := fun F m A σ H env Q R S p =>
  ha.bind R S p fun F1 m1 A1 H1 x dx R1 g1 S1 rx p1 => by
    cases rx with
    | bl c => exact ⟨c, rfl, p1 _ F1 m1 H1 R1 Stp.refl (.bl _)⟩
    | _ => exact p1.elim
theorem se_ch {q q' : R2} {o o' : D → D → Hs → RE D} (h : OpS K ca q o) (h' : OpS K ca q' o') (ha : SimE K ca W ta a) (hb : SimE K ca W tb b) (hc : SimE K ca W tc c) : SimE K ca W (tChain q q' ta tb tc) (eCh o o' a b c) := fun F m A σ H env Q R S p =>
  ha.bind R S p fun F1 m1 A1 H1 x dx R1 g1 S1 rx p1 => hb.bind R1 S1 p1 fun F2 m2 A2 H2 y dy R2 g2 S2 ry p2 => by
    refine h F2 m2 A2 H2 x y dx dy W σ _ R2 (rx.mono g2.ff g2.mm) ry ?_
    cases w : o dx dy A2 with
    | stuck => rw [w] at p2; exact p2
    | exc C A3 => rw [w] at p2; exact p2
    | ok z A3 =>
      rw [w] at p2
      intro v F3 m3 H3 R3 g3 rz
      have p3 := Po.stp p2 g3
      cases rz with
      | bl k =>
        refine ⟨k, rfl, ?_⟩
        cases k with
        | false => exact p3 _ F3 m3 H3 R3 Stp.refl (.bl false)
        | true => exact hc.bind R3 (S2.stp g3) p3 fun F4 m4 A4 H4 w dw R4 g4 S4 rw' p4 => h' F4 m4 A4 H4 y w dy dw W σ Q R4 (ry.mono (g3.ff.trans g4.ff) (g3.mm.trans g4.mm)) rw' p4
      | _ => exact p3.elim
theorem st_test (ha : SimE K ca W ta a) : SimT K ca W (tTest ta) (tOf a) := fun F m A σ H env Q R S p =>
  ha.bind R S p fun F1 m1 A1 H1 x dx R1 g1 S1 rx p1 => by
    cases rx with
    | bl c => exact ⟨c, rfl, p1 _ F1 m1 H1 R1 Stp.refl rfl⟩
    | _ => exact p1.elim
theorem st_b (ha : SimE K ca W ta a) : SimT K ca W (tB ta) (tOf a) := fun F m A σ H env Q R S p =>
  ha.bind R S p fun F1 m1 A1 H1 x dx R1 g1 S1 rx p1 => by
    cases rx with
    | bl c => exact ⟨c, rfl, p1 _ F1 m1 H1 R1 Stp.refl rfl⟩
    | _ => exact p1.elim
theorem st_not (ht : SimT K ca W t ft) : SimT K ca W (tNot t) (tNo ft) := fun F m A σ H env Q R S p =>
  ht.bind R S p fun F1 m1 A1 H1 x dx R1 g1 S1 rx p1 => by
    cases (show x = dx from rx)
    exact p1 _ F1 m1 H1 R1 Stp.refl rfl
theorem st_and (ht : SimT K ca W t ft) (hu : SimT K ca W u fu) : SimT K ca W (tAnd t u) (tAn ft fu) := fun F m A σ H env Q R S p =>
  ht.bind R S p fun F1 m1 A1 H1 x dx R1 g1 S1 rx p1 => by
    cases (show x = dx from rx)
    cases x with
    | true => exact hu F1 m1 A1 σ H1 env Q R1 S1 p1
    | false => exact p1 _ F1 m1 H1 R1 Stp.refl rfl
theorem st_or (ht : SimT K ca W t ft) (hu : SimT K ca W u fu) : SimT K ca W (tOr t u) (tOo ft fu) := fun F m A σ H env Q R S p =>
  ht.bind R S p fun F1 m1 A1 H1 x dx R1 g1 S1 rx p1 => by
    cases (show x = dx from rx)
    cases x with
    | false => exact hu F1 m1 A1 σ H1 env Q R1 S1 p1
    | true => exact p1 _ F1 m1 H1 R1 Stp.refl rfl
theorem st_yes : SimT K ca W tYes tYe := fun F m A σ H env Q R S p => p _ F m H R Stp.refl rfl
theorem se_if (ht : SimT K ca W t ft) (ha : SimE K ca W ta a) (hb : SimE K ca W tb b) : SimE K ca W (tIf t ta tb) (eIf ft a b) := fun F m A σ H env Q R S p =>
  ht.bind R S p fun F1 m1 A1 H1 x dx R1 g1 S1 rx p1 => by
    cases (show x = dx from rx)
    cases x with
    | true => exact ha F1 m1 A1 σ H1 env Q R1 S1 p1
    | false => exact hb F1 m1 A1 σ H1 env Q R1 S1 p1
theorem se_tup (hs : SimA K ca W ts as) : SimE K ca W (tTup ts) (eTup as) := fun F m A σ H env Q R S p =>
  hs.bind R S p fun F1 m1 A1 H1 xs ds R1 g1 S1 rs p1 => by
    split at p1
    · rename_i hl
      refine ⟨by rw [rs.length]; exact hl, fun q hq => ?_⟩
      obtain ⟨R2, g2⟩ := R1.new (u := .tup xs) hq
      exact p1 _ _ _ _ R2 g2 (.tup upd_same (rs.mono g2.ff g2.mm))
    · exact p1.elim
theorem po_alloc {Q : VK} {p : Addr} {u : HO} {o : O} (R : Rl K ca F m A H) (n : H p = none) (r : ORep K ca F (m ++ [p]) (upd H p u) p o) (h : Po K ca (Rep K ca) F m H W σ Q (alloc A o)) : Q (.ref p) (upd H p u) := by
  obtain ⟨R2, g2, q⟩ := R.alloc n r
  exact h _ _ _ _ R2 g2 q
theorem se_lst (hs : SimA K ca W ts as) : SimE K ca W (tLst ts) (eLst as) := fun F m A σ H env Q R S p =>
  hs.bind R S p fun F1 m1 A1 H1 xs ds R1 g1 S1 rs p1 => by
    split at p1
    · rename_i hl
      exact ⟨by rw [rs.length]; exact hl, fun q hq => po_alloc (o := .lst ds) R1 hq ⟨xs, upd_same, rs.mono (Ex.refl _) ⟨_, rfl⟩⟩ p1⟩
    · exact p1.elim
theorem so_none : SimO K ca W tNoPart oNo := fun F m A σ H env Q R S p => p _ F m H R Stp.refl rfl
theorem so_some (ha : SimE K ca W ta a) : SimO K ca W (tPart ta) (oSo a) := fun F m A σ H env Q R S p =>
  ha.bind R S p fun F1 m1 A1 H1 x dx R1 g1 S1 rx p1 => by
    cases rx with
    | int i => exact ⟨i, rfl, p1 _ F1 m1 H1 R1 Stp.refl rfl⟩
    | _ => exact p1.elim
def SlS (K : PySem.W.Frag) (ca : CaT) (r : V → Option Int → Option Int → Hp → VK → Prop) (o : D → Option Int → Option Int → Hs → RE D) : Prop := ∀ F m A H x dx lo hi W σ Q, Rl K ca F m A H → Rep K ca F m x dx → Po K ca (Rep K ca) F m H W σ Q (o dx lo hi A) → r x lo hi H Q
theorem se_sl {r : V → Option Int → Option Int → Hp → VK → Prop} {o : D → Option Int → Option Int → Hs → RE D} {tl th : TO} {fl fh : Sl → Hs → RE (Option Int)} (h : SlS K ca r o) (ha : SimE K ca W ta a) (hl : SimO K ca W tl fl) (hh : SimO K ca W th fh) : SimE K ca W (tSl r ta tl th) (eSl o a fl fh) := fun F m A σ H env Q R S p =>
  ha.bind R S p fun F1 m1 A1 H1 x dx R1 g1 S1 rx p1 => hl.bind R1 S1 p1 fun F2 m2 A2 H2 lo lo' R2 g2 S2 rl p2 => hh.bind R2 S2 p2 fun F3 m3 A3 H3 hi hi' R3 g3 S3 rh p3 => by
    cases (show lo = lo' from rl)
    cases (show hi = hi' from rh)
    exact h F3 m3 A3 H3 x dx lo hi W σ Q R3 (rx.mono (g2.ff.trans g3.ff) (g2.mm.trans g3.mm)) p3

/-! ### promises -/
def PoF (K : PySem.W.Frag) (ca : CaT) (F : Hp) (m : List Addr) (H : Hp) (Q : VK) (E : XK) : RE D → Prop
  | .ok a A' => ∀ v F' m' H', Rl K ca F' m' A' H' → Stp F m H F' m' H' → Rep K ca F' m' v a → Q v H'
  | .exc C A' => ∀ F' m' H', Rl K ca F' m' A' H' → Stp F m H F' m' H' → E (.ref (ca C)) none H'
  | .stuck => False
/-- THE PROMISE: it does what the plain function does -/
def SpF (K : PySem.W.Frag) (ca : CaT) (f : Fn) : Sp := fun vs H Q E => ∃ F m A ds, Rl K ca F m A H ∧ RepL K ca F m vs ds ∧ PoF K ca F m H Q E (f ds A)
theorem pof_po {Q : VK} {r : RE D} (h : Po K ca (Rep K ca) F m H W σ Q r) : PoF K ca F m H Q (WE W σ) r := by
  cases r <;> exact h
theorem pof_noX {Q : VK} {X : XK} {r : RE D} (h : Po K ca (Rep K ca) F m H W σ Q r.noX) : PoF K ca F m H Q X r := by
  cases r with
  | ok a A => exact h
  | exc C A => exact h.elim
  | stuck => exact h.elim
theorem se_call {f : Fn} (hs : SimA K ca W ts as) : SimE K ca W (tCallS (SpF K ca f) (WE W) ts) (eCall f as) := fun F m A σ H env Q R S p =>
  hs.bind R S p fun F1 m1 A1 H1 xs ds R1 g1 S1 rs p1 => ⟨F1, m1, A1, ds, R1, rs, pof_po p1⟩
theorem se_call0 {f : Fn} {X : XK} (hs : SimA K ca W ts as) : SimE K ca W (tCall (SpF K ca f) [] X ts) (eCall0 f as) := fun F m A σ H env Q R S p =>
  hs.bind R S p fun F1 m1 A1 H1 xs ds R1 g1 S1 rs p1 => ⟨F1, m1, A1, ds, R1, by rw [List.append_nil]; exact rs, pof_noX p1⟩

/-! ### fields -/
theorem fS_look {f : String} : ∀ {l : List (Str × V)} {s : List (String × D)}, FdR K ca F m l s → (∀ d, s.lookup f = some d → ∃ v, l.lookup (fS f) = some v ∧ Rep K ca F m v d) ∧ (s.lookup f = none → l.lookup (fS f) = none)
  | _, _, .nil => ⟨fun d h => by simp at h, fun _ => rfl⟩
  | _, _, .cons (f := g) (v := v) (d := e) h r => by
    have ih := fS_look (f := f) r
    by_cases q : f = g
    · subst q
      refine ⟨fun d z => ?_, fun z => ?_⟩
      · rw [List.lookup_cons_self] at z; cases z
        exact ⟨v, by rw [List.lookup_cons_self], h⟩
      · rw [List.lookup_cons_self] at z; cases z
    · have q1 : (f == g) = false := by simpa using q
      have q2 : (fS f == fS g) = false := by
        rw [beq_eq_false_iff_ne]
        exact fun z => q (fS_inj.mp z)
      refine ⟨fun d z => ?_, fun z => ?_⟩
      · rw [List.lookup_cons, q1] at z
        obtain ⟨w, h1, h2⟩ := ih.1 d z
        exact ⟨w, by rw [List.lookup_cons, q2]; exact h1, h2⟩
      · rw [List.lookup_cons, q1] at z
        rw [List.lookup_cons, q2]; exact ih.2 z
end
end SM

/-! ## methods that may raise -/
namespace L2
open PySem PySem.Spec PyProof.Rows
def tMethX (C : Addr) (m : Str) (sp : Sp) (E : St → XK) (ta : TE) (t : TA) : TE := fun σ H Q => ta σ H fun x H1 => ∃ a dx fs, x = .ref a ∧ H1 a = some (.ins C dx fs) ∧ fs.lookup m = none ∧
  t σ H1 fun vs H2 => sp (x :: vs) H2 Q (E σ)
section
variable {X : Cx} {CX : CXT} {k : Nat} {f C : Addr} {fd : FuncData} {ps : List Str} {sp : Sp} {E : St → XK} {x m : Str} {p pos apos : Pos} {e o : Expr} {es : List Expr} {ta : TE} {t : TA}
theorem pe_methX {pl : Sem Bool} (he : PE X o ta) (c : Cls X.K C) (hm : Meth X.K C m f) (F : FnOk X.prog X.w X.K X.mg X.base CX k f fd ps sp) (hr : Room k X.A) (hb : Binds X.K fd ps []) (hx : ∀ σ, PassesAt CX X σ (E σ)) (ha : PA X (e :: es) t)
    (hst : starEach (e :: es) X.env = (false, eval e X.env) :: starEach es X.env := by rfl) (hpl : (backTo pos (starEach es X.env)).any (·.1) = false := by rfl)
    (ht : eval (.Call (.Attribute o m apos) (e :: es) [] pos) X.env = (do
      let ov ← eval o X.env
      standAt apos.atName
      let (f, first) ← holding [ov] (getMethod ov m pl)
      callWith pos f first (backTo pos (starEach (e :: es) X.env)) (backToKw pos (keywordEach [] X.env))) := by rfl) :
    PE X (.Call (.Attribute o m apos) (e :: es) [] pos) (tMethX C m sp E ta t) := by
  refine ⟨fun pins s σ H Q I h => ?_⟩
  refine PySem.W.methodCall_KW (pl := pl) (thn (he.run pins s σ H _ I h) fun u s1 ⟨x, H1, I1, rx, a, dx, fs, ex, ea, l, q⟩ => ?_) ht
  subst ex
  obtain rfl : u = Value.ref a := rx
  refine getmeth_ok I1 ea c hm l ?_
  refine PySem.W.callWith_K (first := [.ref a]) (h₀ := X.base) I.ok.mod.kin hm.kp (thn (ha.run pos pins s1 σ H1 _ I1 q) fun us s2 ⟨vs, H2, I2, r, q2⟩ => ⟨I2.kIn, ?_⟩) hst hpl
  exact run_fnS (us := .ref a :: us) (vs := .ref a :: vs) F hr hb (hx σ) I2 (.cons rfl r) q2
/-- o.m() -/
theorem pe_methX0 {pl : Sem Bool} (he : PE X o ta) (c : Cls X.K C) (hm : Meth X.K C m f) (F : FnOk X.prog X.w X.K X.mg X.base CX k f fd ps sp) (hr : Room k X.A) (hb : Binds X.K fd ps []) (hx : ∀ σ, PassesAt CX X σ (E σ))
    (ht : eval (.Call (.Attribute o m apos) [] [] pos) X.env = (do
      let ov ← eval o X.env
      standAt apos.atName
      let (f, first) ← holding [ov] (getMethod ov m pl)
      callWith pos f first (backTo pos (starEach [] X.env)) (backToKw pos (keywordEach [] X.env))) := by rfl) :
    PE X (.Call (.Attribute o m apos) [] [] pos) (tMethX C m sp E ta tNil) := by
  refine ⟨fun pins s σ H Q I h => ?_⟩
  refine PySem.W.methodCall_KW (pl := pl) (thn (he.run pins s σ H _ I h) fun u s1 ⟨x, H1, I1, rx, a, dx, fs, ex, ea, l, q⟩ => ?_) ht
  subst ex
  obtain rfl : u = Value.ref a := rx
  refine getmeth_ok I1 ea c hm l ?_
  exact PySem.W.callWith_K0 (first := [.ref a]) I1.kIn hm.kp (run_fnS (us := [.ref a]) (vs := [.ref a]) F hr hb (hx σ) I1 (.cons rfl .nil) q)
theorem PE.or {X : Cx} {e : Expr} {t u : TE} (h1 : PE X e t) (h2 : PE X e u) : PE X e (fun σ H Q => t σ H Q ∨ u σ H Q) := ⟨fun pins s σ H Q I h => by
  rcases h with h | h
  · exact h1.run pins s σ H Q I h
  · exact h2.run pins s σ H Q I h⟩
theorem PS.or {X : Cx} {st : Stmt} {t u : TS} (h1 : PS X st t) (h2 : PS X st u) : PS X st (fun D σ H => t D σ H ∨ u D σ H) := ⟨fun pins s σ H D I h => by
  rcases h with h | h
  · exact h1.run pins s σ H D I h
  · exact h2.run pins s σ H D I h⟩
end
end L2
/-! ## fields, calls, statements -/
namespace SM
open PySem L2
open DL (Ex ExK tRaise tTry tTryO)
section
variable {K : PySem.W.Frag} {ca : CaT} {F F1 F2 H H1 H2 : Hp} {m m1 m2 : List Addr} {A A1 A2 : Hs} {σ : L2.St} {env : Sl} {W : WX}
variable {ta tb tc te : TE} {a b c : E} {i : Nat} {d : D} {t u : TT} {ft fu : Tt} {ts : TA} {as : As} {x : V} {dx : D} {C : String} {fs : List (String × D)} {cs : List String}
theorem obj_at (R : Rl K ca F m A H) (r : Rep K ca F m x dx) (h : objAt A dx = some (C, fs)) : ∃ i a dxx kvs, dx = .ref i ∧ x = .ref a ∧ m[i]? = some a ∧ A[i]? = some (.obj C fs) ∧ H a = some (.ins (ca C) dxx kvs) ∧ FdR K ca F m kvs fs := by
  cases dx with
  | ref i =>
    unfold objAt at h
    cases q : A[i]? with
    | none => simp [q] at h
    | some o =>
      cases o with
      | obj C' fs' =>
        simp [q] at h
        obtain ⟨rfl, rfl⟩ := h
        obtain ⟨a, e, ha, dxx, kvs, h1, h2⟩ := R.at q r
        exact ⟨i, a, dxx, kvs, rfl, e, ha, q, h1, h2⟩
      | lst _ => simp [q] at h
      | dic _ _ _ => simp [q] at h
  | _ => simp [objAt] at h
/-- the classes cs, that know no name f -/
def NoF (K : PySem.W.Frag) (ca : CaT) (cs : List String) (f : Str) : Prop := AllC (fun C => Cls K (ca C) ∧ NoAttr K (ca C) f) cs
theorem getFld_at {f : String} {f' : Str} (hf : f' = fS f) (R : Rl K ca F m A H) (r : Rep K ca F m x dx) (kc : NoF K ca cs f') (h : getFld cs f A dx = some d) : ∃ a C dxx kvs v, C ∈ cs ∧ x = .ref a ∧ H a = some (.ins (ca C) dxx kvs) ∧ Cls K (ca C) ∧ NoAttr K (ca C) f' ∧ kvs.lookup f' = some v ∧ Rep K ca F m v d := by
  unfold getFld at h
  cases q : objAt A dx with
  | none => rw [q] at h; cases h
  | some z =>
    obtain ⟨C, fs⟩ := z
    rw [q] at h
    simp only at h
    split at h
    · rename_i hc
      obtain ⟨i, a, dxx, kvs, e1, e2, h1, h2, h3, h4⟩ := obj_at R r q
      obtain ⟨v, h5, h6⟩ := (fS_look (f := f) h4).1 d h
      have kk := AllC.of kc hc
      exact ⟨a, C, dxx, kvs, v, hc, e2, h3, kk.1, kk.2, by rw [hf]; exact h5, h6⟩
    · cases h
theorem se_fld {f : String} {f' : Str} (hf : f' = fS f) (kc : NoF K ca cs f') (ha : SimE K ca W ta a) : SimE K ca W (tFld K ta f') (eFld cs f a) := fun F m A σ H env Q R S p =>
  ha.bind R S p fun F1 m1 A1 H1 x dx R1 g1 S1 rx p1 => by
    cases q : getFld cs f A1 dx with
    | none => simp only [q] at p1; exact p1.elim
    | some d =>
      simp only [q] at p1
      obtain ⟨a, C, dxx, kvs, v, _, e, h1, h2, h3, h4, h5⟩ := getFld_at hf R1 rx kc q
      exact ⟨a, ca C, dxx, kvs, v, e, h1, h2, h3, h4, p1 v F1 m1 H1 R1 Stp.refl h5⟩
theorem putF_rep {f : String} {v : V} (hv : Rep K ca F m v d) : ∀ {kvs : List (Str × V)} {fs : List (String × D)}, FdR K ca F m kvs fs → FdR K ca F m (L2.putF (fS f) v kvs) (putF f d fs)
  | _, _, .nil => .cons hv .nil
  | _, _, .cons (f := g) h r => by
    unfold L2.putF SM.putF
    by_cases q : g = f
    · subst q; rw [if_pos rfl, if_pos rfl]; exact .cons hv r
    · rw [if_neg q, if_neg (fun z => q (fS_inj.mp z))]; exact .cons h (putF_rep hv r)
theorem setFld_at {f : String} {f' : Str} {v : V} (hf : f' = fS f) (R : Rl K ca F m A H) (r : Rep K ca F m x dx) (rv : Rep K ca F m v d) (kc : NoF K ca cs f') (h : setFld cs A dx f d = some A2) :
    ∃ a C dxx kvs, C ∈ cs ∧ x = .ref a ∧ H a = some (.ins (ca C) dxx kvs) ∧ Cls K (ca C) ∧ NoAttr K (ca C) f' ∧ kvs.length < 999 ∧ Rl K ca F m A2 (upd H a (.ins (ca C) dxx (L2.putF f' v kvs))) ∧ Stp F m H F m (upd H a (.ins (ca C) dxx (L2.putF f' v kvs))) := by
  unfold setFld at h
  cases dx with
  | ref i =>
    simp only at h
    cases q : A[i]? with
    | none => simp [q] at h
    | some o =>
      cases o with
      | obj C fs =>
        simp only [q] at h
        split at h
        · rename_i hc
          cases h
          obtain ⟨a, e, ha, dxx, kvs, h1, h2⟩ := R.at q r
          have kk := AllC.of kc hc.1
          obtain ⟨R2, g2⟩ := R.put (u := .ins (ca C) dxx (L2.putF f' v kvs)) (o' := .obj C (putF f d fs)) ha (fun od w z => by rw [h1] at z; cases z) ⟨dxx, _, upd_same, by rw [hf]; exact putF_rep rv h2⟩
          exact ⟨a, C, dxx, kvs, hc.1, e, h1, kk.1, kk.2, by rw [h2.length]; exact hc.2, R2, g2⟩
        · cases h
      | lst _ => simp [q] at h
      | dic _ _ _ => simp [q] at h
  | _ => simp at h

/-! ### statements -/
def PoS (K : PySem.W.Frag) (ca : CaT) (F : Hp) (m : List Addr) (H : Hp) (W : WX) (Dn : Ends) : RS → Prop
  | .nx e A' => ∀ F' m' σ' H', Rl K ca F' m' A' H' → Stp F m H F' m' H' → Slt K ca F' m' σ' e → Dn.nx σ' H'
  | .bk e A' => ∀ F' m' σ' H', Rl K ca F' m' A' H' → Stp F m H F' m' H' → Slt K ca F' m' σ' e → Dn.bk σ' H'
  | .ct e A' => ∀ F' m' σ' H', Rl K ca F' m' A' H' → Stp F m H F' m' H' → Slt K ca F' m' σ' e → Dn.ct σ' H'
  | .rt d A' => ∀ v F' m' H', Rl K ca F' m' A' H' → Stp F m H F' m' H' → Rep K ca F' m' v d → Dn.rt v H'
  | .exc C e A' => ∀ F' m' σ' H', Rl K ca F' m' A' H' → Stp F m H F' m' H' → Slt K ca F' m' σ' e → W (.ref (ca C)) none σ' H'
  | .stuck => False
def SimS (K : PySem.W.Frag) (ca : CaT) (W : WX) (t : TS) (f : S) : Prop := ∀ F m A σ H env Dn, Rl K ca F m A H → Slt K ca F m σ env → PoS K ca F m H W Dn (f env A) → t Dn σ H
variable {s1 s2 s : TS} {f1 f2 f : S} {Dn : Ends}
theorem PoS.stp {r : RS} (h : PoS K ca F m H W Dn r) (g : Stp F m H F1 m1 H1) : PoS K ca F1 m1 H1 W Dn r := by
  cases r with
  | nx e A' => exact fun F' m' σ' H' R g' q => h F' m' σ' H' R (g.trans g') q
  | bk e A' => exact fun F' m' σ' H' R g' q => h F' m' σ' H' R (g.trans g') q
  | ct e A' => exact fun F' m' σ' H' R g' q => h F' m' σ' H' R (g.trans g') q
  | rt d A' => exact fun v F' m' H' R g' q => h v F' m' H' R (g.trans g') q
  | exc C e A' => exact fun F' m' σ' H' R g' q => h F' m' σ' H' R (g.trans g') q
  | stuck => exact h
/-- the value of an expression, then a statement's rest -/
theorem ofE_bind {k : D → Hs → RS} {T : VK} (h : SimE K ca W te a) (R : Rl K ca F m A H) (S : Slt K ca F m σ env) (p : PoS K ca F m H W Dn (ofE env (a env A) k))
    (kk : ∀ F1 m1 A1 H1 x d, Rl K ca F1 m1 A1 H1 → Stp F m H F1 m1 H1 → Slt K ca F1 m1 σ env → Rep K ca F1 m1 x d → PoS K ca F1 m1 H1 W Dn (k d A1) → T x H1) : te σ H T := by
  refine h F m A σ H env T R S ?_
  cases q : a env A with
  | ok d A1 =>
    rw [q] at p
    exact fun v F1 m1 H1 R1 g1 r => kk F1 m1 A1 H1 v d R1 g1 (S.stp g1) r (PoS.stp p g1)
  | exc C A1 => rw [q] at p; exact fun F1 m1 H1 R1 g1 => p F1 m1 σ H1 R1 g1 (S.stp g1)
  | stuck => rw [q] at p; exact p
theorem ofT_bind {k : Bool → Hs → RS} {T : Bool → Hp → Prop} (h : SimT K ca W t ft) (R : Rl K ca F m A H) (S : Slt K ca F m σ env) (p : PoS K ca F m H W Dn (ofT env (ft env A) k))
    (kk : ∀ F1 m1 A1 H1 c, Rl K ca F1 m1 A1 H1 → Stp F m H F1 m1 H1 → Slt K ca F1 m1 σ env → PoS K ca F1 m1 H1 W Dn (k c A1) → T c H1) : t σ H T := by
  refine h F m A σ H env T R S ?_
  cases q : ft env A with
  | ok d A1 =>
    rw [q] at p
    intro v F1 m1 H1 R1 g1 r
    cases (show v = d from r)
    exact kk F1 m1 A1 H1 d R1 g1 (S.stp g1) (PoS.stp p g1)
  | exc C A1 => rw [q] at p; exact fun F1 m1 H1 R1 g1 => p F1 m1 σ H1 R1 g1 (S.stp g1)
  | stuck => rw [q] at p; exact p
theorem ss_seq (h1 : SimS K ca W s1 f1) (h2 : SimS K ca W s2 f2) : SimS K ca W (tSeq s1 s2) (sSeq f1 f2) := fun F m A σ H env Dn R S p => by
  refine h1 F m A σ H env { Dn with nx := s2 Dn } R S ?_
  unfold sSeq at p
  cases q : f1 env A with
  | nx e A1 =>
    rw [q] at p
    exact fun F' m' σ' H' R' g' S' => h2 F' m' A1 σ' H' e Dn R' S' (PoS.stp p g')
  | bk e A1 => rw [q] at p; exact p
  | ct e A1 => rw [q] at p; exact p
  | rt d A1 => rw [q] at p; exact p
  | exc C e A1 => rw [q] at p; exact p
  | stuck => rw [q] at p; exact p
theorem ss_next : SimS K ca W tNext sNx := fun F m A σ H env Dn R S p => p F m σ H R Stp.refl S
theorem ss_drop (h : SimE K ca W te a) : SimS K ca W (tDrop te) (sDrop a) := fun F m A σ H env Dn R S p => ofE_bind h R S p fun F1 m1 A1 H1 x d R1 g1 S1 rx p1 => p1 F1 m1 σ H1 R1 Stp.refl S1
theorem ss_ret (h : SimE K ca W te a) : SimS K ca W (tRet te) (sRet a) := fun F m A σ H env Dn R S p => ofE_bind h R S p fun F1 m1 A1 H1 x d R1 g1 S1 rx p1 => p1 x F1 m1 H1 R1 Stp.refl rx
theorem ss_if (ht : SimT K ca W t ft) (h1 : SimS K ca W s1 f1) (h2 : SimS K ca W s2 f2) : SimS K ca W (tIfS t s1 s2) (sIf ft f1 f2) := fun F m A σ H env Dn R S p => ofT_bind ht R S p fun F1 m1 A1 H1 c R1 g1 S1 p1 => by
  cases c with
  | true => exact h1 F1 m1 A1 σ H1 env Dn R1 S1 p1
  | false => exact h2 F1 m1 A1 σ H1 env Dn R1 S1 p1
theorem ss_set (h : SimE K ca W te a) : SimS K ca W (tAsg te (gName i)) (sSet i a) := fun F m A σ H env Dn R S p => ofE_bind h R S p fun F1 m1 A1 H1 x d R1 g1 S1 rx p1 => p1 F1 m1 _ H1 R1 Stp.refl (S1.set rx)
/-- targets: slots js alone change -/
def SimG (K : PySem.W.Frag) (ca : CaT) (g : TG) (f : G) (js : List Nat) : Prop := ∀ F m A σ H env v d env', Rl K ca F m A H → Slt K ca F m σ env → Rep K ca F m v d → f d env A = some env' → ∀ Q : L2.St → Hp → Prop,
  (∀ σ', Slt K ca F m σ' env' → σ'.length = σ.length → (∀ i : Nat, i ∉ js → σ'[i]? = σ[i]?) → Q σ' H) → g v σ H Q
def SimGs (K : PySem.W.Frag) (ca : CaT) (g : TGs) (f : List G) (js : List Nat) : Prop := ∀ F m A σ H env vs ds env', Rl K ca F m A H → Slt K ca F m σ env → RepL K ca F m vs ds → gAll f ds env A = some env' → ∀ Q : L2.St → Hp → Prop,
  (∀ σ', Slt K ca F m σ' env' → σ'.length = σ.length → (∀ i : Nat, i ∉ js → σ'[i]? = σ[i]?) → Q σ' H) → g vs σ H Q
theorem sg_name : SimG K ca (gName i) (gN i) [i] := fun F m A σ H env v d env' R S r h Q k => by
  cases h
  exact k _ (S.set r) (by simp) fun j hj => by rw [List.getElem?_set_ne (by intro z; exact hj (by simp [z]))]
theorem sgs_nil : SimGs K ca gNil [] [] := fun F m A σ H env vs ds env' R S r h Q k => by
  cases r with
  | nil => cases h; exact ⟨rfl, k σ S rfl fun _ _ => rfl⟩
  | cons _ _ => cases h
theorem sgs_cons {g : TG} {gs : TGs} {f : G} {fs : List G} {js ks : List Nat} (h : SimG K ca g f js) (hs : SimGs K ca gs fs ks) : SimGs K ca (gCons g gs) (f :: fs) (js ++ ks) := fun F m A σ H env vs ds env' R S r e Q k => by
  cases r with
  | nil => cases e
  | cons r1 r2 =>
    rename_i v vs d ds
    unfold gAll at e
    cases q : f d env A with
    | none => rw [q] at e; cases e
    | some env1 =>
      rw [q] at e
      refine ⟨v, vs, rfl, h F m A σ H env v d env1 R S r1 q _ fun σ1 S1 l1 k1 => hs F m A σ1 H env1 vs ds env' R S1 r2 e Q fun σ2 S2 l2 k2 => k σ2 S2 (l2.trans l1) fun i hi => ?_⟩
      rw [k2 i (fun z => hi (List.mem_append_right _ z)), k1 i (fun z => hi (List.mem_append_left _ z))]
theorem gAll_len : ∀ {fs : List G} {ds : List D} {env env' : Sl} {A : Hs}, gAll fs ds env A = some env' → ds.length = fs.length
  | [], [], _, _, _, _ => rfl
  | g :: gs, d :: ds, env, env', A, h => by
    unfold gAll at h
    cases q : g d env A with
    | none => rw [q] at h; cases h
    | some e => rw [q] at h; rw [List.length_cons, List.length_cons, gAll_len h]
  | [], _ :: _, _, _, _, h => by cases h
  | _ :: _, [], _, _, _, h => by cases h
theorem sg_tup {gs : TGs} {fs : List G} {js : List Nat} {n : Nat} (h : SimGs K ca gs fs js) (hn : fs.length = n) : SimG K ca (gTup K n gs) (gT fs) js := fun F m A σ H env v d env' R S r e Q k => by
  cases r with
  | tup s p =>
    have e' : gAll fs _ env A = some env' := e
    exact ⟨_, _, rfl, .inl (.inl (R.fh _ _ s)), by rw [p.length, gAll_len e', hn], h F m A σ H env _ _ env' R S p e' Q k⟩
  | _ => cases e
/-- x op= e -/
def IpS (K : PySem.W.Frag) (ca : CaT) (r : TIp) (o : D → D → Hs → RE D) : Prop := ∀ F m A H x y dx dy W σ Q, Rl K ca F m A H → Rep K ca F m x dx → Rep K ca F m y dy → Po K ca (Rep K ca) F m H W σ Q (o dx dy A) → r x y H Q
theorem po_ofE {k : D → Hs → RS} {T : VK} {r : RE D} (S : Slt K ca F m σ env) (p : PoS K ca F m H W Dn (ofE env r k)) (kk : ∀ F1 m1 A1 H1 x d, Rl K ca F1 m1 A1 H1 → Stp F m H F1 m1 H1 → Slt K ca F1 m1 σ env → Rep K ca F1 m1 x d → PoS K ca F1 m1 H1 W Dn (k d A1) → T x H1) : Po K ca (Rep K ca) F m H W σ T r := by
  cases r with
  | ok d A1 => exact fun v F1 m1 H1 R1 g1 r => kk F1 m1 A1 H1 v d R1 g1 (S.stp g1) r (PoS.stp p g1)
  | exc C A1 => exact fun F1 m1 H1 R1 g1 => p F1 m1 σ H1 R1 g1 (S.stp g1)
  | stuck => exact p
theorem ss_aug {r : TIp} {o : D → D → Hs → RE D} (ho : IpS K ca r o) (h : SimE K ca W te a) : SimS K ca W (tAug i te r) (sAug i o a) := fun F m A σ H env Dn R S p => by
  unfold sAug at p
  cases q : env[i]? with
  | none => rw [q] at p; exact p.elim
  | some z =>
    cases z with
    | none => rw [q] at p; exact p.elim
    | some dx =>
      rw [q] at p
      obtain ⟨x, h1, h2⟩ := S.val i dx q
      refine ⟨x, h1, ofE_bind h R S p fun F1 m1 A1 H1 y dy R1 g1 S1 ry p1 => ?_⟩
      exact ho F1 m1 A1 H1 x y dx dy W σ _ R1 (h2.mono g1.ff g1.mm) ry (po_ofE S1 p1 fun F2 m2 A2 H2 z dz R2 g2 S2 rz p2 => p2 F2 m2 _ H2 R2 Stp.refl (S2.set rz))
theorem ss_fl {f : String} {f' : Str} {tv : TE} (hf : f' = fS f) (kc : NoF K ca cs f') (ho : SimE K ca W ta a) (hv : SimE K ca W tv b) : SimS K ca W (sFld K ta tv f') (sFl cs f a b) := fun F m A σ H env Dn R S p =>
  ofE_bind hv R S p fun F1 m1 A1 H1 y dy R1 g1 S1 ry p1 => ofE_bind ho R1 S1 p1 fun F2 m2 A2 H2 x dx R2 g2 S2 rx p2 => by
    cases q : setFld cs A2 dx f dy with
    | none => simp only [q] at p2; exact p2.elim
    | some A3 =>
      simp only [q] at p2
      obtain ⟨a, C, dxx, kvs, _, e, h1, h2, h3, h4, R3, g3⟩ := setFld_at hf R2 rx (ry.mono g2.ff g2.mm) kc q
      exact ⟨a, ca C, dxx, kvs, e, h1, h2, h3, by omega, p2 F2 m2 σ _ R3 g3 S2⟩
theorem ss_raise {C : String} {Ca : Addr} (h : ca C = Ca) : SimS K ca W (tRaise W Ca) (sRaise C) := fun F m A σ H env Dn R S p => by
  subst h; exact p F m σ H R Stp.refl S
/-! ### loops -/
theorem ss_while (ht : SimT K ca W t ft) (h : SimS K ca W s f) : SimS K ca W (tWhile t s) (sWh ft f) := fun F m A σ H env Dn R S p => by
  have hx : ∃ n, whN ft f n env A ≠ .stuck := by
    by_cases q : ∃ n, whN ft f n env A ≠ .stuck
    · exact q
    · unfold sWh at p; rw [dif_neg q] at p; exact p.elim
  obtain ⟨n, hn⟩ := hx
  rw [sWh_eq hn] at p
  refine ⟨fun n σ' H' => ∃ F' m' A' env', Rl K ca F' m' A' H' ∧ Slt K ca F' m' σ' env' ∧ PoS K ca F' m' H' W Dn (whN ft f n env' A'), ⟨n, F, m, A, env, R, S, p⟩, ?_⟩
  rintro n σ' H' ⟨F', m', A', env', R', S', p'⟩
  cases n with
  | zero => exact p'.elim
  | succ n =>
    unfold whN at p'
    refine ofT_bind ht R' S' p' fun F1 m1 A1 H1 c R1 g1 S1 p1 => ?_
    cases c with
    | false => exact p1 F1 m1 σ' H1 R1 Stp.refl S1
    | true =>
      refine ⟨fun σ2 H2 => ∃ F2 m2 A2 env2, Rl K ca F2 m2 A2 H2 ∧ Slt K ca F2 m2 σ2 env2 ∧ PoS K ca F2 m2 H2 W Dn (whN ft f n env2 A2), fun σ2 H2 z => ⟨n, Nat.lt_succ_self n, z⟩, ?_⟩
      refine h F1 m1 A1 σ' H1 env' _ R1 S1 ?_
      simp only [if_true] at p1
      cases q : f env' A1 with
      | nx e A2 => rw [q] at p1; exact fun F2 m2 σ2 H2 R2 g2 S2 => ⟨F2, m2, A2, e, R2, S2, PoS.stp p1 g2⟩
      | ct e A2 => rw [q] at p1; exact fun F2 m2 σ2 H2 R2 g2 S2 => ⟨F2, m2, A2, e, R2, S2, PoS.stp p1 g2⟩
      | bk e A2 => rw [q] at p1; exact p1
      | rt d A2 => rw [q] at p1; exact p1
      | exc C e A2 => rw [q] at p1; exact p1
      | stuck => rw [q] at p1; exact p1
/-- what is walked -/
def PoW (K : PySem.W.Frag) (ca : CaT) (F : Hp) (m : List Addr) (H : Hp) (W : WX) (σ : L2.St) (R : It → Hp → Prop) : RE Wk → Prop
  | .ok k A' => ∀ J F' m' H', Rl K ca F' m' A' H' → Stp F m H F' m' H' → (∃ (G : Hp → Prop) (Y : Nat → Hp → V → Hp → Prop), Walk J k.ds.length G Y ∧
      (∀ F2 m2 A2 H2, k.gd A2 → Rl K ca F2 m2 A2 H2 → Stp F' m' H' F2 m2 H2 → G H2) ∧
      ∀ i d x F2 m2 A2 H2 H3, k.ds[i]? = some d → k.gd A2 → Rl K ca F2 m2 A2 H2 → Stp F' m' H' F2 m2 H2 → Y i H2 x H3 → (H3 = H2 ∧ Rep K ca F2 m2 x d) ∨ (∃ T vs l, d = .tup l ∧ x = .ref T ∧ H2 T = none ∧ H3 = upd H2 T (.tup vs) ∧ RepL K ca F2 m2 vs l) ∨ (∃ T vs l, d = .tup l ∧ x = .ref T ∧ H2 T = some (.tup vs) ∧ H3 = H2 ∧ RepL K ca F2 m2 vs l) ∨ (∃ F3, Rl K ca F3 m2 A2 H3 ∧ Stp F2 m2 H2 F3 m2 H3 ∧ Rep K ca F3 m2 x d)) → R J H'
  | .exc C A' => ∀ F' m' H', Rl K ca F' m' A' H' → Stp F m H F' m' H' → W (.ref (ca C)) none σ H'
  | .stuck => False
def SimI (K : PySem.W.Frag) (ca : CaT) (W : WX) (wi : TI) (f : Sl → Hs → RE Wk) : Prop := ∀ F m A σ H env R, Rl K ca F m A H → Slt K ca F m σ env → PoW K ca F m H W σ R (f env A) → wi σ H R
theorem ss_for {wi : TI} {w : Sl → Hs → RE Wk} {g : TG} {gf : G} {js : List Nat} (hi : SimI K ca W wi w) (hg : SimG K ca g gf js) (h : SimS K ca W s f) : SimS K ca W (tFor wi g s) (sFor w gf f) := fun F m A σ H env Dn R S p => by
  refine hi F m A σ H env _ R S ?_
  unfold sFor at p
  cases q : w env A with
  | stuck => rw [q] at p; exact p
  | exc C A1 => rw [q] at p; exact fun F1 m1 H1 R1 g1 => p F1 m1 σ H1 R1 g1 (S.stp g1)
  | ok k A1 =>
    rw [q] at p
    rintro J F1 m1 H1 R1 g1 ⟨G, Y, wk, hG, hY⟩
    refine for_it wk (fun i σ' H' => ∃ F' m' A' env', Rl K ca F' m' A' H' ∧ Slt K ca F' m' σ' env' ∧ Stp F1 m1 H1 F' m' H' ∧ PoS K ca F' m' H' W Dn (forL gf f k.gd (k.ds.drop i) env' A')) ⟨F1, m1, A1, env, R1, S.stp g1, Stp.refl, PoS.stp p g1⟩ ?_ ?_ ?_
    · rintro i σ' H' hi ⟨F', m', A', env', R', S', g', p'⟩
      refine hG F' m' A' H' ?_ R' g'
      cases z : k.ds.drop i with
      | nil => rw [z] at p'; unfold forL at p'; split at p'; assumption; exact p'.elim
      | cons d ds => rw [z] at p'; unfold forL at p'; split at p'; assumption; exact p'.elim
    · rintro i x σ2 H2 H3 hlt ⟨F2, m2, A2, env2, R2, S2, g2, p2⟩ y
      rw [List.drop_eq_getElem_cons hlt] at p2
      have gd2 : k.gd A2 := by
        by_cases z : k.gd A2
        · exact z
        · unfold forL at p2; rw [if_neg z] at p2; exact p2.elim
      have st3 : ∃ F3, Rl K ca F3 m2 A2 H3 ∧ Stp F2 m2 H2 F3 m2 H3 ∧ Rep K ca F3 m2 x k.ds[i] := by
        rcases hY i k.ds[i] x F2 m2 A2 H2 H3 (by simp [hlt]) gd2 R2 g2 y with ⟨e, rp⟩ | ⟨T, vs, l, q1, q2, q3, q4, q5⟩ | ⟨T, vs, l, q1, q2, q3, q4, q5⟩ | w3
        · subst e; exact ⟨F2, R2, Stp.refl, rp⟩
        · subst q4
          rw [q1, q2]
          obtain ⟨R3, g3⟩ := R2.new (u := .tup vs) q3
          exact ⟨_, R3, g3, .tup upd_same (q5.mono g3.ff g3.mm)⟩
        · subst q4
          rw [q1, q2]
          obtain ⟨F3, R3, g3, hT⟩ := R2.catch q3
          exact ⟨F3, R3, g3, .tup hT (q5.mono g3.ff g3.mm)⟩
        · exact w3
      obtain ⟨F3, R3, g3, rp⟩ := st3
      have p3 := PoS.stp p2 g3
      unfold forL at p3
      rw [if_pos gd2] at p3
      cases z : gf k.ds[i] env2 A2 with
      | none => rw [z] at p3; exact p3.elim
      | some env3 =>
        rw [z] at p3
        refine hg F3 m2 A2 σ2 H3 env2 x k.ds[i] env3 R3 (S2.stp g3) rp z _ fun σ3 S3 _ _ => ?_
        refine h F3 m2 A2 σ3 H3 env3 _ R3 S3 ?_
        cases y : f env3 A2 with
        | nx e A4 => simp only [y] at p3; exact fun F4 m4 σ4 H4 R4 g4 S4 => ⟨F4, m4, A4, e, R4, S4, (g2.trans g3).trans g4, PoS.stp p3 g4⟩
        | ct e A4 => simp only [y] at p3; exact fun F4 m4 σ4 H4 R4 g4 S4 => ⟨F4, m4, A4, e, R4, S4, (g2.trans g3).trans g4, PoS.stp p3 g4⟩
        | bk e A4 => simp only [y] at p3; exact p3
        | rt d A4 => simp only [y] at p3; exact p3
        | exc C e A4 => simp only [y] at p3; exact p3
        | stuck => simp only [y] at p3; exact p3
    · rintro σ' H' ⟨F', m', A', env', R', S', g', p'⟩
      rw [List.drop_length] at p'
      unfold forL at p'
      split at p'
      · exact p' F' m' σ' H' R' Stp.refl S'
      · exact p'.elim
end
end SM

/-! ## comprehensions, new instances, methods, defs -/
namespace SM
open PySem L2
open DL (Ex ExK)
section
variable {K : PySem.W.Frag} {ca : CaT} {F F1 F2 H H1 H2 : Hp} {m m1 m2 : List Addr} {A A1 A2 : Hs} {σ : L2.St} {env : Sl} {W : WX}
variable {ta tb tc te : TE} {a b c : E} {i : Nat} {d : D} {t u : TT} {ft fu : Tt} {ts : TA} {as : As} {x : V} {dx : D} {C : String} {fs : List (String × D)} {cs : List String}
theorem Slt.wiped (S : Slt K ca F m σ env) : ∀ vs : List Nat, Slt K ca F m (L2.wipe σ vs) (wipeS env vs)
  | [] => S
  | v :: vs => (Slt.wiped S vs).unset
theorem wipe_same {σ : L2.St} {σ2 : L2.St} {vs js : List Nat} (hj : ∀ j ∈ js, j ∈ vs) (l4 : σ2.length = (L2.wipe σ vs).length) (q4 : ∀ i : Nat, i ∉ js → σ2[i]? = (L2.wipe σ vs)[i]?) : L2.wipe σ2 vs = L2.wipe σ vs := by
  have len : ∀ (a : L2.St) (us : List Nat), (L2.wipe a us).length = a.length := fun a us => wipe_length a us
  have inn : ∀ (a : L2.St) (us : List Nat) (n : Nat), n ∈ us → n < a.length → (L2.wipe a us)[n]? = some none := fun a us => by
    induction us with
    | nil => intro n h _; simp at h
    | cons v us ih =>
      intro n h hl
      unfold L2.wipe
      by_cases z : v = n
      · subst z; rw [List.getElem?_set_self (by rw [len]; exact hl)]
      · rw [List.getElem?_set_ne z]
        exact ih n (by simp only [List.mem_cons] at h; rcases h with h | h; exact absurd h.symm z; exact h) hl
  apply List.ext_getElem?
  intro n
  by_cases z : n ∈ vs
  · by_cases hl : n < σ.length
    · rw [inn σ2 vs n z (by rw [l4, len]; exact hl), inn σ vs n z hl]
    · rw [List.getElem?_eq_none (by rw [len, l4, len]; omega), List.getElem?_eq_none (by rw [len]; omega)]
  · rw [DL.wipe_out z, q4 n (fun y => z (hj n y)), DL.wipe_out z]
theorem se_lc {wi : TI} {w : Sl → Hs → RE Wk} {g : TG} {gf : G} {js vs : List Nat} {W2 : WX} (hi : SimI K ca W wi w) (hg : SimG K ca g gf js) (hj : ∀ j ∈ js, j ∈ vs) (ht : SimT K ca W2 t ft) (ha : SimE K ca W2 ta a) : SimE K ca W (tLc wi g t ta vs) (eLc w gf ft a vs) := fun F m A σ H env Q R S p => by
  refine hi F m A σ H env _ R S ?_
  unfold eLc at p
  cases q : w env A with
  | stuck => rw [q] at p; exact p
  | exc C A1 => rw [q] at p; exact p
  | ok k A1 =>
    rw [q] at p
    rintro J F1 m1 H1 R1 g1 ⟨G, Y, wk, hG, hY⟩ Dl hD
    have p := Po.stp (r := match lcL gf ft a k.gd (wipeS env vs) k.ds [] A1 with
      | .ok l A2 => alloc A2 (.lst l)
      | _ => .stuck) p g1
    obtain ⟨R2, g2⟩ := R1.newH (u := .lst []) hD
    -- the plain run from turn i
    let run := fun (i : Nat) (acc : List D) (A' : Hs) => match lcL gf ft a k.gd (wipeS env vs) (k.ds.drop i) acc A' with
      | .ok l A2 => alloc A2 (.lst l)
      | _ => RE.stuck
    refine lc_it wk (fun i H' => ∃ F' m' A' acc ws, Rl K ca F' m' A' H' ∧ Stp F1 m1 H1 F' m' H' ∧ H' Dl = some (.lst ws) ∧ Dl ∉ m' ∧ F' Dl = none ∧ RepL K ca F' m' ws acc ∧ Po K ca (Rep K ca) F1 m1 H1 W σ Q (run i acc A')) ?_ ?_ ?_ ?_
    · exact ⟨F1, m1, A1, [], [], R2, g2, upd_same, R1.out hD, R1.fh.back hD, .nil, p⟩
    · rintro i H' hi ⟨F', m', A', acc, ws, R', g', d1, d2, d3, rs, p'⟩
      refine hG F' m' A' H' ?_ R' g'
      show k.gd A'
      dsimp only [run] at p'
      cases z : k.ds.drop i with
      | nil =>
        rw [z] at p'; unfold lcL at p'
        by_cases y : k.gd A'
        · exact y
        · rw [if_neg y] at p'; exact p'.elim
      | cons d ds =>
        rw [z] at p'; unfold lcL at p'
        by_cases y : k.gd A'
        · exact y
        · rw [if_neg y] at p'; exact p'.elim
    · rintro i x H2 H3 hlt ⟨F2, m2, A2, acc, ws, R2, g2, d1, d2, d3, rs, p2⟩ y
      have gd2 : k.gd A2 := by
        dsimp only [run] at p2
        rw [List.drop_eq_getElem_cons hlt] at p2
        by_cases z : k.gd A2
        · exact z
        · unfold lcL at p2; rw [if_neg z] at p2; exact p2.elim
      have st3 : ∃ F3, Rl K ca F3 m2 A2 H3 ∧ Stp F2 m2 H2 F3 m2 H3 ∧ Rep K ca F3 m2 x k.ds[i] ∧ H3 Dl = some (.lst ws) ∧ F3 Dl = none := by
        rcases hY i k.ds[i] x F2 m2 A2 H2 H3 (by simp [hlt]) gd2 R2 g2 y with ⟨e, rp⟩ | ⟨T, us, l, q1, q2, q3, q4, q5⟩ | ⟨T, us, l, q1, q2, q3, q4, q5⟩ | ⟨F3, R3, g3, rp⟩
        · subst e; exact ⟨F2, R2, Stp.refl, rp, d1, d3⟩
        · subst q4
          rw [q1, q2]
          obtain ⟨R3, g3⟩ := R2.new (u := .tup us) q3
          have nT : Dl ≠ T := fun z => by rw [← z, d1] at q3; cases q3
          exact ⟨_, R3, g3, .tup upd_same (q5.mono g3.ff g3.mm), by rw [upd_ne nT]; exact d1, by rw [upd_ne nT]; exact d3⟩
        · subst q4
          rw [q1, q2]
          obtain ⟨F3, R3, g3, hT⟩ := R2.catch q3
          refine ⟨F3, R3, g3, .tup hT (q5.mono g3.ff g3.mm), d1, ?_⟩
          cases w : F3 Dl with
          | none => rfl
          | some v => have := R3.fh Dl v w; rw [d1] at this; cases this; exact (g3.gn Dl (by rw [w]; simp)).elim (fun z => absurd d3 z) fun z => z.elim (fun z => (z.no d1 trivial).elim) fun ⟨xs, z⟩ => by rw [w] at z; cases z
        · have d1' : H3 Dl = some (.lst ws) := g3.kp Dl _ d1 d2 (fun ps z => by cases z)
          refine ⟨F3, R3, g3, rp, d1', ?_⟩
          cases w : F3 Dl with
          | none => rfl
          | some v => have := R3.fh Dl v w; rw [d1'] at this; cases this; exact (g3.gn Dl (by rw [w]; simp)).elim (fun z => absurd d3 z) fun z => z.elim (fun z => (z.no d1 trivial).elim) fun ⟨xs, z⟩ => by rw [w] at z; cases z
      obtain ⟨F3, R3, g3, rp, e1, e3⟩ := st3
      have rs3 := rs.mono g3.ff g3.mm
      have p3 := p2
      dsimp only [run] at p3
      rw [List.drop_eq_getElem_cons hlt] at p3
      unfold lcL at p3
      by_cases gd : k.gd A2
      · rw [if_pos gd] at p3
        cases z : gf k.ds[i] (wipeS env vs) A2 with
        | none => rw [z] at p3; exact p3.elim
        | some env3 =>
          rw [z] at p3
          have S3 := (((S.stp g1).stp g2).stp g3).wiped vs
          refine hg F3 m2 A2 (L2.wipe σ vs) H3 _ x k.ds[i] env3 R3 S3 rp z _ fun σ3 S4 l4 k4 => ?_
          refine ⟨wipe_same hj l4 k4, ?_⟩
          -- what a step keeps of the new list
          have keep : ∀ {F' m' A' H'}, Rl K ca F' m' A' H' → Stp F3 m2 H3 F' m' H' → H' Dl = some (.lst ws) ∧ Dl ∉ m' ∧ F' Dl = none := fun R' g' => by
            have h1 := g'.kp Dl _ e1 d2 (by intro _ z; cases z)
            refine ⟨h1, fun z => ?_, ?_⟩
            · rcases g'.gm Dl z with y | y
              · exact d2 y
              · exact y.no e1 trivial
            · rename_i F' m' A' H'
              cases w : F' Dl with
              | none => rfl
              | some v =>
                rcases g'.gn Dl (by rw [w]; simp) with y | y | ⟨xs, y⟩
                · exact absurd e3 y
                · exact (y.no e1 trivial).elim
                · have := R'.fh Dl _ y
                  rw [h1] at this; cases this
          refine ht F3 m2 A2 σ3 H3 env3 _ R3 S4 ?_
          cases y : ft env3 A2 with
          | stuck => simp only [y] at p3; exact p3.elim
          | exc C A4 => simp only [y] at p3; exact p3.elim
          | ok bb A4 =>
            intro v F4 m4 H4 R4 g4 ev
            cases (show v = bb from ev)
            cases bb with
            | false =>
              simp only [y] at p3
              obtain ⟨f1, f2, f3⟩ := keep R4 g4
              exact ⟨F4, m4, A4, acc, ws, R4, (g2.trans g3).trans g4, f1, f2, f3, rs3.mono g4.ff g4.mm, p3⟩
            | true =>
              simp only [y] at p3
              have p4 := p3
              refine ha F4 m4 A4 σ3 H4 env3 _ R4 (S4.stp g4) ?_
              cases y2 : a env3 A4 with
              | stuck => simp only [y2] at p4; exact p4.elim
              | exc C A5 => simp only [y2] at p4; exact p4.elim
              | ok dz A5 =>
                simp only [y2] at p4
                by_cases hl : acc.length < sizeLine
                · rw [if_pos hl] at p4
                  intro v F5 m5 H5 R5 g5 rv
                  obtain ⟨f1, f2, f3⟩ := keep R5 (g4.trans g5)
                  refine ⟨ws, f1, by rw [rs.length]; exact hl, ?_⟩
                  have rs5 := rs3.mono (g4.trans g5).ff (g4.trans g5).mm
                  -- the new list grows
                  have ne : ∀ a, a ∈ m5 → a ≠ Dl := fun a ha z => f2 (by rw [← z]; exact ha)
                  have R6 : Rl K ca F5 m5 A5 (upd H5 Dl (.lst (ws ++ [v]))) := ⟨R5.fh.right f3, R5.len, R5.nd, R5.fr, fun j o b h1 h2 => (R5.ob j o b h1 h2).mono (Ex.refl _) (Pre.refl _) fun w hw => by
                    rw [upd_ne (ne b (List.mem_of_getElem? h2))]; exact hw, tabs_upd R5.tb f1 trivial, R5.ft⟩
                  have nD0 : H1 Dl = none := hD
                  have gA : Stp F1 m1 H1 F5 m5 H5 := ((g2.trans g3).trans g4).trans g5
                  have gB : Stp F1 m1 H1 F5 m5 (upd H5 Dl (.lst (ws ++ [v]))) := ⟨gA.ff, gA.mm, fun b w h n nt => by
                      rw [upd_ne fun z => by rw [z, nD0] at h; cases h]; exact gA.kp b w h n nt, gA.gn, gA.gm, fun b h => by
                      by_cases w : b = Dl
                      · rw [w]; exact .none nD0
                      · exact gA.th b (h.back fun u hu => by rw [upd_ne w]; exact hu), fun b od w h => by
                      rw [upd_ne fun z => by rw [z, nD0] at h; cases h]; exact gA.fz b od w h⟩
                  refine ⟨F5, m5, A5, acc ++ [dz], ws ++ [v], R6, gB, upd_same, f2, f3, rs5.append (.cons rv .nil), p4⟩
                · rw [if_neg hl] at p4; exact p4.elim
      · rw [if_neg gd] at p3; exact p3.elim
    · rintro H' ⟨F', m', A', acc, ws, R', g', d1, d2, d3, rs, p'⟩
      dsimp only [run] at p'
      rw [List.drop_length] at p'
      unfold lcL at p'
      by_cases gd : k.gd A'
      · rw [if_pos gd] at p'
        have R2 := R'.take (o := .lst acc) d2 d3 ⟨ws, d1, rs.mono (Ex.refl _) ⟨_, rfl⟩⟩
        refine p' (.ref Dl) F' (m' ++ [Dl]) H' R2 ⟨g'.ff, g'.mm.trans ⟨_, rfl⟩, g'.kp, g'.gn, fun b h => ?_, g'.th, g'.fz⟩ (.ref (by rw [List.getElem?_append_right (by rw [R'.len]; exact Nat.le_refl _), R'.len]; simp))
        rcases List.mem_append.mp h with z | z
        · exact g'.gm b z
        · rw [List.mem_singleton] at z; rw [z]; exact .inr (.none hD)
      · rw [if_neg gd] at p'; exact p'.elim

/-! ### new instances -/
theorem make_sim {f : Fn} {vs : List V} {ds : List D} {Q : VK} {X : XK} {x dx : Addr} (R1 : Rl K ca F m A H) (rs : RepL K ca F m vs ds) (hx : H x = none) (hdx : H dx = none) (hne : dx ≠ x) (p : PoF K ca F m H Q X (make C f ds A)) :
    SpF K ca f (.ref x :: vs) (upd (upd H dx (.own x)) x (.ins (ca C) dx [])) (fun v H2 => v = .non ∧ Q (.ref x) H2) X := by
  obtain ⟨R2, g2⟩ := R1.newH (u := .own x) hdx
  have hx2 : (upd H dx (.own x)) x = none := by rw [upd_ne (Ne.symm hne)]; exact hx
  obtain ⟨R3, g3, r3⟩ := R2.alloc (u := .ins (ca C) dx []) (o := .obj C []) hx2 ⟨dx, [], upd_same, .nil⟩
  have g := g2.trans g3
  refine ⟨F, m ++ [x], A ++ [.obj C []], .ref A.length :: ds, R3, .cons r3 (rs.mono g.ff g.mm), ?_⟩
  unfold make at p
  cases q : f (.ref A.length :: ds) (A ++ [.obj C []]) with
  | stuck => rw [q] at p; exact p
  | exc Ce A2 => rw [q] at p; exact fun F' m' H' R' g' => p F' m' H' R' (g.trans g')
  | ok d A2 =>
    rw [q] at p
    intro v F' m' H' R' g' rv
    cases rv with
    | non => exact ⟨rfl, p (.ref x) F' m' H' R' (g.trans g') (r3.mono g'.ff g'.mm)⟩
    | _ => exact p.elim
theorem se_make {f : Fn} (hs : SimA K ca W ts as) : SimE K ca W (tMakeS (ca C) (SpF K ca f) (WE W) ts) (eMake C f as) := fun F m A σ H env Q R S p =>
  hs.bind R S p fun F1 m1 A1 H1 xs ds R1 g1 S1 rs p1 => fun x dx hx hdx hne => make_sim R1 rs hx hdx hne (pof_po p1)
/-! ### methods, by the classes at hand -/
theorem methX_sim {f : Fn} {mm : String} {mm' : Str} {Q : VK} {X : XK} (hf : mm' = fS mm) (R : Rl K ca F m A H) (S : Slt K ca F m σ env) (hs : SimA K ca W ts as) (rx : Rep K ca F m x dx) {fs : List (String × D)} (ho : objAt A dx = some (C, fs)) (hn : fs.lookup mm = none)
    {k : RE D → RE D} (hk : ∀ {F1 m1 H1 r}, Po K ca (Rep K ca) F1 m1 H1 W σ Q (k r) → PoF K ca F1 m1 H1 Q X r)
    (p : Po K ca (Rep K ca) F m H W σ Q ((as env A).bind fun ds A2 => k (f (dx :: ds) A2))) : ∃ a dxx kvs, x = .ref a ∧ H a = some (.ins (ca C) dxx kvs) ∧ kvs.lookup mm' = none ∧ ts σ H fun vs H2 => SpF K ca f (x :: vs) H2 Q X := by
  obtain ⟨i, a, dxx, kvs, e1, e2, h1, h2, h3, h4⟩ := obj_at R rx ho
  refine ⟨a, dxx, kvs, e2, h3, by rw [hf]; exact (fS_look (f := mm) h4).2 hn, ?_⟩
  exact hs.bind R S p fun F1 m1 A1 H1 xs ds R1 g1 S1 rs p1 => ⟨F1, m1, A1, dx :: ds, R1, .cons (rx.mono g1.ff g1.mm) rs, hk p1⟩
theorem methOf_one {mm : String} {C : String} {f f' : Fn} {A : Hs} {x : D} (q : methOf mm [(C, f)] A x = some f') : f' = f ∧ ∃ fs, objAt A x = some (C, fs) ∧ fs.lookup mm = none := by
  unfold methOf at q
  cases z : objAt A x with
  | none => rw [z] at q; cases q
  | some w =>
    obtain ⟨C', fs⟩ := w
    rw [z] at q
    simp only at q
    split at q
    · cases q
    · rename_i hn
      rw [List.lookup_cons] at q
      cases y : (C' == C) with
      | false => rw [y] at q; cases q
      | true =>
        rw [y] at q
        cases q
        have e := eq_of_beq y
        subst e
        exact ⟨rfl, fs, rfl, by cases w : fs.lookup mm with
          | none => rfl
          | some _ => rw [w] at hn; exact absurd rfl hn⟩
theorem meth_one {mm : String} {mm' : Str} {f : Fn} (hf : mm' = fS mm) (ho : SimE K ca W ta a) (hs : SimA K ca W ts as) : SimE K ca W (tMethX (ca C) mm' (SpF K ca f) (WE W) ta ts) (eMeth mm [(C, f)] a as) := fun F m A σ H env Q R S p =>
  ho.bind R S p fun F1 m1 A1 H1 x dx R1 g1 S1 rx p1 => by
    cases q : methOf mm [(C, f)] A1 dx with
    | none => simp only [q] at p1; exact p1.elim
    | some f' =>
      simp only [q] at p1
      obtain ⟨rfl, fs, z, hn⟩ := methOf_one q
      exact methX_sim (k := fun r => r) hf R1 S1 hs rx z hn pof_po p1
end

/-! ### defs -/
section
variable {P : Program} {w : World} {K : PySem.W.Frag} {ca : CaT} {mg : Str → Option Value} {base : Heap} {x qn : Str} {st : Stmt} {fa : Addr} {fd : FuncData} {N ps : List Str} {k : Nat}
theorem spF_len {n mm : Nat} {b : S} {vs : List V} {H : Hp} {Q : VK} {E : XK} (h : SpF K ca (mkFn n mm b) vs H Q E) : vs.length = n := by
  obtain ⟨F, m, A, ds, R, rs, p⟩ := h
  rw [rs.length]
  unfold mkFn at p
  split at p
  · assumption
  · exact p.elim
theorem run_SpF {n : Nat} {b : S} {t : TS} {vs : List V} {H : Hp} {Q : VK} {E : XK} (h : SpF K ca (mkFn n N.length b) vs H Q E) (hb : SimS K ca (fun cls d _ H => E cls d H) t b) : t { nx := fun _ H' => Q .non H', rt := Q } (L2.start N vs) H := by
  have hl := spF_len h
  obtain ⟨F, m, A, ds, R, rs, p⟩ := h
  have hn : ds.length = n := by rw [← rs.length, hl]
  unfold mkFn at p
  rw [if_pos hn] at p
  have S : Slt K ca F m (L2.start N vs) (ds.map some ++ List.replicate (N.length - n) none) := by
    refine ⟨by unfold L2.start; simp [hl, hn], fun i d h => ?_⟩
    by_cases hi : i < ds.length
    · rw [List.getElem?_append_left (by simpa using hi), List.getElem?_map] at h
      cases z : ds[i]? with
      | none => rw [z] at h; cases h
      | some d' =>
        rw [z] at h; cases h
        obtain ⟨v, h1, h2⟩ := rs.get z
        refine ⟨v, ?_, h2⟩
        unfold L2.start
        have hv : i < vs.length := (List.getElem?_eq_some_iff.mp h1).1
        rw [List.getElem?_append_left (by simpa using hv), List.getElem?_map, h1]; rfl
    · rw [List.getElem?_append_right (by simpa using Nat.le_of_not_lt hi)] at h
      obtain ⟨h1, h2⟩ := List.getElem?_eq_some_iff.mp h
      rw [List.getElem_replicate] at h2
      cases h2
  refine hb F m A _ H _ _ R S ?_
  cases q : b (ds.map some ++ List.replicate (N.length - n) none) A with
  | nx e A' => rw [q] at p; exact fun F' m' σ' H' R' g' S' => p .non F' m' H' R' g' .non
  | rt d A' => rw [q] at p; exact p
  | exc C e A' => rw [q] at p; exact fun F' m' σ' H' R' g' S' => p F' m' H' R' g'
  | bk e A' => rw [q] at p; exact p.elim
  | ct e A' => rw [q] at p; exact p.elim
  | stuck => rw [q] at p; exact p.elim
/-- a def that may raise -/
theorem Fn.ofF {n : Nat} {b : S} (F : Fun K x qn st fa fd) (S : FnScope N ps (defScope st)) (hn : ps.length = n)
    (body : ∀ (cdv : Value) (A : Around) (outer : List PySem.Env) (s : Shared) (H : Hp) (E : XK), Room k (A.deeper (PyProof.Rows.envOfC qn (defScope st) s.heap.objs.size fa cdv)) →
      ∃ t, PSs (cxOf (L2.CX P w) P w K mg base N qn (defScope st) fa cdv A outer s H E) (defBody st) t ∧ SimS K ca (fun cls d _ H => E cls d H) t b) : FnOk P w K mg base (L2.CX P w) (k + 1) fa fd ps (SpF K ca (mkFn n N.length b)) :=
  F.okX S (fun vs H Q E h => by rw [hn]; exact spF_len h) fun cdv A outer s H vs Q E hr h => by
    obtain ⟨t, h1, h2⟩ := body cdv A outer s H E hr
    exact ⟨t, h1, run_SpF h h2⟩
/-- a def that lets nothing out -/
theorem Fn.ofF0 {n : Nat} {b : S} (F : Fun K x qn st fa fd) (S : FnScope N ps (defScope st)) (hn : ps.length = n)
    (body : ∀ (cdv : Value) (A : Around) (outer : List PySem.Env) (s : Shared) (H : Hp) (E : XK), Room k (A.deeper (PyProof.Rows.envOfC qn (defScope st) s.heap.objs.size fa cdv)) →
      ∃ t, PSs (cxOf CX0 P w K mg base N qn (defScope st) fa cdv A outer s H E).nox (defBody st) t ∧ SimS K ca (fun cls d _ H => E cls d H) t b) : FnOk P w K mg base CX0 (k + 1) fa fd ps (SpF K ca (mkFn n N.length b)) :=
  F.ok S (fun vs H Q E h => by rw [hn]; exact spF_len h) fun cdv A outer s H vs Q E hr h => by
    obtain ⟨t, h1, h2⟩ := body cdv A outer s H E hr
    exact ⟨t, h1, run_SpF h h2⟩
end
/-! ### methods by name -/
structure Mt (P : Program) (w : World) (K : PySem.W.Frag) (mg : Str → Option Value) (base : Heap) (k : Nat) (C : Addr) (mm : Str) (sp : Sp) : Prop where
  ex : ∃ (f : Addr) (fd : FuncData) (ps : List Str), Meth K C mm f ∧ FnOk P w K mg base (L2.CX P w) k f fd ps sp ∧ Binds K fd ps []
theorem Mt.of {P : Program} {w : World} {K : PySem.W.Frag} {mg : Str → Option Value} {base : Heap} {k : Nat} {C fa : Addr} {mm : Str} {fd : FuncData} {ps : List Str} {sp : Sp} (M : Meth K C mm fa) (h : FnOk P w K mg base (L2.CX P w) k fa fd ps sp) (b : Binds K fd ps []) : Mt P w K mg base k C mm sp := ⟨fa, fd, ps, M, h, b⟩
section
variable {X : Cx} {W : WX} {k j : Nat} {x mm : Str} {C : Addr} {sp : Sp} {p pos apos : Pos} {o e : Expr} {es : List Expr} {t : TA} {ta : TE}
theorem pe_mtX {pl : Sem Bool} (c : Mt X.prog X.w X.K X.mg X.base k C mm sp) (tk : Takes X W) (hr : Room j X.A) (hk : k ≤ j) (cl : Cls X.K C) (he : PE X o ta) (ha : PA X (e :: es) t)
    (hst : starEach (e :: es) X.env = (false, eval e X.env) :: starEach es X.env := by rfl) (hpl : (backTo pos (starEach es X.env)).any (·.1) = false := by rfl)
    (ht : eval (.Call (.Attribute o mm apos) (e :: es) [] pos) X.env = (do
      let ov ← eval o X.env
      standAt apos.atName
      let (f, first) ← holding [ov] (getMethod ov mm pl)
      callWith pos f first (backTo pos (starEach (e :: es) X.env)) (backToKw pos (keywordEach [] X.env))) := by rfl) :
    PE X (.Call (.Attribute o mm apos) (e :: es) [] pos) (tMethX C mm sp (WE W) ta t) := by
  obtain ⟨f, fd, ps, M, F, b⟩ := c.ex
  exact pe_methX he cl M F (hr.mono hk) b (fun σ => passAt tk σ) ha hst hpl ht
theorem pe_mtX0 {pl : Sem Bool} (c : Mt X.prog X.w X.K X.mg X.base k C mm sp) (tk : Takes X W) (hr : Room j X.A) (hk : k ≤ j) (cl : Cls X.K C) (he : PE X o ta)
    (ht : eval (.Call (.Attribute o mm apos) [] [] pos) X.env = (do
      let ov ← eval o X.env
      standAt apos.atName
      let (f, first) ← holding [ov] (getMethod ov mm pl)
      callWith pos f first (backTo pos (starEach [] X.env)) (backToKw pos (keywordEach [] X.env))) := by rfl) :
    PE X (.Call (.Attribute o mm apos) [] [] pos) (tMethX C mm sp (WE W) ta tNil) := by
  obtain ⟨f, fd, ps, M, F, b⟩ := c.ex
  exact pe_methX0 he cl M F (hr.mono hk) b (fun σ => passAt tk σ) ht
open DL (Dx)
end
end SM

/-! ## == and in, of data of any texts -/
namespace L2
open PySem PySem.Spec PyProof.Rows
/-- two lists of different lengths -/
def UnL (H : Hp) (x y : V) : Prop := ∃ a b xs ys, x = .ref a ∧ y = .ref b ∧ H a = some (.lst xs) ∧ H b = some (.lst ys) ∧ xs.length ≠ ys.length
def rEqP (K : PySem.W.Frag) : R2 := fun x y H Q => (∃ d e, Dp K H x d ∧ Dp K H y e ∧ d.plain = true ∧ e.plain = true ∧ d.depth ≤ 60 ∧ Q (.bl (PyData.eqv d e)) H) ∨ (UnL H x y ∧ Q (.bl false) H)
def rNeP (K : PySem.W.Frag) : R2 := fun x y H Q => (∃ d e, Dp K H x d ∧ Dp K H y e ∧ d.plain = true ∧ e.plain = true ∧ d.depth ≤ 60 ∧ Q (.bl (!PyData.eqv d e)) H) ∨ (UnL H x y ∧ Q (.bl true) H)
theorem op_eqP {X : Cx} (hu : X.A.units + 64 < cLine) : OpR X (compareOp .Eq) (rEqP X.K) := by
  intro pins s σ H x y v u Q I rx ry h
  rcases h with ⟨d, e, hd, he, sd, se, dp, q⟩ | ⟨⟨a, b, xs, ys, rfl, rfl, ha, hb, hl⟩, q⟩
  · obtain ⟨as, r1⟩ := Dp.reads I d x v hd rx
    obtain ⟨bs, r2⟩ := Dp.reads I e y u he ry
    exact PySem.SeqAt.eq_plain r1 r2 sd se (by omega) ⟨.bl _, H, I, rfl, q⟩
  · cases (show v = Value.ref a from rx)
    cases (show u = Value.ref b from ry)
    obtain ⟨us, r1, p1, _⟩ := I.list (.inl (.inl ha))
    obtain ⟨ws, r2, p2, _⟩ := I.list (.inl (.inl hb))
    refine PySem.SeqAt.eq_list_lengthsAt p1.isList p2.isList ?_ (by omega) ⟨.bl _, H, I, rfl, q⟩
    rw [List.size_toArray, List.size_toArray, ← r1.length, ← r2.length]
    simpa using hl
theorem op_neP {X : Cx} (hu : X.A.units + 64 < cLine) : OpR X (compareOp .NotEq) (rNeP X.K) := by
  intro pins s σ H x y v u Q I rx ry h
  rcases h with ⟨d, e, hd, he, sd, se, dp, q⟩ | ⟨⟨a, b, xs, ys, rfl, rfl, ha, hb, hl⟩, q⟩
  · obtain ⟨as, r1⟩ := Dp.reads I d x v hd rx
    obtain ⟨bs, r2⟩ := Dp.reads I e y u he ry
    exact PySem.SeqAt.ne_plain r1 r2 sd se (by omega) ⟨.bl _, H, I, rfl, q⟩
  · cases (show v = Value.ref a from rx)
    cases (show u = Value.ref b from ry)
    obtain ⟨us, r1, p1, _⟩ := I.list (.inl (.inl ha))
    obtain ⟨ws, r2, p2, _⟩ := I.list (.inl (.inl hb))
    refine PySem.SeqAt.RcNeAt.lists_lengths p1.isList p2.isList ?_ (by omega) X.prog X.w _ _ ⟨.bl _, H, I, rfl, q⟩
    rw [List.size_toArray, List.size_toArray, ← r1.length, ← r2.length]
    simpa using hl
end L2
namespace SM
open PySem L2
open DL (Ex ExK rAddU rSubU rMulA rDivU rModU rPowU rShlU rShrU rAndU rOrU rXorU rLtU rLeU rGtU rGeU rIsU rNotU)

/-! ### data read as Python's -/
def allSome {α : Type} : List (Option α) → Option (List α)
  | [] => some []
  | some a :: r => (allSome r).map (a :: ·)
  | none :: _ => none
def pyA (A : Hs) : Nat → D → Option PyData
  | _, .non => some .none
  | _, .bl b => some (.bool b)
  | _, .int i => some (.int i)
  | _, .str x => some (.str x)
  | n + 1, .tup l => (allSome (l.map (pyA A n))).map .tuple
  | n + 1, .wt l => (allSome (l.map (pyA A n))).map .tuple
  | n + 1, .scr l => (allSome (l.map (pyA A n))).map .list
  | n + 1, .ref i => match A[i]? with
    | some (.lst l) => (allSome (l.map (pyA A n))).map .list
    | _ => none
  | _, _ => none

/-- two lists of different lengths -/
def unL (A : Hs) (x y : D) : Option Bool := match x, y with
  | .ref i, .ref j => match A[i]?, A[j]? with
    | some (.lst l), some (.lst k) => if l.length = k.length then none else some false
    | _, _ => none
  | _, _ => none
def eqA (A : Hs) (x y : D) : Option Bool := match pyA A 40 x, pyA A 40 y with
  | some p, some q => some (PyData.eqv p q)
  | _, _ => unL A x y
def oB (f : Hs → D → D → Option Bool) (x y : D) (A : Hs) : RE D := match f A x y with
  | some b => .ok (.bl b) A
  | none => .stuck
def oEq : D → D → Hs → RE D := oB eqA
def oNe : D → D → Hs → RE D := oB fun A x y => (eqA A x y).map (!·)
section
variable {K : PySem.W.Frag} {ca : CaT} {F F1 F2 H H1 H2 : Hp} {m m1 m2 : List Addr} {A A1 A2 : Hs} {σ : L2.St} {env : Sl} {W : WX} {Q : VK}
theorem dp_all {n : Nat} (R : Rl K ca F m A H) (ih : ∀ {v : V} {d : D} {p : PyData}, Rep K ca F m v d → pyA A n d = some p → Dp K H v p ∧ p.plain = true ∧ p.depth ≤ n) :
    ∀ {vs : List V} {l : List D} {ps : List PyData}, RepL K ca F m vs l → allSome (l.map (pyA A n)) = some ps → DpAll K H vs ps ∧ PyData.plainAll ps = true ∧ PyData.depthAll ps ≤ n
  | _, _, _, .nil, h => by cases h; exact ⟨.nil, rfl, Nat.zero_le _⟩
  | _, _, _, .cons (d := d) (ds := ds) r rs, h => by
    rw [List.map_cons] at h
    cases q : pyA A n d with
    | none => rw [q] at h; cases h
    | some p =>
      rw [q] at h
      unfold allSome at h
      cases q2 : allSome (ds.map (pyA A n)) with
      | none => rw [q2] at h; cases h
      | some ps =>
        rw [q2] at h
        cases h
        obtain ⟨h1, h2, h3⟩ := ih r q
        obtain ⟨g1, g2, g3⟩ := dp_all R ih rs q2
        exact ⟨.cons h1 g1, by unfold PyData.plainAll; rw [h2, g2]; rfl, by unfold PyData.depthAll; omega⟩
theorem dp_of (R : Rl K ca F m A H) : ∀ {n : Nat} {v : V} {d : D} {p : PyData}, Rep K ca F m v d → pyA A n d = some p → Dp K H v p ∧ p.plain = true ∧ p.depth ≤ n := by
  intro n
  induction n with
  | zero =>
    intro v d p r h
    cases r <;> simp [pyA] at h <;> subst h <;> exact ⟨by constructor, rfl, Nat.zero_le _⟩
  | succ n ih =>
    intro v d p r h
    cases r with
    | non => simp [pyA] at h; subst h; exact ⟨.non, rfl, Nat.zero_le _⟩
    | bl b => simp [pyA] at h; subst h; exact ⟨.bl b, rfl, Nat.zero_le _⟩
    | int i => simp [pyA] at h; subst h; exact ⟨.int i, rfl, Nat.zero_le _⟩
    | str x => simp [pyA] at h; subst h; exact ⟨.str x, rfl, Nat.zero_le _⟩
    | ty n => simp [pyA] at h
    | nm x => simp [pyA] at h
    | exc h' => simp [pyA] at h
    | tup s rs =>
      unfold pyA at h
      cases q : allSome (List.map (pyA A n) _) with
      | none => rw [q] at h; cases h
      | some ps =>
        rw [q] at h; cases h
        obtain ⟨h1, h2, h3⟩ := dp_all R ih rs q
        exact ⟨.tup (.inl (.inl (R.fh _ _ s))) h1, h2, by unfold PyData.depth; omega⟩
    | wt s rs =>
      unfold pyA at h
      cases q : allSome (List.map (pyA A n) _) with
      | none => rw [q] at h; cases h
      | some ps =>
        rw [q] at h; cases h
        obtain ⟨h1, h2, h3⟩ := dp_all R ih rs q
        exact ⟨.tup (R.fh.t s) h1, h2, by unfold PyData.depth; omega⟩
    | scr s rs =>
      unfold pyA at h
      cases q : allSome (List.map (pyA A n) _) with
      | none => rw [q] at h; cases h
      | some ps =>
        rw [q] at h; cases h
        obtain ⟨h1, h2, h3⟩ := dp_all R ih rs q
        exact ⟨.lst (R.fh.l s) h1, h2, by unfold PyData.depth; omega⟩
    | ref hm =>
      rename_i a i
      unfold pyA at h
      cases q0 : A[i]? with
      | none => simp [q0] at h
      | some o =>
        cases o with
        | lst l =>
          simp only [q0] at h
          obtain ⟨a', e, ha, vs, h1, h2⟩ := R.at (v := .ref a) q0 (.ref hm)
          cases e
          cases q : allSome (List.map (pyA A n) l) with
          | none => rw [q] at h; cases h
          | some ps =>
            rw [q] at h; cases h
            obtain ⟨h3, h4, h5⟩ := dp_all R ih h2 q
            exact ⟨.lst (.inl (.inl h1)) h3, h4, by unfold PyData.depth; omega⟩
        | dic _ _ _ => simp [q0] at h
        | obj _ _ => simp [q0] at h
theorem po_ok {α β : Type} {Rr : Hp → List Addr → β → α → Prop} {Q : β → Hp → Prop} {v : β} {d : α} (R : Rl K ca F m A H) (r : Rr F m v d) (p : Po K ca Rr F m H W σ Q (.ok d A)) : Q v H := p v F m H R Stp.refl r
theorem unL_of {x y : V} {dx dy : D} {b : Bool} (R : Rl K ca F m A H) (rx : Rep K ca F m x dx) (ry : Rep K ca F m y dy) (h : unL A dx dy = some b) : b = false ∧ UnL H x y := by
  unfold unL at h
  split at h
  · rename_i i j
    cases q1 : A[i]? with
    | none => simp [q1] at h
    | some o1 =>
      cases o1 with
      | lst l =>
        cases q2 : A[j]? with
        | none => simp [q1, q2] at h
        | some o2 =>
          cases o2 with
          | lst k =>
            simp only [q1, q2] at h
            split at h
            · cases h
            · rename_i hn
              obtain ⟨a, e, _, vs, h1, h2⟩ := R.at q1 rx
              obtain ⟨a', e', _, vs', h1', h2'⟩ := R.at q2 ry
              refine ⟨(Option.some.inj h).symm, a, a', vs, vs', e, e', h1, h1', ?_⟩
              rw [h2.length, h2'.length]
              exact hn
          | dic _ _ _ => simp [q1, q2] at h
          | obj _ _ => simp [q1, q2] at h
      | dic _ _ _ => simp [q1] at h
      | obj _ _ => simp [q1] at h
  · cases h
theorem os_eq : OpS K ca (rEqP K) oEq := fun F m A H x y dx dy W σ Q R rx ry p => by
  unfold oEq oB at p
  cases q : eqA A dx dy with
  | none => rw [q] at p; exact p.elim
  | some b =>
    rw [q] at p
    unfold eqA at q
    split at q
    · rename_i p1 p2 q1 q2
      obtain ⟨a1, a2, a3⟩ := dp_of R rx q1
      obtain ⟨b1, b2, b3⟩ := dp_of R ry q2
      cases q
      exact .inl ⟨p1, p2, a1, b1, a2, b2, by omega, po_ok R (.bl _) p⟩
    · obtain ⟨rfl, u⟩ := unL_of R rx ry q
      exact .inr ⟨u, po_ok R (.bl _) p⟩
theorem os_ne : OpS K ca (rNeP K) oNe := fun F m A H x y dx dy W σ Q R rx ry p => by
  unfold oNe oB at p
  cases q : eqA A dx dy with
  | none => simp only [q, Option.map] at p; exact p.elim
  | some b =>
    simp only [q, Option.map] at p
    unfold eqA at q
    split at q
    · rename_i p1 p2 q1 q2
      obtain ⟨a1, a2, a3⟩ := dp_of R rx q1
      obtain ⟨b1, b2, b3⟩ := dp_of R ry q2
      cases q
      exact .inl ⟨p1, p2, a1, b1, a2, b2, by omega, po_ok R (.bl _) p⟩
    · obtain ⟨rfl, u⟩ := unL_of R rx ry q
      exact .inr ⟨u, po_ok R (.bl _) p⟩

/-! ### operators on ints -/
def oII (f : Int → Int → Option D) (x y : D) (A : Hs) : RE D := match x, y with
  | .int i, .int j => match f i j with
    | some d => .ok d A
    | none => .stuck
  | _, _ => .stuck
theorem os_ii {r : R2} {f : Int → Int → Option D} (h : ∀ i j d, f i j = some d → ∃ z, (∀ F m, Rep K ca F m z d) ∧ ∀ H Q, Q z H → r (.int i) (.int j) H Q) : OpS K ca r (oII f) := fun F m A H x y dx dy W σ Q R rx ry p => by
  cases rx with
  | int i =>
    cases ry with
    | int j =>
      unfold oII at p
      simp only at p
      cases q : f i j with
      | none => rw [q] at p; exact p.elim
      | some d =>
        rw [q] at p
        obtain ⟨z, hz, k⟩ := h i j d q
        exact k H Q (po_ok R (hz F m) p)
    | _ => exact p.elim
  | _ => exact p.elim
def oSub := oII fun i j => some (.int (i - j))
def oDiv := oII fun i j => if 0 < j ∧ j.natAbs.log2 < 9000 then some (.int (i / j)) else none
def oMod := oII fun i j => if 0 < j then some (.int (i % j)) else none
open Classical in
noncomputable def oPow := oII fun i j => if CPow i j then some (.int (i ^ j.toNat)) else none
open Classical in
noncomputable def oShl := oII fun i j => if CShl i j then some (.int (i * 2 ^ j.toNat)) else none
def oShr := oII fun i j => if 0 ≤ j then some (.int (i / 2 ^ j.toNat)) else none
def oAnd := oII fun i j => some (.int (Builtin.bitAnd i j))
def oOr := oII fun i j => some (.int (Builtin.bitOr i j))
def oXor := oII fun i j => some (.int (Builtin.bitXor i j))
def oLt := oII fun i j => some (.bl (decide (i < j)))
def oLe := oII fun i j => some (.bl (decide (i ≤ j)))
def oGt := oII fun i j => some (.bl (decide (j < i)))
def oGe := oII fun i j => some (.bl (decide (j ≤ i)))
theorem os_sub : OpS K ca rSubU oSub := os_ii fun i j d h => by cases h; exact ⟨_, fun _ _ => .int _, fun H Q q => ⟨i, j, rfl, rfl, q⟩⟩
theorem os_div : OpS K ca rDivU oDiv := os_ii fun i j d h => by
  split at h
  · rename_i z; cases h; exact ⟨_, fun _ _ => .int _, fun H Q q => ⟨i, j, rfl, rfl, z, q⟩⟩
  · cases h
theorem os_mod : OpS K ca rModU oMod := os_ii fun i j d h => by
  split at h
  · rename_i z; cases h; exact ⟨_, fun _ _ => .int _, fun H Q q => ⟨i, j, rfl, rfl, z, q⟩⟩
  · cases h
theorem os_pow : OpS K ca rPowU oPow := os_ii fun i j d h => by
  split at h
  · rename_i z; cases h; exact ⟨_, fun _ _ => .int _, fun H Q q => ⟨i, j, rfl, rfl, z, q⟩⟩
  · cases h
theorem os_shl : OpS K ca rShlU oShl := os_ii fun i j d h => by
  split at h
  · rename_i z; cases h; exact ⟨_, fun _ _ => .int _, fun H Q q => ⟨i, j, rfl, rfl, z, q⟩⟩
  · cases h
theorem os_shr : OpS K ca rShrU oShr := os_ii fun i j d h => by
  split at h
  · rename_i z; cases h; exact ⟨_, fun _ _ => .int _, fun H Q q => ⟨i, j, rfl, rfl, z, q⟩⟩
  · cases h
theorem os_and : OpS K ca rAndU oAnd := os_ii fun i j d h => by cases h; exact ⟨_, fun _ _ => .int _, fun H Q q => ⟨i, j, rfl, rfl, q⟩⟩
theorem os_or : OpS K ca rOrU oOr := os_ii fun i j d h => by cases h; exact ⟨_, fun _ _ => .int _, fun H Q q => ⟨i, j, rfl, rfl, q⟩⟩
theorem os_xor : OpS K ca rXorU oXor := os_ii fun i j d h => by cases h; exact ⟨_, fun _ _ => .int _, fun H Q q => ⟨i, j, rfl, rfl, q⟩⟩
theorem os_lt : OpS K ca rLtU oLt := os_ii fun i j d h => by cases h; exact ⟨_, fun _ _ => .bl _, fun H Q q => ⟨i, j, rfl, rfl, q⟩⟩
theorem os_le : OpS K ca rLeU oLe := os_ii fun i j d h => by cases h; exact ⟨_, fun _ _ => .bl _, fun H Q q => ⟨i, j, rfl, rfl, q⟩⟩
theorem os_gt : OpS K ca rGtU oGt := os_ii fun i j d h => by cases h; exact ⟨_, fun _ _ => .bl _, fun H Q q => ⟨i, j, rfl, rfl, q⟩⟩
theorem os_ge : OpS K ca rGeU oGe := os_ii fun i j d h => by cases h; exact ⟨_, fun _ _ => .bl _, fun H Q q => ⟨i, j, rfl, rfl, q⟩⟩
def oNeg (x : D) (A : Hs) : RE D := match x with
  | .int i => .ok (.int (-i)) A
  | _ => .stuck
theorem us_neg : UnS K ca (rU fun i => .int (-i)) oNeg := fun F m A H x dx W σ Q R rx p => by
  cases rx with
  | int i => exact ⟨i, rfl, po_ok R (.int _) p⟩
  | _ => exact p.elim
/-- a list that may be read -/
def seqL (A : Hs) : D → Option (List D)
  | .ref i => match A[i]? with
    | some (.lst l) => some l
    | _ => none
  | .scr l => some l
  | _ => none
def seqT : D → Option (List D)
  | .tup l => some l
  | .wt l => some l
  | _ => none
theorem seqL_at {x : V} {d : D} {l : List D} (R : Rl K ca F m A H) (r : Rep K ca F m x d) (h : seqL A d = some l) : ∃ a vs, x = .ref a ∧ SqL K H a vs ∧ RepL K ca F m vs l := by
  cases r with
  | ref hm =>
    rename_i a i
    unfold seqL at h
    simp only at h
    cases q : A[i]? with
    | none => simp [q] at h
    | some o =>
      cases o with
      | lst l' =>
        simp [q] at h; subst h
        obtain ⟨a', e, ha, vs, h1, h2⟩ := R.at (v := .ref a) q (.ref hm)
        cases e
        exact ⟨a, vs, rfl, .inl (.inl h1), h2⟩
      | dic _ _ _ => simp [q] at h
      | obj _ _ => simp [q] at h
  | scr s rs => cases h; exact ⟨_, _, rfl, R.fh.l s, rs⟩
  | _ => cases h
theorem seqT_at {x : V} {d : D} {l : List D} (R : Rl K ca F m A H) (r : Rep K ca F m x d) (h : seqT d = some l) : ∃ a vs, x = .ref a ∧ SqT K H a vs ∧ RepL K ca F m vs l := by
  cases r with
  | tup s rs => cases h; exact ⟨_, _, rfl, .inl (.inl (R.fh _ _ s)), rs⟩
  | wt s rs => cases h; exact ⟨_, _, rfl, R.fh.t s, rs⟩
  | _ => cases h
/-- a list of the plain heap -/
theorem lst_at {x : V} {i : Nat} {l : List D} (R : Rl K ca F m A H) (r : Rep K ca F m x (.ref i)) (h : A[i]? = some (.lst l)) : ∃ a vs, x = .ref a ∧ m[i]? = some a ∧ H a = some (.lst vs) ∧ RepL K ca F m vs l := by
  obtain ⟨a, e, ha, vs, h1, h2⟩ := R.at h r
  exact ⟨a, vs, e, ha, h1, h2⟩
theorem lst_put {i : Nat} {l' : List D} {vs' : List V} (R : Rl K ca F m A H) {a : Addr} {vs : List V} (ha : m[i]? = some a) (h1 : H a = some (.lst vs)) (r : RepL K ca F m vs' l') :
    Rl K ca F m (A.set i (.lst l')) (upd H a (.lst vs')) ∧ Stp F m H F m (upd H a (.lst vs')) :=
  R.put (o' := .lst l') ha (fun od w z => by rw [h1] at z; cases z) ⟨vs', upd_same, r⟩

/-! ### + -/
def oAdd (x y : D) (A : Hs) : RE D := match x, y with
  | .int i, .int j => .ok (.int (i + j)) A
  | .str a, .str b => if a.length + b.length ≤ sizeLine then .ok (.str (a ++ b)) A else .stuck
  | .tup l, .tup k => if l.length + k.length ≤ sizeLine then .ok (.tup (l ++ k)) A else .stuck
  | .wt l, .tup k => if l ≠ [] ∧ l.length + k.length ≤ sizeLine then .ok (if k.isEmpty then .wt l else .tup (l ++ k)) A else .stuck
  | .tup l, .wt k => if k ≠ [] ∧ l.length + k.length ≤ sizeLine then .ok (if l.isEmpty then .wt k else .tup (l ++ k)) A else .stuck
  | .ref i, .ref j => match A[i]?, A[j]? with
    | some (.lst l), some (.lst k) => if l.length + k.length ≤ sizeLine then alloc A (.lst (l ++ k)) else .stuck
    | _, _ => .stuck
  | _, _ => .stuck
theorem os_add : OpS K ca (rAddU K) oAdd := fun F m A H x y dx dy W σ Q R rx ry p => by
  cases rx with
  | int i =>
    cases ry with
    | int j => exact .inl ⟨i, j, rfl, rfl, po_ok R (.int _) p⟩
    | _ => exact p.elim
  | str a =>
    cases ry with
    | str b =>
      unfold oAdd at p
      simp only at p
      split at p
      · rename_i hl; exact .inr (.inl ⟨a, b, rfl, rfl, hl, po_ok R (.str _) p⟩)
      · exact p.elim
    | _ => exact p.elim
  | tup s rs =>
    cases ry with
    | tup s' rs' =>
      rename_i a vs l b ws k
      unfold oAdd at p
      simp only at p
      split at p
      · rename_i hl
        refine .inr (.inr (.inl ⟨a, b, vs, ws, rfl, rfl, .inl (.inl (R.fh _ _ s)), .inl (.inl (R.fh _ _ s')), by rw [rs.length, rs'.length]; exact hl, fun e => ?_, fun _ e => ?_, fun _ _ q hq => ?_⟩))
        · subst e; cases rs; exact po_ok R (.tup s' rs') p
        · subst e; cases rs'; rw [List.append_nil] at p; exact po_ok R (.tup s rs) p
        · obtain ⟨R2, g2⟩ := R.new (u := .tup (vs ++ ws)) hq
          exact p _ _ _ _ R2 g2 (.tup upd_same ((rs.append rs').mono g2.ff g2.mm))
      · exact p.elim
    | wt s' rs' =>
      rename_i a vs l b ws k
      unfold oAdd at p
      simp only at p
      split at p
      · rename_i hl
        refine .inr (.inr (.inl ⟨a, b, vs, ws, rfl, rfl, .inl (.inl (R.fh _ _ s)), R.fh.t s', by rw [rs.length, rs'.length]; exact hl.2, fun e => ?_, fun _ e => ?_, fun n1 _ q hq => ?_⟩))
        · subst e; cases rs; exact po_ok R (.wt s' rs') p
        · subst e; cases rs'; exact absurd rfl hl.1
        · obtain ⟨R2, g2⟩ := R.new (u := .tup (vs ++ ws)) hq
          have : l.isEmpty = false := by
            cases rs with
            | nil => exact absurd rfl n1
            | cons _ _ => rfl
          rw [this] at p
          exact p _ _ _ _ R2 g2 (.tup upd_same ((rs.append rs').mono g2.ff g2.mm))
      · exact p.elim
    | _ => exact p.elim
  | wt s rs =>
    cases ry with
    | tup s' rs' =>
      rename_i a vs l b ws k
      unfold oAdd at p
      simp only at p
      split at p
      · rename_i hl
        refine .inr (.inr (.inl ⟨a, b, vs, ws, rfl, rfl, R.fh.t s, .inl (.inl (R.fh _ _ s')), by rw [rs.length, rs'.length]; exact hl.2, fun e => ?_, fun _ e => ?_, fun _ n2 q hq => ?_⟩))
        · subst e; cases rs; exact absurd rfl hl.1
        · subst e; cases rs'; exact po_ok R (.wt s rs) p
        · obtain ⟨R2, g2⟩ := R.new (u := .tup (vs ++ ws)) hq
          have : k.isEmpty = false := by
            cases rs' with
            | nil => exact absurd rfl n2
            | cons _ _ => rfl
          rw [this] at p
          exact p _ _ _ _ R2 g2 (.tup upd_same ((rs.append rs').mono g2.ff g2.mm))
      · exact p.elim
    | _ => exact p.elim
  | ref hm =>
    cases ry with
    | ref hm' =>
      rename_i a i b j
      unfold oAdd at p
      simp only at p
      split at p
      · rename_i l k q1 q2
        split at p
        · rename_i hl
          obtain ⟨a', vs, e1, h1, h2, h3⟩ := lst_at R (.ref hm) q1
          obtain ⟨b', ws, e2, h4, h5, h6⟩ := lst_at R (.ref hm') q2
          refine .inr (.inr (.inr ⟨a', b', vs, ws, e1, e2, h2, h5, by rw [h3.length, h6.length]; exact hl, fun q hq => ?_⟩))
          exact po_alloc (o := .lst (l ++ k)) R hq ⟨_, upd_same, (h3.append h6).mono (Ex.refl _) ⟨_, rfl⟩⟩ p
        · exact p.elim
      · exact p.elim
    | _ => exact p.elim
  | _ => exact p.elim
/-! ### * -/
open Classical in
noncomputable def oMul (x y : D) (A : Hs) : RE D := match x, y with
  | .int i, .int j => if CMul i j ∨ CMulX i j then .ok (.int (i * j)) A else .stuck
  | .tup l, .int j => if l.length ≤ 1000 ∧ -1000 ≤ j ∧ j ≤ 4000 then .ok (.tup (List.replicate j.toNat l).flatten) A else .stuck
  | .ref i, .int j => match A[i]? with
    | some (.lst l) => if -(2 ^ 63) ≤ j ∧ j < 2 ^ 63 ∧ l.length * j.toNat ≤ sizeLine then alloc A (.lst (List.replicate j.toNat l).flatten) else .stuck
    | _ => .stuck
  | _, _ => .stuck
theorem os_mul : OpS K ca (rMulA K) oMul := fun F m A H x y dx dy W σ Q R rx ry p => by
  cases ry with
  | int j =>
    cases rx with
    | int i =>
      unfold oMul at p
      simp only at p
      split at p
      · rename_i hc
        refine .inl ?_
        rcases hc with hc | hc
        · exact .inl ⟨i, j, rfl, rfl, hc, po_ok R (.int _) p⟩
        · exact .inr (.inl ⟨i, j, rfl, rfl, hc, po_ok R (.int _) p⟩)
      · exact p.elim
    | tup s rs =>
      rename_i a vs l
      unfold oMul at p
      simp only at p
      split at p
      · rename_i hc
        have lv := rs.length
        refine .inr ⟨a, j, vs, rfl, rfl, .inl (.inl (R.fh _ _ s)), hc.2.2, hc.2.1, by omega, fun e => ?_, fun e => ?_, fun n1 n2 q hq => ?_⟩
        · subst e; cases rs
          have : (List.replicate j.toNat ([] : List D)).flatten = [] := by simp
          rw [this] at p
          exact po_ok R (.tup s .nil) p
        · subst e
          have : (List.replicate (1 : Int).toNat l).flatten = l := by simp
          rw [this] at p
          exact po_ok R (.tup s rs) p
        · obtain ⟨R2, g2⟩ := R.new (u := .tup (List.replicate j.toNat vs).flatten) hq
          exact p _ _ _ _ R2 g2 (.tup upd_same ((rs.flatRep _).mono g2.ff g2.mm))
      · exact p.elim
    | ref hm =>
      rename_i a i
      unfold oMul at p
      simp only at p
      split at p
      · rename_i l q1
        split at p
        · rename_i hc
          obtain ⟨a', vs, e1, h1, h2, h3⟩ := lst_at R (.ref hm) q1
          refine .inl (.inr (.inr ⟨a', j, vs, e1, rfl, h2, hc.1, hc.2.1, by rw [h3.length]; exact hc.2.2, fun q hq => ?_⟩))
          exact po_alloc (o := .lst (List.replicate j.toNat l).flatten) R hq ⟨_, upd_same, (h3.flatRep _).mono (Ex.refl _) ⟨_, rfl⟩⟩ p
        · exact p.elim
      · exact p.elim
    | _ => exact p.elim
  | _ => cases rx <;> exact p.elim
/-! ### is -/
def isNon : D → Bool
  | .non => true
  | _ => false
theorem rep_non {v : V} {d : D} (h : Rep K ca F m v d) : decide (v = V.non) = isNon d := by
  cases h <;> first | rfl | simp [isNon]
def oIs (x y : D) (A : Hs) : RE D := match y with
  | .non => .ok (.bl (isNon x)) A
  | .bl c => match x with
    | .bl b => .ok (.bl (decide (b = c))) A
    | _ => .stuck
  | _ => .stuck
def oIsNot (x y : D) (A : Hs) : RE D := match y with
  | .non => .ok (.bl (!isNon x)) A
  | .bl c => match x with
    | .bl b => .ok (.bl (!decide (b = c))) A
    | _ => .stuck
  | _ => .stuck
theorem os_is : OpS K ca rIsU oIs := fun F m A H x y dx dy W σ Q R rx ry p => by
  cases ry with
  | non => refine .inl ⟨rfl, ?_⟩; rw [rep_non rx]; exact po_ok R (.bl _) p
  | bl c =>
    cases rx with
    | bl b => exact .inr ⟨b, c, rfl, rfl, po_ok R (.bl _) p⟩
    | _ => exact p.elim
  | _ => exact p.elim
theorem os_isnot : OpS K ca rNotU oIsNot := fun F m A H x y dx dy W σ Q R rx ry p => by
  cases ry with
  | non => refine .inl ⟨rfl, ?_⟩; rw [rep_non rx]; exact po_ok R (.bl _) p
  | bl c =>
    cases rx with
    | bl b => exact .inr ⟨b, c, rfl, rfl, po_ok R (.bl _) p⟩
    | _ => exact p.elim
  | _ => exact p.elim
/-! ### subscripts -/
def oIx (x y : D) (A : Hs) : RE D := match y with
  | .int i => match seqL A x with
    | some l => match atI l i with
      | some d => .ok d A
      | none => .stuck
    | none => match seqT x with
      | some l => match atI l i with
        | some d => .ok d A
        | none => .stuck
      | none => match x with
        | .str z => if z.length ≤ sizeLine then match atI z.cps.toList i with
            | some c => .ok (.str ⟨#[c]⟩) A
            | none => .stuck
          else .stuck
        | _ => .stuck
  | _ => .stuck
theorem atI_rep {vs : List V} {l : List D} {i : Int} {d : D} (p : RepL K ca F m vs l) (h : atI l i = some d) : ∃ v, atI vs i = some v ∧ Rep K ca F m v d := by
  unfold atI at h ⊢
  obtain ⟨n, e, g⟩ := Option.bind_eq_some_iff.mp h
  obtain ⟨z, z1, z2⟩ := p.get g
  exact ⟨z, by rw [p.length, e]; exact z1, z2⟩
theorem os_ix : OpS K ca (rIx K) oIx := fun F m A H x y dx dy W σ Q R rx ry p => by
  cases ry with
  | int i =>
    unfold oIx at p
    simp only at p
    split at p
    · rename_i l hl
      split at p
      · rename_i d hd
        obtain ⟨a, vs, e, h1, h2⟩ := seqL_at R rx hl
        obtain ⟨v, h3, h4⟩ := atI_rep h2 hd
        exact .inl ⟨a, vs, i, v, e, rfl, h1, h3, po_ok R h4 p⟩
      · exact p.elim
    · split at p
      · rename_i l hl
        split at p
        · rename_i d hd
          obtain ⟨a, vs, e, h1, h2⟩ := seqT_at R rx hl
          obtain ⟨v, h3, h4⟩ := atI_rep h2 hd
          exact .inr (.inl ⟨a, vs, i, v, e, rfl, h1, h3, po_ok R h4 p⟩)
        · exact p.elim
      · cases rx with
        | str z =>
          simp only at p
          split at p
          · rename_i hz
            split at p
            · rename_i c hc
              exact .inr (.inr ⟨z, i, c, rfl, rfl, hz, hc, po_ok R (.str _) p⟩)
            · exact p.elim
          · exact p.elim
        | _ => exact p.elim
  | _ => exact p.elim
def cutD {α : Type} (xs : List α) (lo hi : Option Int) : List α := (xs.drop (HT.sIx xs.length 0 lo)).take (HT.sIx xs.length xs.length hi - HT.sIx xs.length 0 lo)
theorem cut_rep {vs : List V} {l : List D} {lo hi : Option Int} (h : RepL K ca F m vs l) : RepL K ca F m (cutV vs lo hi) (cutD l lo hi) := by
  unfold cutV cutD
  rw [h.length]
  exact (h.drop _).take _
def oSl (x : D) (lo hi : Option Int) (A : Hs) : RE D := match seqL A x with
  | some l => alloc A (.lst (cutD l lo hi))
  | none => match x with
    | .tup l => .ok (.tup (cutD l lo hi)) A
    | .str z => if z.length ≤ sizeLine then .ok (.str (cutS z lo hi)) A else .stuck
    | _ => .stuck
theorem sls_all : SlS K ca (DL.rSlU K) oSl := fun F m A H x dx lo hi W σ Q R rx p => by
  unfold oSl at p
  split at p
  · rename_i l hl
    obtain ⟨a, vs, e, h1, h2⟩ := seqL_at R rx hl
    exact .inl ⟨a, vs, e, h1, fun q hq => po_alloc (o := .lst (cutD l lo hi)) R hq ⟨_, upd_same, (cut_rep h2).mono (Ex.refl _) ⟨_, rfl⟩⟩ p⟩
  · cases rx with
    | @tup a vs l s rs =>
      refine .inr (.inl ⟨a, vs, rfl, .inl (.inl (R.fh _ _ s)), fun hw => ?_, fun _ q hq => ?_⟩)
      · have e : cutD l lo hi = l := by
          unfold cutD
          rw [← rs.length, hw.1, hw.2]
          simp [rs.length]
        simp only [e] at p
        exact po_ok R (.tup s rs) p
      · obtain ⟨R2, g2⟩ := R.new (u := .tup (cutV vs lo hi)) hq
        exact p _ _ _ _ R2 g2 (.tup upd_same ((cut_rep rs).mono g2.ff g2.mm))
    | str z =>
      simp only at p
      split at p
      · rename_i hz; exact .inr (.inr ⟨z, rfl, hz, po_ok R (.str _) p⟩)
      · exact p.elim
    | _ => exact p.elim
def oRev (x : D) (A : Hs) : RE D := match seqL A x with
  | some l => alloc A (.lst l.reverse)
  | none => .stuck
/-! ### which of two readings -/
theorem Sim.pick {α β : Type} {Rr : Hp → List Addr → β → α → Prop} {t u : L2.St → Hp → (β → Hp → Prop) → Prop} {f g h : Sl → Hs → RE α} (h1 : Sim K ca Rr W t g) (h2 : Sim K ca Rr W u h) (k : ∀ env A, f env A = g env A ∨ f env A = h env A) : Sim K ca Rr W (fun σ H Q => t σ H Q ∨ u σ H Q) f := fun F m A σ H env Q R S p => by
  rcases k env A with q | q
  · rw [q] at p; exact .inl (h1 F m A σ H env Q R S p)
  · rw [q] at p; exact .inr (h2 F m A σ H env Q R S p)
end
end SM

namespace L2
open PySem PySem.Spec PyProof.Rows
theorem op_eqPK {X : Cx} {K : PySem.W.Frag} (hu : X.A.units + 65 < cLine) (e : X.K = K := by rfl) : OpR X (compareOp .Eq) (rEqP K) := by subst e; exact op_eqP (by omega)
theorem op_nePK {X : Cx} {K : PySem.W.Frag} (hu : X.A.units + 65 < cLine) (e : X.K = K := by rfl) : OpR X (compareOp .NotEq) (rNeP K) := by subst e; exact op_neP (by omega)
end L2
namespace SM
open PySem L2
open DL (Ex ExK rLenU rAbs rMax2 rMin2 rInt1 rListOf rTupleOf iSeqU rIsiU InC)
section
variable {K : PySem.W.Frag} {ca : CaT} {F F1 F2 H H1 H2 : Hp} {m m1 m2 : List Addr} {A A1 A2 : Hs} {σ : L2.St} {env : Sl} {W : WX} {Q : VK}
variable {ta tb tc te : TE} {a b c : E} {i : Nat} {d : D} {ts : TA} {as : As} {x : V} {dx : D}
/-! ### dicts -/
def keyK : D → Option Key
  | .int i => some (.inl i)
  | .str x => some (.inr x)
  | _ => none
def keysK : List D → Option (List Key)
  | [] => some []
  | d :: r => match keyK d, keysK r with
    | some k, some ks => some (k :: ks)
    | _, _ => none
/-- whether two keys are one -/
def keq : D → D → Bool
  | .int i, .int j => decide (i = j)
  | .str x, .str y => decide (x = y)
  | .tup l, .tup k => keqL l k
  | _, _ => false
where keqL : List D → List D → Bool
  | [], [] => true
  | .int i :: r, .int j :: s => decide (i = j) && keqL r s
  | .str x :: r, .str y :: s => decide (x = y) && keqL r s
  | _, _ => false
def kget : List (D × D) → D → Option D
  | [], _ => none
  | (k, v) :: r, y => if keq k y then some v else kget r y
def khas (l : List (D × D)) (y : D) : Bool := l.any fun kv => keq kv.1 y
def kput (l : List (D × D)) (y v : D) : List (D × D) := if khas l y then l.map (fun kv => if keq kv.1 y then (kv.1, v) else kv) else l ++ [(y, v)]
def kdel (l : List (D × D)) (y : D) : List (D × D) := l.filter fun kv => !keq kv.1 y
/-- y may be a key of a dict of the kind t -/
def keyOk : Bool → D → Bool
  | false, y => (keyK y).isSome
  | true, .tup l => (keysK l).isSome
  | true, _ => false
theorem keyK_kD {y : D} {k : Key} (h : keyK y = some k) : y = kD k := by
  cases y <;> simp [keyK] at h <;> subst h <;> rfl
theorem keysK_kT : ∀ {l : List D} {ks : List Key}, keysK l = some ks → l = ks.map kD
  | [], ks, h => by cases h; rfl
  | d :: r, ks, h => by
    unfold keysK at h
    cases q : keyK d with
    | none => rw [q] at h; cases h
    | some k =>
      cases q2 : keysK r with
      | none => rw [q, q2] at h; cases h
      | some s => rw [q, q2] at h; cases h; rw [List.map_cons, ← keyK_kD q, ← keysK_kT q2]
theorem keq_kD (a b : Key) : keq (kD a) (kD b) = decide (a = b) := by
  cases a <;> cases b <;> simp [kD, keq]
theorem keqL_kT : ∀ (a b : List Key), keq.keqL (a.map kD) (b.map kD) = decide (a = b)
  | [], [] => by simp [keq.keqL]
  | [], y :: s => by cases y <;> simp [keq.keqL]
  | x :: r, [] => by cases x <;> simp [keq.keqL]
  | x :: r, y :: s => by
    have ih := keqL_kT r s
    cases x <;> cases y <;> simp [kD, keq.keqL, ih]
theorem keq_kT (a b : List Key) : keq (kT a) (kT b) = decide (a = b) := by
  unfold kT keq; exact keqL_kT a b
section
variable {κ : Type} [DecidableEq κ] {kd : κ → D}
theorem khas_rep (hk : ∀ a b, keq (kd a) (kd b) = decide (a = b)) {k : κ} : ∀ {kvs : List (κ × V)} {l : List (D × D)}, KvR K ca F m kd kvs l → khas l (kd k) = kvs.any fun kv => decide (kv.1 = k)
  | _, _, .nil => rfl
  | _, _, .cons h r => by
    have ih := khas_rep hk (k := k) r
    unfold khas at ih ⊢
    rw [List.any_cons, List.any_cons, ih, hk]
theorem KvR.snoc {k : κ} {v : V} (hv : Rep K ca F m v d) : ∀ {kvs : List (κ × V)} {l : List (D × D)}, KvR K ca F m kd kvs l → KvR K ca F m kd (kvs ++ [(k, v)]) (l ++ [(kd k, d)])
  | _, _, .nil => .cons hv .nil
  | _, _, .cons h r => .cons h (KvR.snoc hv r)
theorem KvR.remap (hk : ∀ a b, keq (kd a) (kd b) = decide (a = b)) {k : κ} {v : V} (hv : Rep K ca F m v d) : ∀ {kvs : List (κ × V)} {l : List (D × D)}, KvR K ca F m kd kvs l → KvR K ca F m kd (kvs.map fun kv => if kv.1 = k then (kv.1, v) else kv) (l.map fun kv => if keq kv.1 (kd k) then (kv.1, d) else kv)
  | _, _, .nil => .nil
  | _, _, .cons (k := k') h r => by
    rw [List.map_cons, List.map_cons]
    by_cases q : k' = k
    · simp only [q, hk, decide_true, if_true]; exact .cons hv (KvR.remap hk hv r)
    · simp only [q, hk, decide_false, Bool.false_eq_true, if_false]; exact .cons h (KvR.remap hk hv r)
theorem kput_rep (hk : ∀ a b, keq (kd a) (kd b) = decide (a = b)) {k : κ} {v : V} (hv : Rep K ca F m v d) {kvs : List (κ × V)} {l : List (D × D)} (h : KvR K ca F m kd kvs l) : KvR K ca F m kd (putK kvs k v) (kput l (kd k) d) := by
  unfold putK kput
  rw [khas_rep hk h]
  split
  · exact KvR.remap hk hv h
  · exact KvR.snoc hv h
end
/-- the dict at hand: its kind, its pairs -/
def dicAt (A : Hs) : D → Option (Bool × List (D × D))
  | .ref i => match A[i]? with
    | some (.dic t _ l) => some (t, l)
    | _ => none
  | _ => none
theorem tup_key {y : V} {l : List D} {ks : List Key} (R : Rl K ca F m A H) (r : Rep K ca F m y (.tup l)) (h : keysK l = some ks) : ∃ b, y = .ref b ∧ H b = some (.tup (ks.map kV)) := by
  cases r with
  | tup s rs =>
    refine ⟨_, rfl, ?_⟩
    have e := keysK_kT h
    subst e
    have : ∀ {vs : List V} {ks : List Key}, RepL K ca F m vs (ks.map kD) → vs = ks.map kV := by
      intro vs ks
      induction ks generalizing vs with
      | nil => intro r; cases r; rfl
      | cons k ks ih =>
        intro r
        cases r with
        | cons q t =>
          rw [List.map_cons, ih t]
          cases k with
          | inl i => cases q; rfl
          | inr x => cases q; rfl
    rw [← this rs]
    exact R.fh _ _ s
/-- d[y] -/
def oDGet (x y : D) (A : Hs) : RE D := match dicAt A x with
  | some (t, l) => if keyOk t y then match kget l y with
      | some d => .ok d A
      | none => .stuck
    else .stuck
  | none => .stuck
/-- y in c -/
def inData (A : Hs) (x c : D) : Option Bool := match pyA A 40 x, pyA A 40 c with
  | some p, some (.list ps) => some (ps.any fun z => PyData.eqv z p)
  | some p, some (.tuple ps) => some (ps.any fun z => PyData.eqv z p)
  | _, _ => none
def inStr (x : D) (w : Str) : Option Bool := match x with
  | .str z => match z.cps.toList with
    | [k] => some (decide (k ∈ w.cps.toList))
    | _ => none
  | _ => none
def inDic (t : Bool) (l : List (D × D)) (x : D) : Option Bool := if keyOk t x then some (kget l x).isSome else none
def inA (A : Hs) (x c : D) : Option Bool := match dicAt A c with
  | some (t, l) => inDic t l x
  | none => match c with
    | .str w => inStr x w
    | _ => inData A x c
def oIn : D → D → Hs → RE D := oB inA
def oNotIn : D → D → Hs → RE D := oB fun A x y => (inA A x y).map (!·)
/-! ### stores -/
/-- xs[i] = v, d[k] = v -/
def setIt (A : Hs) (x y v : D) : Option Hs := match x with
  | .ref i => match A[i]? with
    | some (.lst l) => match y with
      | .int k => match ixN l.length k with
        | some n => some (A.set i (.lst (l.set n v)))
        | none => none
      | _ => none
    | some (.dic t false l) => if keyOk t y && decide (l.length < sizeLine) then some (A.set i (.dic t false (kput l y v))) else none
    | _ => none
  | _ => none
/-- o[i] = e: first e, then o, then i -/
def ofH (env : Sl) : Option Hs → RS
  | some A => .nx env A
  | none => .stuck
def sPut (o i a : E) : S := fun env A => ofE env (a env A) fun v A1 => ofE env (o env A1) fun x A2 => ofE env (i env A2) fun y A3 => ofH env (setIt A3 x y v)
theorem set_lst {x y v : V} {dy dv : D} {i : Nat} {l : List D} (R : Rl K ca F m A H) (rx : Rep K ca F m x (.ref i)) (ry : Rep K ca F m y dy) (rv : Rep K ca F m v dv) (hA : A[i]? = some (.lst l)) (h : setIt A (.ref i) dy dv = some A2) {Dn : Ends} {f : Hp → Prop}
    (k : ∀ H2, Rl K ca F m A2 H2 → Stp F m H F m H2 → f H2) : rSetL x y v H f := by
  unfold setIt at h
  simp only [hA] at h
  cases ry with
  | int j =>
    simp only at h
    cases q : ixN l.length j with
    | none => rw [q] at h; cases h
    | some n =>
      rw [q] at h; cases h
      obtain ⟨a, vs, e, h1, h2, h3⟩ := lst_at R rx hA
      obtain ⟨R2, g2⟩ := lst_put R h1 h2 (h3.set rv n)
      exact ⟨a, vs, j, n, e, rfl, h2, by rw [h3.length]; exact q, k _ R2 g2⟩
  | _ => cases h
theorem set_dic {x y v : V} {dy dv : D} {i : Nat} {t : Bool} {l : List (D × D)} (R : Rl K ca F m A H) (rx : Rep K ca F m x (.ref i)) (ry : Rep K ca F m y dy) (rv : Rep K ca F m v dv) (hA : A[i]? = some (.dic t false l)) (h : setIt A (.ref i) dy dv = some A2) :
    ∃ a H2, x = .ref a ∧ DPut H a y v H2 ∧ Rl K ca F m A2 H2 ∧ Stp F m H F m H2 := by
  unfold setIt at h
  simp only [hA] at h
  split at h
  · rename_i hk
    cases h
    rw [Bool.and_eq_true, decide_eq_true_eq] at hk
    obtain ⟨a, e, ha, r⟩ := R.at hA rx
    cases t with
    | false =>
      obtain ⟨kvs, h1, h2⟩ := r
      cases z : keyK dy with
      | none => simp [keyOk, z] at hk
      | some kk =>
        have e2 := keyK_kD z
        subst e2
        have e3 : y = kV kk := by
          cases kk with
          | inl i => cases ry; rfl
          | inr x => cases ry; rfl
        have h1' : H a = some (.dK kvs) := h1
        obtain ⟨R2, g2⟩ := R.put (u := .dK (putK kvs kk v)) (o' := .dic false false (kput l (kD kk) dv)) ha (fun od w z => by rw [h1'] at z; cases z) ⟨_, upd_same, kput_rep keq_kD rv h2⟩
        exact ⟨a, _, e, .inl ⟨kvs, kk, h1, e3, by rw [h2.length]; exact hk.2, rfl⟩, R2, g2⟩
    | true =>
      obtain ⟨kvs, h1, h2⟩ := r
      cases dy with
      | tup dl =>
          cases z : keysK dl with
        | none => simp [keyOk, z] at hk
        | some ks =>
          obtain ⟨b, e3, h3⟩ := tup_key R ry z
          have e2 := keysK_kT z
          subst e2
          have h1' : H a = some (.dT kvs) := h1
          obtain ⟨R2, g2⟩ := R.put (u := .dT (putK kvs ks v)) (o' := .dic true false (kput l (kT ks) dv)) ha (fun od w z => by rw [h1'] at z; cases z) ⟨_, upd_same, kput_rep keq_kT rv h2⟩
          exact ⟨a, _, e, .inr ⟨kvs, ks, b, h1, e3, h3, by rw [h2.length]; exact hk.2, rfl⟩, R2, g2⟩
      | _ => simp [keyOk] at hk
  · cases h
end
end SM

namespace SM
open PySem L2
open DL (Ex ExK rLenU rAbs rMax2 rMin2 rInt1 rListOf rTupleOf iSeqU rIsiU InC)
section
variable {K : PySem.W.Frag} {ca : CaT} {F F1 F2 H H1 H2 : Hp} {m m1 m2 : List Addr} {A A1 A2 : Hs} {σ : L2.St} {env : Sl} {W : WX} {Q : VK}
variable {ta tb tc te to ti : TE} {a b c o : E} {i : Nat} {d : D} {ts : TA} {as : As} {x : V} {dx : D} {t u : TS} {f g h : S}
/-! ### o[i] = e -/
theorem SimS.pick (h1 : SimS K ca W t g) (h2 : SimS K ca W u h) (k : ∀ env A, f env A = g env A ∨ f env A = h env A) : SimS K ca W (fun D σ H => t D σ H ∨ u D σ H) f := fun F m A σ H env Dn R S p => by
  rcases k env A with q | q
  · rw [q] at p; exact .inl (h1 F m A σ H env Dn R S p)
  · rw [q] at p; exact .inr (h2 F m A σ H env Dn R S p)
def isLst (A : Hs) : D → Bool
  | .ref i => match A[i]? with
    | some (.lst _) => true
    | _ => false
  | _ => false
def sPut1 (w : Bool) (o i a : E) : S := fun env A => ofE env (a env A) fun v A1 => ofE env (o env A1) fun x A2 => ofE env (i env A2) fun y A3 => if isLst A3 x = w then ofH env (setIt A3 x y v) else .stuck
theorem put_pick {o i a : E} (env : Sl) (A : Hs) : sPut o i a env A = sPut1 true o i a env A ∨ sPut o i a env A = sPut1 false o i a env A := by
  unfold sPut sPut1
  cases a env A with
  | stuck => exact .inl rfl
  | exc _ _ => exact .inl rfl
  | ok v A1 =>
    simp only [ofE]
    cases o env A1 with
    | stuck => exact .inl rfl
    | exc _ _ => exact .inl rfl
    | ok x A2 =>
      simp only [ofE]
      cases i env A2 with
      | stuck => exact .inl rfl
      | exc _ _ => exact .inl rfl
      | ok y A3 =>
        simp only [ofE]
        cases q : isLst A3 x with
        | true => exact .inl (by simp)
        | false => exact .inr (by simp)
theorem isLst_at {A : Hs} {x : D} {w : Bool} (h : isLst A x = true) : ∃ i l, x = .ref i ∧ A[i]? = some (.lst l) := by
  cases x with
  | ref i =>
    unfold isLst at h
    cases q : A[i]? with
    | none => simp [q] at h
    | some o =>
      cases o with
      | lst l => exact ⟨i, l, rfl, q⟩
      | dic _ _ _ => simp [q] at h
      | obj _ _ => simp [q] at h
  | _ => cases h
theorem setIt_dic {A A2 : Hs} {x y v : D} (h : setIt A x y v = some A2) (n : isLst A x = false) : ∃ i t l, x = .ref i ∧ A[i]? = some (.dic t false l) := by
  unfold setIt at h
  cases x with
  | ref i =>
    unfold isLst at n
    cases q : A[i]? with
    | none => simp [q] at h
    | some o =>
      cases o with
      | lst l => simp [q] at n
      | dic t lk l =>
        cases lk with
        | false => exact ⟨i, t, l, rfl, q⟩
        | true => simp [q] at h
      | obj _ _ => simp [q] at h
  | _ => simp at h
theorem ss_putL (ho : SimE K ca W to o) (hi : SimE K ca W ti b) (ha : SimE K ca W ta a) : SimS K ca W (tAsg ta (gSub to ti rSetL)) (sPut1 true o b a) := fun F m A σ H env Dn R S p =>
  ofE_bind ha R S p fun F1 m1 A1 H1 v dv R1 g1 S1 rv p1 => ofE_bind ho R1 S1 p1 fun F2 m2 A2 H2 x dx R2 g2 S2 rx p2 => ofE_bind hi R2 S2 p2 fun F3 m3 A3 H3 y dy R3 g3 S3 ry p3 => by
    split at p3
    · rename_i hl
      cases hs : setIt A3 dx dy dv with
      | none => rw [hs] at p3; exact p3.elim
      | some A4 =>
        rw [hs] at p3
        obtain ⟨j, l, rfl, hA⟩ := isLst_at (w := true) hl
        exact set_lst (Dn := Dn) R3 (rx.mono g3.ff g3.mm) ry (rv.mono (g2.trans g3).ff (g2.trans g3).mm) hA hs fun H4 R4 g4 => p3 F3 m3 σ H4 R4 g4 (S3.stp g4)
    · exact p3.elim
theorem ss_putD (ho : SimE K ca W to o) (hi : SimE K ca W ti b) (ha : SimE K ca W ta a) : SimS K ca W (sDPut to ti ta) (sPut1 false o b a) := fun F m A σ H env Dn R S p =>
  ofE_bind ha R S p fun F1 m1 A1 H1 v dv R1 g1 S1 rv p1 => ofE_bind ho R1 S1 p1 fun F2 m2 A2 H2 x dx R2 g2 S2 rx p2 => ofE_bind hi R2 S2 p2 fun F3 m3 A3 H3 y dy R3 g3 S3 ry p3 => by
    split at p3
    · rename_i hl
      cases hs : setIt A3 dx dy dv with
      | none => rw [hs] at p3; exact p3.elim
      | some A4 =>
        rw [hs] at p3
        obtain ⟨j, t, l, rfl, hA⟩ := setIt_dic hs hl
        obtain ⟨a', H4, e, h1, R4, g4⟩ := set_dic R3 (rx.mono g3.ff g3.mm) ry (rv.mono (g2.trans g3).ff (g2.trans g3).mm) hA hs
        exact ⟨a', H4, e, h1, p3 F3 m3 σ H4 R4 g4 (S3.stp g4)⟩
    · exact p3.elim
theorem ss_put (ho : SimE K ca W to o) (hi : SimE K ca W ti b) (ha : SimE K ca W ta a) : SimS K ca W (fun D σ H => tAsg ta (gSub to ti rSetL) D σ H ∨ sDPut to ti ta D σ H) (sPut o b a) := SimS.pick (ss_putL ho hi ha) (ss_putD ho hi ha) put_pick
/-! ### built-ins -/
def c1 (f : D → Hs → RE D) : List D → Hs → RE D := fun ds A => match ds with
  | [d] => f d A
  | _ => .stuck
def c2 (f : D → D → Hs → RE D) : List D → Hs → RE D := fun ds A => match ds with
  | [d, e] => f d e A
  | _ => .stuck
theorem cs_1 {r : List V → Hp → VK → Prop} {f : D → Hs → RE D} (h : ∀ F m A H x dx W σ Q, Rl K ca F m A H → Rep K ca F m x dx → Po K ca (Rep K ca) F m H W σ Q (f dx A) → r [x] H Q) : CbS K ca r (c1 f) := fun F m A H xs ds W σ Q R rs p => by
  match ds, xs, rs, p with
  | [d], _, .cons r1 .nil, p => exact h F m A H _ d W σ Q R r1 p
  | [], _, _, p => exact p.elim
  | _ :: _ :: _, _, _, p => exact p.elim
theorem cs_2 {r : List V → Hp → VK → Prop} {f : D → D → Hs → RE D} (h : ∀ F m A H x y dx dy W σ Q, Rl K ca F m A H → Rep K ca F m x dx → Rep K ca F m y dy → Po K ca (Rep K ca) F m H W σ Q (f dx dy A) → r [x, y] H Q) : CbS K ca r (c2 f) := fun F m A H xs ds W σ Q R rs p => by
  match ds, xs, rs, p with
  | [d, e], _, .cons r1 (.cons r2 .nil), p => exact h F m A H _ _ d e W σ Q R r1 r2 p
  | [], _, _, p => exact p.elim
  | [_], _, _, p => exact p.elim
  | _ :: _ :: _ :: _, _, _, p => exact p.elim
def lenA (A : Hs) (x : D) : Option Nat := match seqL A x with
  | some l => some l.length
  | none => match seqT x with
    | some l => some l.length
    | none => match x with
      | .str z => if z.length ≤ sizeLine then some z.length else none
      | .ref i => match A[i]? with
        | some (.dic false false l) => some l.length
        | _ => none
      | _ => none
def oLen (x : D) (A : Hs) : RE D := match lenA A x with
  | some n => .ok (.int (n : Int)) A
  | none => .stuck
theorem cs_len : CbS K ca (rLenU K) (c1 oLen) := cs_1 fun F m A H x dx W σ Q R rx p => by
  unfold oLen at p
  cases q : lenA A dx with
  | none => rw [q] at p; exact p.elim
  | some n =>
    rw [q] at p
    have hq := po_ok R (Rep.int _) p
    unfold lenA at q
    split at q
    · rename_i l hl
      cases q
      obtain ⟨a, vs, e, h1, h2⟩ := seqL_at R rx hl
      subst e
      exact .inl ⟨_, l.length, rfl, .inl ⟨vs, h1, h2.length.symm⟩, hq⟩
    · split at q
      · rename_i l hl
        cases q
        obtain ⟨a, vs, e, h1, h2⟩ := seqT_at R rx hl
        subst e
        exact .inl ⟨_, l.length, rfl, .inr ⟨vs, h1, h2.length.symm⟩, hq⟩
      · cases rx with
        | str z =>
          simp only at q
          split at q
          · rename_i hz; cases q; exact .inl ⟨_, _, rfl, ⟨hz, rfl⟩, hq⟩
          · cases q
        | ref hm =>
          simp only at q
          split at q
          · rename_i l hA
            cases q
            obtain ⟨a, e, ha, kvs, h1, h2⟩ := R.at hA (.ref hm)
            refine .inr ⟨a, kvs, by rw [e], h1, ?_⟩
            rw [h2.length]; exact hq
          · cases q
        | _ => cases q
def boolsOf : List D → Option (List Bool)
  | [] => some []
  | .bl b :: r => (boolsOf r).map (b :: ·)
  | _ :: _ => none
def intsOf : List D → Option (List Int)
  | [] => some []
  | .int b :: r => (intsOf r).map (b :: ·)
  | _ :: _ => none
def strsOf : List D → Option (List Str)
  | [] => some []
  | .str b :: r => (strsOf r).map (b :: ·)
  | _ :: _ => none
theorem boolsOf_eq : ∀ {l : List D} {bs : List Bool}, boolsOf l = some bs → l = bs.map D.bl
  | [], _, h => by cases h; rfl
  | d :: r, bs, h => by
    cases d with
    | bl b =>
      unfold boolsOf at h
      cases q : boolsOf r with
      | none => rw [q] at h; cases h
      | some s => rw [q] at h; cases h; rw [List.map_cons, ← boolsOf_eq q]
    | _ => cases h
theorem strsOf_eq : ∀ {l : List D} {bs : List Str}, strsOf l = some bs → l = bs.map D.str
  | [], _, h => by cases h; rfl
  | d :: r, bs, h => by
    cases d with
    | str b =>
      unfold strsOf at h
      cases q : strsOf r with
      | none => rw [q] at h; cases h
      | some s => rw [q] at h; cases h; rw [List.map_cons, ← strsOf_eq q]
    | _ => cases h
theorem z00 : ∀ bs : List Bool, boolsOf (bs.map D.bl) = some bs
  | [] => rfl
  | b :: r => by rw [List.map_cons]; unfold boolsOf; rw [z00 r]; rfl
theorem z0b : ∀ bs : List Int, intsOf (bs.map D.int) = some bs
  | [] => rfl
  | b :: r => by rw [List.map_cons]; unfold intsOf; rw [z0b r]; rfl
def oAll (x : D) (A : Hs) : RE D := match (seqL A x).bind boolsOf with
  | some bs => .ok (.bl (bs.all id)) A
  | none => .stuck
def oSum (x : D) (A : Hs) : RE D := match (seqL A x).bind intsOf with
  | some ns => .ok (.int ns.sum) A
  | none => .stuck
theorem cs_all : CbS K ca (L2.rAll K) (c1 oAll) := cs_1 fun F m A H x dx W σ Q R rx p => by
  unfold oAll at p
  split at p
  · rename_i bs hb
    obtain ⟨l, h1, h2⟩ := Option.bind_eq_some_iff.mp hb
    obtain ⟨a, vs, e, h3, h4⟩ := seqL_at R rx h1
    have e2 := boolsOf_eq h2
    subst e2
    have e3 := h4.bools
    subst e3 e
    exact ⟨a, bs, rfl, h3, po_ok R (.bl _) p⟩
  · exact p.elim
def oMax2 := oII fun i j => some (.int (if j > i then j else i))
def oMin2 := oII fun i j => some (.int (if j < i then j else i))
def oInt (x : D) (A : Hs) : RE D := match x with
  | .int i => .ok (.int i) A
  | .bl b => .ok (.int (if b then 1 else 0)) A
  | _ => .stuck
def seqA (A : Hs) (x : D) : Option (List D) := match seqL A x with
  | some l => some l
  | none => seqT x
def oList (x : D) (A : Hs) : RE D := match seqL A x with
  | some l => alloc A (.lst l)
  | none => match seqT x with
    | some l => alloc A (.lst l)
    | none => .stuck
def oTuple (x : D) (A : Hs) : RE D := match seqL A x with
  | some l => .ok (.tup l) A
  | none => match x with
    | .tup l => .ok (.tup l) A
    | _ => .stuck
theorem cs_tuple : CbS K ca (rTupleOf K) (c1 oTuple) := cs_1 fun F m A H x dx W σ Q R rx p => by
  unfold oTuple at p
  split at p
  · rename_i l hl
    obtain ⟨a, vs, e, h3, h4⟩ := seqL_at R rx hl
    subst e
    refine ⟨a, vs, rfl, .inl ⟨h3, fun q hq => ?_⟩⟩
    obtain ⟨R2, g2⟩ := R.new (u := .tup vs) hq
    exact p _ _ _ _ R2 g2 (.tup upd_same (h4.mono g2.ff g2.mm))
  · cases rx with
    | tup s rs => exact ⟨_, _, rfl, .inr ⟨.inl (.inl (R.fh _ _ s)), po_ok R (.tup s rs) p⟩⟩
    | _ => exact p.elim
/-! ### isinstance -/
/-- the class that a thing is of; os, xs: own classes, own exceptions at hand -/
def kdOf (os xs : List String) (A : Hs) : D → Option String
  | .non => some "NoneType"
  | .bl _ => some "bool"
  | .int _ => some "int"
  | .str _ => some "str"
  | .tup _ => some "tuple"
  | .scr _ => none
  | .exc C => if C ∈ xs then some C else none
  | .ref i => match A[i]? with
    | some (.lst _) => some "list"
    | some (.dic t lk _) => if t && lk then none else some "dict"
    | some (.obj C _) => if C ∈ os then some C else none
    | none => none
  | _ => none
def btn (n : String) : Bool := n == "NoneType" || n == "bool" || n == "int" || n == "str" || n == "tuple" || n == "list" || n == "dict" || n == "ValueError"
def clOf : D → Option String
  | .ty n => if btn n then some n else none
  | .nm C => if btn C then none else some C
  | _ => none
/-- a name's class object -/
def vOf (ca : CaT) (n : String) : Value := if btn n then .type n else .ref (ca n)
def subB (n c : String) : Bool := n == c || n == "bool" && c == "int"
/-- is the class n one of c: by the built-in ones, else by a table -/
def isiOf (tb : List (String × String × Bool)) (n c : String) : Option Bool := if btn n && btn c && n != "ValueError" then some (subB n c) else (tb.find? fun e => e.1 == n && e.2.1 == c).map (·.2.2)
/-- one of some classes -/
def isiAny (tb : List (String × String × Bool)) (n : String) : List D → Option Bool
  | [] => some false
  | c :: r => match clOf c with
    | some k => match isiOf tb n k with
      | some true => some true
      | some false => isiAny tb n r
      | none => none
    | none => none
def isiAll : List D → Bool
  | [] => true
  | c :: r => (clOf c).isSome && isiAll r
def isiD (os xs : List String) (tb : List (String × String × Bool)) (A : Hs) (x c : D) : Option Bool := match kdOf os xs A x with
  | none => none
  | some n => match c with
    | .tup l => if isiAll l then isiAny tb n l else none
    | c => match clOf c with
      | some k => isiOf tb n k
      | none => none
def oIsi (os xs : List String) (tb : List (String × String × Bool)) (x c : D) (A : Hs) : RE D := match isiD os xs tb A x c with
  | some b => .ok (.bl b) A
  | none => .stuck
inductive TbOk (K : PySem.W.Frag) (ca : CaT) : List (String × String × Bool) → Prop
  | nil : TbOk K ca []
  | cons {n c : String} {b : Bool} {r : List (String × String × Bool)} : PySem.W.kitOne K (vOf ca n) (vOf ca c) = some b → TbOk K ca r → TbOk K ca ((n, c, b) :: r)
theorem TbOk.of {tb : List (String × String × Bool)} (h : TbOk K ca tb) {n c : String} {b : Bool} (q : (tb.find? fun e => e.1 == n && e.2.1 == c).map (·.2.2) = some b) : PySem.W.kitOne K (vOf ca n) (vOf ca c) = some b := by
  induction h with
  | nil => cases q
  | cons h1 h2 ih =>
    rename_i n' c' b' r
    rw [List.find?_cons] at q
    cases z : (n' == n && c' == c) with
    | true =>
      simp only [z] at q
      cases q
      rw [Bool.and_eq_true] at z
      rw [← eq_of_beq z.1, ← eq_of_beq z.2]; exact h1
    | false => simp only [z] at q; exact ih q
def btns : List String := ["NoneType", "bool", "int", "str", "tuple", "list", "dict", "ValueError"]
theorem btn_mem {n : String} (h : btn n = true) : n ∈ btns := by
  simp only [btn, Bool.or_eq_true, beq_iff_eq] at h
  simp only [btns, List.mem_cons, List.mem_nil_iff, or_false]
  rcases h with ((((((h | h) | h) | h) | h) | h) | h) | h <;> simp [h]
theorem isi_all : ∀ n ∈ btns, ∀ c ∈ btns, (n != "ValueError") = true → kitB n c = some (subB n c) := by decide +kernel
theorem isi_sub {n c : String} (h1 : btn n = true) (h2 : btn c = true) (h3 : (n != "ValueError") = true) : kitB n c = some (subB n c) := isi_all n (btn_mem h1) c (btn_mem h2) h3
theorem isi_of {tb : List (String × String × Bool)} (h : TbOk K ca tb) {n c : String} {b : Bool} (q : isiOf tb n c = some b) : PySem.W.kitOne K (vOf ca n) (vOf ca c) = some b := by
  unfold isiOf at q
  split at q
  · rename_i z
    rw [Bool.and_eq_true, Bool.and_eq_true] at z
    cases q
    unfold vOf
    rw [if_pos z.1.1, if_pos z.1.2]
    exact kit_ty (isi_sub z.1.1 z.1.2 z.2)
  · exact h.of q
theorem cl_at {y : V} {dy : D} {k : String} (r : Rep K ca F m y dy) (h : clOf dy = some k) : ClsV y (vOf ca k) := by
  cases r with
  | ty n =>
    unfold clOf at h
    simp only at h
    split at h
    · rename_i z; cases h; unfold vOf; rw [if_pos z]; exact .ty _
    · cases h
  | nm C =>
    unfold clOf at h
    simp only at h
    split at h
    · cases h
    · rename_i z; cases h; unfold vOf; rw [if_neg z]; exact .own _
  | _ => cases h
/-- how isinstance sees a thing -/
inductive Sees (K : PySem.W.Frag) (H : Hp) (x : V) (u : Value) : Prop
  | ty : TyX K H x u → Sees K H x u
  | exc {a C : Addr} : x = .ref a → u = .ref C → H a = some (ExK C a) → ExcC K C → Sees K H x u
theorem sees_of {os xs : List String} {x : V} {n : String} (ho : AllC (fun C => InC K (ca C) ∧ btn C = false) os) (hx : AllC (fun C => ExcC K (ca C) ∧ btn C = false) xs) (R : Rl K ca F m A H) (rx : Rep K ca F m x dx) (h : kdOf os xs A dx = some n) : Sees K H x (vOf ca n) := by
  cases rx with
  | non => cases h; exact .ty (.base .non)
  | bl b => cases h; exact .ty (.base (.bl b))
  | int b => cases h; exact .ty (.base (.int b))
  | str b => cases h; exact .ty (.base (.str b))
  | tup s r => cases h; exact .ty (.base (.tup (R.fh _ _ s)))
  | exc s =>
    rename_i a C
    unfold kdOf at h
    simp only at h
    split at h
    · rename_i z; cases h
      have k := AllC.of hx z
      refine .exc rfl ?_ (R.fh _ _ s) k.1
      unfold vOf; rw [k.2]; rfl
    · cases h
  | ref hm =>
    unfold kdOf at h
    simp only at h
    split at h
    · rename_i l hA
      cases h
      obtain ⟨a, vs, e, h1, h2, h3⟩ := lst_at R (.ref hm) hA
      rw [e]
      exact .ty (.base (.lst h2))
    · rename_i t lk l hA
      split at h
      · cases h
      · rename_i z
        cases h
        obtain ⟨a, e, ha, r⟩ := R.at hA (.ref hm)
        rw [e]
        cases t with
        | false =>
          obtain ⟨kvs, h1, _⟩ := r
          cases lk with
          | false => exact .ty (.base (.dK h1))
          | true => obtain ⟨od, h1⟩ := h1; exact .ty (.fDict h1)
        | true =>
          obtain ⟨kvs, h1, _⟩ := r
          cases lk with
          | false => exact .ty (.base (.dT h1))
          | true => exact absurd rfl z
    · rename_i C fs hA
      split at h
      · rename_i z
        cases h
        obtain ⟨a, e, ha, dxx, kvs, h1, _⟩ := R.at hA (.ref hm)
        rw [e]
        have k := AllC.of ho z
        have i := k.1
        refine .ty (.base ?_)
        unfold vOf
        rw [k.2]
        exact .ins h1 i.cl i.ha i.hn i.ht i.hm
      · cases h
    · cases h
  | _ => cases h
theorem isiAny_kit {tb : List (String × String × Bool)} (ht : TbOk K ca tb) {n : String} : ∀ {vs : List V} {l : List D} {b : Bool}, RepL K ca F m vs l → isiAll l = true → isiAny tb n l = some b → ∃ us, Paired ClsV vs us ∧ PySem.W.kitAny K (vOf ca n) us = some b
  | _, _, _, .nil, _, h => by cases h; exact ⟨[], .nil, kitAny_nil⟩
  | _, _, _, .cons r rs, ha, h => by
    unfold isiAll at ha
    rw [Bool.and_eq_true] at ha
    unfold isiAny at h
    cases q : clOf _ with
    | none => rw [q] at h; cases h
    | some k =>
      rw [q] at h
      simp only at h
      cases q2 : isiOf tb n k with
      | none => rw [q2] at h; cases h
      | some c =>
        rw [q2] at h
        have k1 := isi_of ht q2
        cases c with
        | true =>
          cases h
          -- the rest only has to be classes
          have rest : ∀ {vs : List V} {l : List D}, RepL K ca F m vs l → isiAll l = true → ∃ us, Paired ClsV vs us := by
            intro vs l
            induction l generalizing vs with
            | nil => intro r _; cases r; exact ⟨[], .nil⟩
            | cons d l ih =>
              intro r hl
              cases r with
              | cons r1 r2 =>
                unfold isiAll at hl
                rw [Bool.and_eq_true] at hl
                obtain ⟨us, hus⟩ := ih r2 hl.2
                cases z : clOf d with
                | none => rw [z] at hl; cases hl.1
                | some kk => exact ⟨_ :: us, .cons (cl_at r1 z) hus⟩
          obtain ⟨us, hus⟩ := rest rs ha.2
          exact ⟨_ :: us, .cons (cl_at r q) hus, kitAny_cons k1 (fun z => by cases z) fun _ => rfl⟩
        | false =>
          obtain ⟨us, h1, h2⟩ := isiAny_kit ht rs ha.2 h
          exact ⟨_ :: us, .cons (cl_at r q) h1, kitAny_cons k1 (fun _ => h2) fun z => by cases z⟩
/-- isinstance(x, c) -/
theorem cs_isi {os xs : List String} {tb : List (String × String × Bool)} (ho : AllC (fun C => InC K (ca C) ∧ btn C = false) os) (hx : AllC (fun C => ExcC K (ca C) ∧ btn C = false) xs) (ht : TbOk K ca tb) : CbS K ca (rIsiU K) (c2 (oIsi os xs tb)) := cs_2 fun F m A H x y dx dy W σ Q R rx ry p => by
  unfold oIsi at p
  cases q : isiD os xs tb A dx dy with
  | none => rw [q] at p; exact p.elim
  | some b =>
    rw [q] at p
    have hq := po_ok R (Rep.bl _) p
    unfold isiD at q
    cases z : kdOf os xs A dx with
    | none => rw [z] at q; cases q
    | some n =>
      rw [z] at q
      have sees := sees_of ho hx R rx z
      have one : ∀ k, clOf dy = some k → isiOf tb n k = some b → rIsiU K [x, y] H Q := fun k h1 h2 => by
        have kit := isi_of ht h2
        have cl := cl_at ry h1
        cases sees with
        | ty t => exact .inl ⟨x, y, _, _, b, rfl, cl, t, kit, hq⟩
        | exc e1 e2 e3 e4 =>
          subst e1
          rw [e2] at kit
          exact .inr (.inr (.inl ⟨_, _, y, _, b, rfl, e3, e4, cl, kit, hq⟩))
      cases ry with
      | tup s rs =>
        simp only at q
        split at q
        · rename_i ha
          obtain ⟨us, h1, h2⟩ := isiAny_kit ht rs ha q
          cases sees with
          | ty t => exact .inr (.inl ⟨x, _, _, _, us, b, rfl, R.fh _ _ s, h1, t, h2, hq⟩)
          | exc e1 e2 e3 e4 =>
            subst e1
            rw [e2] at h2
            exact .inr (.inr (.inr ⟨_, _, _, _, us, b, rfl, e3, e4, R.fh _ _ s, h1, h2, hq⟩))
        · cases q
      | ty n' =>
        simp only at q
        split at q
        · rename_i k hk; exact one k hk q
        · cases q
      | nm n' =>
        simp only at q
        split at q
        · rename_i k hk; exact one k hk q
        · cases q
      | _ => simp [clOf] at q
end
end SM

namespace L2
open PySem PySem.Spec PyProof.Rows
theorem extT_go (l : Addr) (items : Array Value) (n : Nat) (b : Addr) (items2 : Array Value) (n2 : Nat) (dd : Option Addr) (sl : Array (Option Value)) (hs0 : ¬(!items.isEmpty && Builtin.List.listTooLong (items.size + items2.size)) = true) (hs1 : items.size ≤ sizeLine) (hs2 : items.size + items2.size ≤ sizeLine + 1) :
    Meets (Builtin.«list.extend» ⟨[.ref l, .ref b], []⟩) (fun _ R s => s.heap.get? l = some { cls := .type "list", dict := none, data := .seq items n, slots := #[] } ∧ s.heap.get? b = some { cls := .type "tuple", dict := dd, data := .seq items2 n2, slots := sl } ∧ R (.ok (.ret Value.none)) { s with heap := s.heap.update l (Obj.mapSeq fun x => x ++ items2), toks := s.toks }) :=
  .of_wp fun prog w A R s h => by
    obtain ⟨hp, g, d, tk, os⟩ := s; obtain ⟨hl, hb, h⟩ := h
    have f1 := AutoSeq1.idx_int; have f2 := AutoSeq1.sub_tuple_tuple; have f3 := AutoSeq1.sub_list_list; have f4 := AutoSeq1.sub_tuple_list; have f5 := AutoSeq1.sub_list_tuple
    have hz' : (items ++ items2).size ≤ sizeLine + 1 := by rw [Array.size_append]; exact hs2
    wp_walk using (wpAny_updateSeq hl rfl (hz := hs1) (_hz' := hz')), wpAny_loadPart' hl, wpAny_loadPart' hb; exact ⟨_, rfl, h⟩
/-- xs.extend(tuple) -/
def rExtT (K : PySem.W.Frag) : V → List V → Hp → VK → Prop := fun x vs H Q => ∃ l b xs zs, x = .ref l ∧ vs = [.ref b] ∧ H l = some (.lst xs) ∧ H b = some (.tup zs) ∧ xs.length + zs.length ≤ sizeLine ∧ Q .non (upd H l (.lst (xs ++ zs)))
theorem mt_extT {X : Cx} : MtR X "list.extend" (rExtT X.K) := by
  intro pins s σ H x vs v us Q I rx rv h
  obtain ⟨l, b, xs, zs, rfl, rfl, hH, hB, hz, q⟩ := h
  cases rx
  obtain ⟨u, rfl, ru⟩ := rv.one
  cases ru
  obtain ⟨z, its, n, r, hl, e⟩ := I.lstM hH
  obtain ⟨z2, its2, r2, ⟨oc, od, dt, sl⟩, e2, hc2, n2, hd2⟩ := (show ObjOk X.prog X.w H s.heap b (.tup zs) from I.hok b _ hB)
  dsimp only at hc2 hd2
  subst hc2 hd2
  have hl2 := r2.length
  have hsz : its.toArray.size + its2.toArray.size ≤ sizeLine := by rw [List.size_toArray, List.size_toArray]; omega
  have hlong : ¬ (!its.toArray.isEmpty && Builtin.List.listTooLong (its.toArray.size + its2.toArray.size)) = true := by
    rw [notLongL hsz, Bool.and_false]
    exact Bool.false_ne_true
  refine call_meets F.slot_list_extend ⟨_, e, rfl⟩ F.entry_list_extend (F.args_list_extend_2 _ _)
    (extT_go l its.toArray n b its2.toArray n2 od sl hlong (by rw [List.size_toArray]; omega) (by omega)) ⟨e, e2, ?_⟩
  refine ⟨.non, _, I.lset (its' := its ++ its2) hH e (by simp) (r.append r2) ?_, rfl, q⟩
  rw [List.length_append]
  omega
def rExtA (K : PySem.W.Frag) : V → List V → Hp → VK → Prop := fun x vs H Q => rExtend x vs H Q ∨ rExtT K x vs H Q
end L2
namespace SM
open PySem L2
open DL (Ex ExK rInt1 iSeqU rng rngC rng_len rngC_len rng_get rngC_get enumD enumD_len enumD_get zipD)
section
variable {K : PySem.W.Frag} {ca : CaT} {F F1 F2 H H1 H2 : Hp} {m m1 m2 : List Addr} {A A1 A2 : Hs} {σ : L2.St} {env : Sl} {W : WX} {Q : VK}
variable {ta tb tc te to ti : TE} {a b c o : E} {i : Nat} {d : D} {ts : TA} {as : As} {x : V} {dx : D}
/-! ### what is walked -/
theorem SimI.pick {t u : TI} {f g h : Sl → Hs → RE Wk} (h1 : SimI K ca W t g) (h2 : SimI K ca W u h) (k : ∀ env A, f env A = g env A ∨ f env A = h env A) : SimI K ca W (fun σ H R => t σ H R ∨ u σ H R) f := fun F m A σ H env Q R S p => by
  rcases k env A with q | q
  · rw [q] at p; exact .inl (h1 F m A σ H env Q R S p)
  · rw [q] at p; exact .inr (h2 F m A σ H env Q R S p)
def tt : Hs → Prop := fun _ => True
/-- the signs of a text -/
def signsOf (z : Str) : List D := z.cps.toList.map fun c => .str ⟨#[c]⟩
def wkL (A : Hs) (x : D) : Option Wk := match x with
  | .ref i => match A[i]? with
    | some (.lst l) => some ⟨l, fun A' => A'[i]? = some (.lst l)⟩
    | _ => none
  | .scr l => some ⟨l, tt⟩
  | _ => none
def wkT (_ : Hs) (x : D) : Option Wk := match x with
  | .tup l => some ⟨l, tt⟩
  | .wt l => some ⟨l, tt⟩
  | _ => none
def wkS (_ : Hs) (x : D) : Option Wk := match x with
  | .str z => some ⟨signsOf z, tt⟩
  | _ => none
/-- a list, a tuple, a text -/
def wkA (A : Hs) (x : D) : Option Wk := match x with
  | .ref _ => wkL A x
  | .scr _ => wkL A x
  | .tup _ => wkT A x
  | .wt _ => wkT A x
  | _ => wkS A x
def wOf (f : Hs → D → Option Wk) (a : E) : Sl → Hs → RE Wk := fun env A => (a env A).bind fun x A1 => match f A1 x with
  | some k => .ok k A1
  | none => .stuck
def wSeq (a : E) : Sl → Hs → RE Wk := wOf wkA a
theorem wOf_bind {f : Hs → D → Option Wk} {R' : It → Hp → Prop} {T : VK} (h : SimE K ca W te a) (R : Rl K ca F m A H) (S : Slt K ca F m σ env) (p : PoW K ca F m H W σ R' (wOf f a env A))
    (k : ∀ F1 m1 A1 H1 x d kk, Rl K ca F1 m1 A1 H1 → Rep K ca F1 m1 x d → f A1 d = some kk → PoW K ca F1 m1 H1 W σ R' (.ok kk A1) → T x H1) : te σ H T := by
  refine h F m A σ H env T R S ?_
  unfold wOf at p
  cases q : a env A with
  | ok d A1 =>
    rw [q] at p
    intro v F1 m1 H1 R1 g1 r
    simp only [RE.bind] at p
    cases z : f A1 d with
    | none => rw [z] at p; exact p.elim
    | some kk =>
      rw [z] at p
      exact k F1 m1 A1 H1 v d kk R1 r z fun J F' m' H' R2 g2 hh => p J F' m' H' R2 (g1.trans g2) hh
  | exc C A1 => rw [q] at p; exact p
  | stuck => rw [q] at p; exact p
/-- the list at a, as it is at each turn -/
theorem walk_live {a : Addr} {n : Nat} : Walk (Itl K a) n (fun H => ∃ vs, SqL K H a vs ∧ vs.length = n) (fun i H x H' => H' = H ∧ ∀ xs, SqL K H a xs → xs[i]? = some x) :=
  ⟨fun i _ hi ⟨vs, q, e⟩ => ⟨vs, vs[i]'(by omega), q, by simp [show i < vs.length by omega]⟩, fun _ ⟨vs, q, e⟩ => ⟨vs, q, by omega⟩, fun _ _ _ _ _ _ y => y⟩
theorem sw_list (h : SimE K ca W te a) : SimI K ca W (iList K te) (wOf wkL a) := fun F m A σ H env Q R S p => wOf_bind h R S p fun F1 m1 A1 H1 x d kk R1 r hk p1 => by
  cases r with
  | ref hm =>
    rename_i aa i
    unfold wkL at hk
    simp only at hk
    cases hA : A1[i]? with
    | none => simp [hA] at hk
    | some o =>
      cases o with
      | lst l =>
        simp only [hA, Option.some.injEq] at hk
        subst hk
        obtain ⟨a', vs, e, h1, h2, h3⟩ := lst_at R1 (.ref hm) hA
        cases e
        refine ⟨aa, rfl, ⟨vs, .inl (.inl h2)⟩, p1 _ F1 m1 H1 R1 Stp.refl ⟨_, _, walk_live, fun F2 m2 A2 H2 hg R2 g2 => ?_, fun i' d' x' F2 m2 A2 H2 H3 e hg R2 g2 y => .inl ⟨y.1, ?_⟩⟩⟩
        · obtain ⟨a2, vs2, e2, _, h4, h5⟩ := lst_at R2 (.ref (g2.mm.get h1)) hg
          cases e2
          exact ⟨vs2, .inl (.inl h4), h5.length⟩
        · obtain ⟨a2, vs2, e2, _, h4, h5⟩ := lst_at R2 (.ref (g2.mm.get h1)) hg
          cases e2
          obtain ⟨z, z1, z2⟩ := h5.get e
          have := y.2 vs2 (.inl (.inl h4))
          rw [z1] at this; cases this; exact z2
      | dic _ _ _ => simp [hA] at hk
      | obj _ _ => simp [hA] at hk
  | scr s rs =>
    cases hk
    refine ⟨_, rfl, ⟨_, R1.fh.l s⟩, p1 _ F1 m1 H1 R1 Stp.refl ⟨_, _, walk_live, fun F2 m2 A2 H2 hg R2 g2 => ⟨_, R2.fh.l (g2.ff.l s), rs.length⟩, fun i' d' x' F2 m2 A2 H2 H3 e hg R2 g2 y => .inl ⟨y.1, ?_⟩⟩⟩
    obtain ⟨z, z1, z2⟩ := rs.get e
    have := y.2 _ (R2.fh.l (g2.ff.l s))
    rw [z1] at this; cases this; exact z2.mono g2.ff g2.mm
  | _ => cases hk
theorem sw_tup (h : SimE K ca W te a) : SimI K ca W (iTup K te) (wOf wkT a) := fun F m A σ H env Q R S p => wOf_bind h R S p fun F1 m1 A1 H1 x d kk R1 r hk p1 => by
  have main : ∀ {aa : Addr} {vs : List V} {l : List D}, SqT K F1 aa vs → RepL K ca F1 m1 vs l → kk = ⟨l, tt⟩ → x = .ref aa → ∃ a, x = .ref a ∧ (∃ xs, SqT K H1 a xs) ∧ Q (Itt K a) H1 := fun {aa vs l} s rs e ex => by
    subst e
    refine ⟨aa, ex, ⟨vs, R1.fh.t s⟩, p1 _ F1 m1 H1 R1 Stp.refl ⟨fun H => SqT K H aa vs, YAt vs, by rw [show (Wk.mk l _).ds.length = vs.length from rs.length.symm]; exact walk_tup, fun F2 m2 A2 H2 hg R2 g2 => R2.fh.t (g2.ff.t s), fun i' d' x' F2 m2 A2 H2 H3 e hg R2 g2 y => .inl ⟨y.1, ?_⟩⟩⟩
    obtain ⟨z, z1, z2⟩ := rs.get e
    have := y.2
    rw [z1] at this; cases this; exact z2.mono g2.ff g2.mm
  cases r with
  | tup s rs => cases hk; exact main (.inl (.inl s)) rs rfl rfl
  | wt s rs => cases hk; exact main s rs rfl rfl
  | _ => cases hk
theorem sw_str (h : SimE K ca W te a) : SimI K ca W (iStr te) (wOf wkS a) := fun F m A σ H env Q R S p => wOf_bind h R S p fun F1 m1 A1 H1 x d kk R1 r hk p1 => by
  cases r with
  | str z =>
    cases hk
    refine ⟨z, rfl, p1 _ F1 m1 H1 R1 Stp.refl ⟨fun _ => True, (fun i H v H' => H' = H ∧ ∃ c, z.cps[i]? = some c ∧ v = .str ⟨#[c]⟩), by rw [show (Wk.mk (signsOf z) _).ds.length = z.cps.size by unfold signsOf; simp]; exact walk_str, fun _ _ _ _ _ _ _ => trivial, fun i' d' x' F2 m2 A2 H2 H3 e hg R2 g2 y => .inl ⟨y.1, ?_⟩⟩⟩
    obtain ⟨_, c, h1, h2⟩ := y
    have e' : (signsOf z)[i']? = some d' := e
    unfold signsOf at e'
    rw [List.getElem?_map, Array.getElem?_toList, h1] at e'
    cases e'
    rw [h2]
    exact .str _
  | _ => cases hk
theorem wOf_pick {f g h : Hs → D → Option Wk} {a : E} (k : ∀ A x, f A x = g A x ∨ f A x = h A x) (env : Sl) (A : Hs) : wOf f a env A = wOf g a env A ∨ wOf f a env A = wOf h a env A := by
  unfold wOf
  cases a env A with
  | stuck => exact .inl rfl
  | exc _ _ => exact .inl rfl
  | ok x A1 =>
    simp only [RE.bind]
    rcases k A1 x with q | q
    · rw [q]; exact .inl rfl
    · rw [q]; exact .inr rfl
def wkTS (A : Hs) (x : D) : Option Wk := match x with
  | .tup _ => wkT A x
  | .wt _ => wkT A x
  | _ => wkS A x
theorem sw_seq (h : SimE K ca W te a) : SimI K ca W (iSeqU K te) (wSeq a) := SimI.pick (sw_list h) (SimI.pick (sw_tup h) (sw_str h) (wOf_pick (f := wkTS) fun A x => by cases x <;> first | exact .inl rfl | exact .inr rfl)) (wOf_pick fun A x => by cases x <;> first | exact .inl rfl | exact .inr rfl)
/-! ranges -/
def wAs (f : List D → Option Wk) (as : As) : Sl → Hs → RE Wk := fun env A => (as env A).bind fun ds A1 => match f ds with
  | some k => .ok k A1
  | none => .stuck
theorem wAs_bind {f : List D → Option Wk} {R' : It → Hp → Prop} {T : List V → Hp → Prop} (h : SimA K ca W ts as) (R : Rl K ca F m A H) (S : Slt K ca F m σ env) (p : PoW K ca F m H W σ R' (wAs f as env A))
    (k : ∀ F1 m1 A1 H1 x d kk, Rl K ca F1 m1 A1 H1 → RepL K ca F1 m1 x d → f d = some kk → PoW K ca F1 m1 H1 W σ R' (.ok kk A1) → T x H1) : ts σ H T := by
  refine h F m A σ H env T R S ?_
  unfold wAs at p
  cases q : as env A with
  | ok d A1 =>
    rw [q] at p
    intro v F1 m1 H1 R1 g1 r
    simp only [RE.bind] at p
    cases z : f d with
    | none => rw [z] at p; exact p.elim
    | some kk =>
      rw [z] at p
      exact k F1 m1 A1 H1 v d kk R1 r z fun J F' m' H' R2 g2 hh => p J F' m' H' R2 (g1.trans g2) hh
  | exc C A1 => rw [q] at p; exact p
  | stuck => rw [q] at p; exact p
def big (i : Int) : Prop := -(2 ^ 62) ≤ i ∧ i < 2 ^ 62
def rgL (lo c : Int) (n : Nat) : List D := (List.range n).map fun i => .int (lo + (i : Nat) * c)
theorem rgL_get {lo c : Int} {n i : Nat} {d : D} (h : (rgL lo c n)[i]? = some d) : d = .int (lo + (i : Nat) * c) ∧ i < n := by
  unfold rgL at h
  rw [List.getElem?_map] at h
  by_cases q : i < n
  · rw [List.getElem?_range q] at h; cases h; exact ⟨rfl, q⟩
  · rw [List.getElem?_eq_none (by simpa using Nat.le_of_not_lt q)] at h; cases h
theorem rgL_len {lo c : Int} {n : Nat} : (rgL lo c n).length = n := by unfold rgL; simp
open Classical in
noncomputable def rg1 : List D → Option Wk
  | [.int j] => if big j then some ⟨rgL 0 1 j.toNat, tt⟩ else none
  | _ => none
open Classical in
noncomputable def rg2 : List D → Option Wk
  | [.int i, .int j] => if big i ∧ big j then some ⟨rgL i 1 (j - i).toNat, tt⟩ else none
  | _ => none
def cnt (i j c : Int) : Nat := (if i < j then (j - i - 1) / c + 1 else 0).toNat
open Classical in
noncomputable def rg3 : List D → Option Wk
  | [.int i, .int j, .int c] => if -(2 ^ 60) ≤ i ∧ i < 2 ^ 60 ∧ -(2 ^ 60) ≤ j ∧ j < 2 ^ 60 ∧ 0 < c ∧ c < 1000000 then some ⟨rgL i c (cnt i j c), tt⟩ else none
  | _ => none
theorem sw_r1 (h : SimA K ca W ts as) : SimI K ca W (iRng1 ts) (wAs rg1 as) := fun F m A σ H env Q R S p => wAs_bind h R S p fun F1 m1 A1 H1 x d kk R1 r hk p1 => by
  match d, x, r, hk with
  | [.int j], _, .cons (.int _) .nil, hk =>
    unfold rg1 at hk
    simp only at hk
    split at hk
    · rename_i hb
      cases hk
      refine ⟨j, rfl, hb.1, hb.2, p1 _ F1 m1 H1 R1 Stp.refl ⟨fun _ => True, YFn fun i => .int (0 + i), by rw [show (Wk.mk (rgL 0 1 j.toNat) _).ds.length = j.toNat from rgL_len]; exact walk_range, fun _ _ _ _ _ _ _ => trivial, fun i' d' x' F2 m2 A2 H2 H3 e hg R2 g2 y => .inl ⟨y.1, ?_⟩⟩⟩
      obtain ⟨e1, _⟩ := rgL_get e
      rw [y.2, e1, Int.mul_one]; exact .int _
    · cases hk
theorem sw_r3 (h : SimA K ca W ts as) : SimI K ca W (iRng3 ts) (wAs rg3 as) := fun F m A σ H env Q R S p => wAs_bind h R S p fun F1 m1 A1 H1 x d kk R1 r hk p1 => by
  match d, x, r, hk with
  | [.int i, .int j, .int c], _, .cons (.int _) (.cons (.int _) (.cons (.int _) .nil)), hk =>
    unfold rg3 at hk
    simp only at hk
    split at hk
    · rename_i hb
      cases hk
      refine ⟨i, j, c, cnt i j c, rfl, DL.rg_up hb.1 hb.2.1 hb.2.2.1 hb.2.2.2.1 hb.2.2.2.2.1 hb.2.2.2.2.2, p1 _ F1 m1 H1 R1 Stp.refl ⟨fun _ => True, YFn fun n => .int (i + (n : Nat) * c), by rw [show (Wk.mk (rgL i c (cnt i j c)) _).ds.length = cnt i j c from rgL_len]; exact walk_rangeC, fun _ _ _ _ _ _ _ => trivial, fun i' d' x' F2 m2 A2 H2 H3 e hg R2 g2 y => .inl ⟨y.1, ?_⟩⟩⟩
      obtain ⟨e1, _⟩ := rgL_get e
      rw [y.2, e1]; exact .int _
    · cases hk
/-! enumerate, zip -/
def enumL (l : List D) : List D := l.zipIdx.map fun p => .tup [.int (p.2 : Nat), p.1]
theorem enumL_len {l : List D} : (enumL l).length = l.length := by simp [enumL]
theorem enumL_get {l : List D} {i : Nat} {d : D} (h : (enumL l)[i]? = some d) : ∃ x, l[i]? = some x ∧ d = .tup [.int (i : Nat), x] := by
  unfold enumL at h
  rw [List.getElem?_map, List.getElem?_zipIdx] at h
  cases q : l[i]? with
  | none => rw [q] at h; cases h
  | some x => rw [q] at h; simp at h; exact ⟨x, rfl, h.symm⟩
def wkE (A : Hs) (x : D) : Option Wk := (wkL A x).map fun k => ⟨enumL k.ds, k.gd⟩
theorem walk_enumL {a : Addr} {n : Nat} : Walk (Ite K a) n (fun H => ∃ vs, SqL K H a vs ∧ vs.length = n) (fun i H v H' => ∃ T x, v = .ref T ∧ H T = none ∧ H' = upd H T (.tup [.int (i : Nat), x]) ∧ ∀ xs, SqL K H a xs → xs[i]? = some x) :=
  ⟨fun i _ hi ⟨vs, q, e⟩ => ⟨vs, vs[i]'(by omega), q, by simp [show i < vs.length by omega]⟩, fun _ ⟨vs, q, e⟩ => ⟨vs, q, by omega⟩, fun _ _ _ _ _ _ y => y⟩
theorem sw_enum (h : SimE K ca W te a) : SimI K ca W (iEnum K (tCons te tNil)) (wOf wkE a) := fun F m A σ H env Q R S p => wOf_bind h R S p fun F1 m1 A1 H1 x d kk R1 r hk p1 => by
  cases r with
  | ref hm =>
    rename_i aa i
    unfold wkE wkL at hk
    simp only at hk
    cases hA : A1[i]? with
    | none => simp [hA] at hk
    | some o =>
      cases o with
      | lst l =>
        simp only [hA, Option.map, Option.some.injEq] at hk
        subst hk
        obtain ⟨a', vs, e, h1, h2, h3⟩ := lst_at R1 (.ref hm) hA
        cases e
        refine ⟨aa, vs, rfl, .inl (.inl h2), p1 _ F1 m1 H1 R1 Stp.refl ⟨_, _, walk_enumL, fun F2 m2 A2 H2 hg R2 g2 => ?_, fun i' d' x' F2 m2 A2 H2 H3 e hg R2 g2 y => .inr (.inl ?_)⟩⟩
        · obtain ⟨a2, vs2, e2, _, h4, h5⟩ := lst_at R2 (.ref (g2.mm.get h1)) hg
          cases e2
          exact ⟨vs2, .inl (.inl h4), by rw [h5.length]; exact enumL_len.symm⟩
        · obtain ⟨a2, vs2, e2, _, h4, h5⟩ := lst_at R2 (.ref (g2.mm.get h1)) hg
          cases e2
          obtain ⟨T, z, y1, y2, y3, y4⟩ := y
          obtain ⟨dx, q1, q2⟩ := enumL_get e
          obtain ⟨w, w1, w2⟩ := h5.get q1
          have := y4 vs2 (.inl (.inl h4))
          rw [w1] at this; cases this
          exact ⟨T, _, _, q2, y1, y2, y3, .cons (.int _) (.cons w2 .nil)⟩
      | dic _ _ _ => simp [hA] at hk
      | obj _ _ => simp [hA] at hk
  | scr s rs =>
    cases hk
    refine ⟨_, _, rfl, R1.fh.l s, p1 _ F1 m1 H1 R1 Stp.refl ⟨_, _, walk_enumL, fun F2 m2 A2 H2 hg R2 g2 => ⟨_, R2.fh.l (g2.ff.l s), by rw [rs.length]; exact enumL_len.symm⟩, fun i' d' x' F2 m2 A2 H2 H3 e hg R2 g2 y => .inr (.inl ?_)⟩⟩
    obtain ⟨T, z, y1, y2, y3, y4⟩ := y
    obtain ⟨dx, q1, q2⟩ := enumL_get e
    obtain ⟨w, w1, w2⟩ := rs.get q1
    have := y4 _ (R2.fh.l (g2.ff.l s))
    rw [w1] at this; cases this
    exact ⟨T, _, _, q2, y1, y2, y3, .cons (.int _) (.cons (w2.mono g2.ff g2.mm) .nil)⟩
  | _ => cases hk

/-! ### methods of lists -/
def eBL (o : D → List D → Hs → RE D) (a : E) (as : As) : E := fun env A => (a env A).bind fun x A1 => if (seqL A1 x).isSome then (as env A1).bind fun ds A2 => o x ds A2 else .stuck
def eBL0 (o : D → Hs → RE D) (a : E) : E := fun env A => (a env A).bind fun x A1 => if (seqL A1 x).isSome then o x A1 else .stuck
def MbS (K : PySem.W.Frag) (ca : CaT) (r : V → List V → Hp → VK → Prop) (o : D → List D → Hs → RE D) : Prop := ∀ F m A H x dx vs ds W σ Q, Rl K ca F m A H → Rep K ca F m x dx → RepL K ca F m vs ds → Po K ca (Rep K ca) F m H W σ Q (o dx ds A) → r x vs H Q
theorem tyL_at {A : Hs} (R : Rl K ca F m A H) (r : Rep K ca F m x dx) (h : (seqL A dx).isSome = true) : tyV K "list" x H := by
  obtain ⟨l, hl⟩ := Option.isSome_iff_exists.mp h
  obtain ⟨a, vs, e, h1, h2⟩ := seqL_at R r hl
  subst e
  exact .inl ⟨rfl, vs, h1⟩
theorem se_bl_ {r : V → List V → Hp → VK → Prop} {o : D → List D → Hs → RE D} (h : MbS K ca r o) (ha : SimE K ca W ta a) (hs : SimA K ca W ts as) : SimE K ca W (tBM K "list" r ta ts) (eBL o a as) := fun F m A σ H env Q R S p =>
  ha.bind R S p fun F1 m1 A1 H1 x dx R1 g1 S1 rx p1 => by
    by_cases q : (seqL A1 dx).isSome = true
    · rw [if_pos q] at p1
      exact ⟨tyL_at R1 rx q, hs.bind R1 S1 p1 fun F2 m2 A2 H2 vs ds R2 g2 S2 rs p2 => h F2 m2 A2 H2 x dx vs ds W σ Q R2 (rx.mono g2.ff g2.mm) rs p2⟩
    · rw [if_neg q] at p1; exact p1.elim
/-- the list that stands at a place -/
def lstAt (A : Hs) : D → Option (Nat × List D)
  | .ref i => match A[i]? with
    | some (.lst l) => some (i, l)
    | _ => none
  | _ => none
theorem lstAt_at {A : Hs} {l : List D} (h : lstAt A dx = some (i, l)) : dx = .ref i ∧ A[i]? = some (.lst l) := by
  cases dx with
  | ref j =>
    unfold lstAt at h
    cases q : A[j]? with
    | none => simp [q] at h
    | some o =>
      cases o with
      | lst l' => simp [q] at h; obtain ⟨rfl, rfl⟩ := h; exact ⟨rfl, q⟩
      | dic _ _ _ => simp [q] at h
      | obj _ _ => simp [q] at h
  | _ => cases h
theorem po_put {v : V} {d : D} {a : Addr} {vs vs' : List V} {l' : List D} (R : Rl K ca F m A H) (ha : m[i]? = some a) (h1 : H a = some (.lst vs)) (r : RepL K ca F m vs' l') (rv : Rep K ca F m v d) (p : Po K ca (Rep K ca) F m H W σ Q (.ok d (A.set i (.lst l')))) : Q v (upd H a (.lst vs')) := by
  obtain ⟨R2, g2⟩ := lst_put R ha h1 r
  exact p _ _ _ _ R2 g2 rv
def oAppend (x : D) (ds : List D) (A : Hs) : RE D := match lstAt A x, ds with
  | some (i, l), [d] => if l.length < sizeLine then .ok .non (A.set i (.lst (l ++ [d]))) else .stuck
  | _, _ => .stuck
theorem ms_append : MbS K ca rAppend oAppend := fun F m A H x dx vs ds W σ Q R rx rs p => by
  unfold oAppend at p
  split at p
  · rename_i i l d hA
    split at p
    · rename_i hl
      obtain ⟨e, hA2⟩ := lstAt_at hA
      subst e
      obtain ⟨a, vs', e, h1, h2, h3⟩ := lst_at R rx hA2
      match vs, rs with
      | [y], .cons r1 .nil => exact ⟨a, vs', y, e, rfl, h2, by rw [h3.length]; exact hl, po_put R h1 h2 (h3.append (.cons r1 .nil)) .non p⟩
    · exact p.elim
  · exact p.elim
def oExtend (x : D) (ds : List D) (A : Hs) : RE D := match lstAt A x, ds with
  | some (i, l), [d] => match lstAt A d with
    | some (_, k) => if l.length + k.length ≤ sizeLine then .ok .non (A.set i (.lst (l ++ k))) else .stuck
    | none => match d with
      | .tup k => if l.length + k.length ≤ sizeLine then .ok .non (A.set i (.lst (l ++ k))) else .stuck
      | _ => .stuck
  | _, _ => .stuck
theorem ms_extend : MbS K ca (rExtA K) oExtend := fun F m A H x dx vs ds W σ Q R rx rs p => by
  unfold oExtend at p
  split at p
  · rename_i i l d hA
    obtain ⟨e, hA2⟩ := lstAt_at hA
    subst e
    obtain ⟨a, vs', e, h1, h2, h3⟩ := lst_at R rx hA2
    match vs, rs with
    | [y], .cons r1 .nil =>
      split at p
      · rename_i j k hB
        split at p
        · rename_i hl
          obtain ⟨e2, hB2⟩ := lstAt_at hB
          subst e2
          obtain ⟨b, ws, e3, h4, h5, h6⟩ := lst_at R r1 hB2
          exact .inl ⟨a, b, vs', ws, e, by rw [e3], h2, h5, by rw [h3.length, h6.length]; exact hl, po_put R h1 h2 (h3.append h6) .non p⟩
        · exact p.elim
      · cases r1 with
        | tup s rs' =>
          simp only at p
          split at p
          · rename_i hl
            exact .inr ⟨a, _, vs', _, e, rfl, h2, R.fh _ _ s, by rw [h3.length, rs'.length]; exact hl, po_put R h1 h2 (h3.append rs') .non p⟩
          · exact p.elim
        | _ => exact p.elim
  · exact p.elim
def oPopAt (x : D) (ds : List D) (A : Hs) : RE D := match lstAt A x, ds with
  | some (i, l), [.int j] => if -(2 ^ 63) ≤ j ∧ j < 2 ^ 63 then match seqIndex? j l.length with
      | some k => match l[k]? with
        | some d => .ok d (A.set i (.lst (l.eraseIdx k)))
        | none => .stuck
      | none => .stuck
    else .stuck
  | _, _ => .stuck
def oClear (x : D) (A : Hs) : RE D := match lstAt A x with
  | some (i, _) => .ok .non (A.set i (.lst []))
  | none => .stuck
/-- bs.count(c), bs.index(c), of truths -/
def oCount (x : D) (ds : List D) (A : Hs) : RE D := match (seqL A x).bind boolsOf, ds with
  | some bs, [.bl c] => .ok (.int (bs.count c : Nat)) A
  | _, _ => .stuck
end
end SM

namespace SM
open PySem L2
open DL (Ex ExK rJoin rIdxS)
section
variable {K : PySem.W.Frag} {ca : CaT} {F F1 F2 H H1 H2 : Hp} {m m1 m2 : List Addr} {A A1 A2 : Hs} {σ : L2.St} {env : Sl} {W : WX} {Q : VK}
variable {ta tb tc te to ti : TE} {a b c o : E} {i : Nat} {d : D} {ts : TA} {as : As} {x : V} {dx : D}
/-! ### methods of texts, one argument -/
def eSt1 (o : Str → D → Hs → RE D) (a b : E) : E := fun env A => (a env A).bind fun x A1 => match x with
  | .str z => (b env A1).bind fun y A2 => o z y A2
  | _ => .stuck
theorem se_st1 {r : V → List V → Hp → VK → Prop} {f : Str → D → Hs → RE D} (h : ∀ F m A H z y dy W σ Q, Rl K ca F m A H → Rep K ca F m y dy → Po K ca (Rep K ca) F m H W σ Q (f z dy A) → r (.str z) [y] H Q) (ha : SimE K ca W to a) (hb : SimE K ca W te b) : SimE K ca W (tM1 r to te) (eSt1 f a b) := fun F m A σ H env Q R S p =>
  ha.bind R S p fun F1 m1 A1 H1 x dx R1 g1 S1 rx p1 => by
    cases rx with
    | str z => exact ⟨⟨z, rfl⟩, hb.bind R1 S1 p1 fun F2 m2 A2 H2 y dy R2 g2 S2 ry p2 => h F2 m2 A2 H2 z y dy W σ Q R2 ry p2⟩
    | _ => exact p1.elim
/-- z.join(xs) -/
def oJoin (z : Str) (y : D) (A : Hs) : RE D := match (seqA A y).bind strsOf with
  | some ys => if (ys.map (·.length)).sum + ys.length * z.length ≤ 16777216 then .ok (.str (Txt.join z ys)) A else .stuck
  | none => .stuck
theorem se_join (ha : SimE K ca W to a) (hb : SimE K ca W te b) : SimE K ca W (tM1 (rJoin K) to te) (eSt1 oJoin a b) := se_st1 (fun F m A H z y dy W σ Q R ry p => by
  unfold oJoin at p
  split at p
  · rename_i ys hy
    split at p
    · rename_i hl
      obtain ⟨l, h1, h2⟩ := Option.bind_eq_some_iff.mp hy
      have e := strsOf_eq h2
      subst e
      unfold seqA at h1
      split at h1
      · rename_i l' hl'
        cases h1
        obtain ⟨q, ws, e1, h3, h4⟩ := seqL_at R ry hl'
        have e2 := h4.strs
        subst e2
        exact ⟨z, q, ys, rfl, by rw [e1], .inl h3, hl, po_ok R (.str _) p⟩
      · obtain ⟨q, ws, e1, h3, h4⟩ := seqT_at R ry h1
        have e2 := h4.strs
        subst e2
        exact ⟨z, q, ys, rfl, by rw [e1], .inr h3, hl, po_ok R (.str _) p⟩
    · exact p.elim
  · exact p.elim) ha hb
/-! ### methods of dicts -/
def isDic (A : Hs) (x : D) : Bool := (dicAt A x).isSome
def getD (A : Hs) (x y z : D) : Option D := match dicAt A x with
  | some (t, l) => if keyOk t y then some ((kget l y).getD z) else none
  | none => none
def ofO {α : Type} (A : Hs) : Option α → RE α
  | some d => .ok d A
  | none => .stuck
/-- d.get(y, z) -/
def eGet2 (o i e : E) : E := fun env A => (o env A).bind fun x A1 => if isDic A1 x then (i env A1).bind fun y A2 => (e env A2).bind fun z A3 => ofO A3 (getD A3 x y z) else .stuck
/-! ### a dict of the written part -/
inductive TabOk (K : PySem.W.Frag) (w : World) (da : Addr) : List (String × Int) → Prop
  | nil : TabOk K w da []
  | cons {k : String} {k' : Str} {n : Int} {r : List (String × Int)} : k' = fS k → KDct K w da k' (.int n) → TabOk K w da r → TabOk K w da ((k, n) :: r)
theorem TabOk.of {w : World} {da : Addr} {tb : List (String × Int)} (h : TabOk K w da tb) {z : Str} {n : String × Int} (q : (tb.find? fun e => decide (fS e.1 = z)) = some n) : KDct K w da z (.int n.2) := by
  induction h with
  | nil => cases q
  | cons e h1 h2 ih =>
    rename_i k k' n' r
    rw [List.find?_cons] at q
    by_cases c : fS k = z
    · simp only [c, decide_true] at q
      cases q
      rw [← c, ← e]; exact h1
    · simp only [c, decide_false] at q
      exact ih q
end
end SM

namespace DL
open PySem L2
theorem room65w {k : Nat} {A : Around} (r : Room k A) : A.units + 1 < cLine := by have := r.un; omega
end DL
namespace SM
open PySem L2
open DL (Ex ExK)
/-- a written text -/
def dS (s : String) : D := .str (fS s)
section
variable {K : PySem.W.Frag} {ca : CaT} {F F1 F2 H H1 H2 : Hp} {m m1 m2 : List Addr} {A A1 A2 A3 : Hs} {σ : L2.St} {env : Sl} {W : WX} {Q : VK}
variable {ta tb tc te to ti tv : TE} {a b c o v : E} {i : Nat} {d : D} {ts : TA} {as : As} {x : V} {dx : D} {cs : List String}
theorem se_strS {x : Str} {s : String} (h : x = fS s) : SimE K ca W (tC (.str x)) (eC (dS s)) := se_c fun _ _ => by subst h; exact .str _
/-- xs or e, xs a list -/
def eOrL (a b : E) : E := fun env A => (a env A).bind fun x A1 => match seqL A1 x with
  | some l => if l.isEmpty then b env A1 else .ok x A1
  | none => .stuck
def oBits (x : D) (A : Hs) : RE D := match x with
  | .int i => .ok (.int (Builtin.Int.intBits i : Nat)) A
  | _ => .stuck
theorem se_bits (ha : SimE K ca W ta a) : SimE K ca W (tBits ta) (eUn oBits a) := fun F m A σ H env Q R S p =>
  ha.bind R S p fun F1 m1 A1 H1 x dx R1 g1 S1 rx p1 => by
    cases rx with
    | int i => exact ⟨i, rfl, po_ok R1 (.int _) p1⟩
    | _ => exact p1.elim
/-! ### {k: v, ..} -/
abbrev Dps := Sl → Hs → RE (List (D × D))
def dNil : Dps := fun _ A => .ok [] A
def dCons (k v : E) (r : Dps) : Dps := fun env A => (k env A).bind fun x A1 => (v env A1).bind fun y A2 => (r env A2).bind fun ps A3 => .ok ((x, y) :: ps) A3
def kmerge (l : List (D × D)) : List (D × D) → List (D × D)
  | [] => l
  | (k, v) :: r => kmerge (kput l k v) r
def eDisp (d : Dps) : E := fun env A => (d env A).bind fun ps A1 => if (ps.all fun p => (keyK p.1).isSome) && decide (ps.length ≤ 15) then alloc A1 (.dic false false (kmerge [] ps)) else .stuck
/-! ### op= -/
/-- += : ints, a list longer, a tuple and a tuple, texts -/
def rIAdd (K : PySem.W.Frag) : TIp := fun x y H Q => DL.ipAddT K x y H Q ∨ rAddS x y H Q
theorem ip_addA {X : Cx} {K : PySem.W.Frag} (e : X.K = K := by rfl) : PIp X .Add (rIAdd K) := by
  subst e
  intro pins s σ H x y v u Q I rx ry h
  rcases h with h | h
  · exact DL.ip_addT (X := X) rfl pins s σ H x y v u Q I rx ry h
  · exact in_addS pins s σ H x y v u Q I rx ry h
def oIAdd (x y : D) (A : Hs) : RE D := match x, y with
  | .int i, .int j => .ok (.int (i + j)) A
  | .str z, .str w => if z.length + w.length ≤ sizeLine then .ok (.str (z ++ w)) A else .stuck
  | .tup l, .tup k => if l ≠ [] ∧ l.length + k.length ≤ sizeLine then .ok (.tup (l ++ k)) A else .stuck
  | .ref i, .ref j => match A[i]?, A[j]? with
    | some (.lst l), some (.lst k) => if l.length + k.length ≤ sizeLine then .ok (.ref i) (A.set i (.lst (l ++ k))) else .stuck
    | _, _ => .stuck
  | _, _ => .stuck
theorem ips_add : IpS K ca (rIAdd K) oIAdd := fun F m A H x y dx dy W σ Q R rx ry p => by
  cases rx with
  | int i =>
    cases ry with
    | int j => exact .inl (.inl (.inl ⟨i, j, rfl, rfl, po_ok R (.int _) p⟩))
    | _ => exact p.elim
  | str z =>
    cases ry with
    | str w =>
      unfold oIAdd at p
      simp only at p
      split at p
      · rename_i hl; exact .inr ⟨z, w, rfl, rfl, hl, po_ok R (.str _) p⟩
      · exact p.elim
    | _ => exact p.elim
  | tup s rs =>
    cases ry with
    | tup s' rs' =>
      rename_i a vs l b ws k
      unfold oIAdd at p
      simp only at p
      split at p
      · rename_i hl
        refine .inl (.inr ⟨a, b, vs, ws, rfl, rfl, .inl (.inl (R.fh _ _ s)), .inl (.inl (R.fh _ _ s')), fun z => ?_, by rw [rs.length, rs'.length]; exact hl.2, fun e => ?_, fun _ q hq => ?_⟩)
        · subst z; cases rs; exact hl.1 rfl
        · subst e; cases rs'; rw [List.append_nil] at p; exact po_ok R (.tup s rs) p
        · obtain ⟨R2, g2⟩ := R.new (u := .tup (vs ++ ws)) hq
          exact p _ _ _ _ R2 g2 (.tup upd_same ((rs.append rs').mono g2.ff g2.mm))
      · exact p.elim
    | _ => exact p.elim
  | ref hm =>
    cases ry with
    | ref hm' =>
      rename_i a i b j
      unfold oIAdd at p
      simp only at p
      split at p
      · rename_i l k q1 q2
        split at p
        · rename_i hl
          obtain ⟨a', vs, e1, h1, h2, h3⟩ := lst_at R (.ref hm) q1
          obtain ⟨b', ws, e2, h4, h5, h6⟩ := lst_at R (.ref hm') q2
          rw [e1]
          exact .inl (.inl (.inr ⟨a', b', vs, ws, rfl, e2, h2, h5, by rw [h3.length, h6.length]; exact hl, po_put R h1 h2 (h3.append h6) (.ref h1) p⟩))
        · exact p.elim
      · exact p.elim
    | _ => exact p.elim
  | _ => exact p.elim
/-! ### d[k] op= e, xs[i] op= e -/
/-- a dict's item -/
def sDAugP (op : D → D → Hs → RE D) (o i a : E) : S := fun env A => ofE env (o env A) fun x A1 => ofE env (i env A1) fun y A2 => ofE env (oDGet x y A2) fun z A3 => ofE env (a env A3) fun v A4 => ofE env (op z v A4) fun r A5 => if isLst A5 x then .stuck else ofH env (setIt A5 x y r)
/-- a list's item, by a place from 0 on -/
def getN (A : Hs) (x y : D) : Option D := match seqL A x, y with
  | some l, .int i => if 0 ≤ i then l[i.toNat]? else none
  | _, _ => none
def sLAugP (op : D → D → Hs → RE D) (o i a : E) : S := fun env A => ofE env (o env A) fun x A1 => ofE env (i env A1) fun y A2 => match getN A2 x y with
  | some z => ofE env (a env A2) fun v A4 => ofE env (op z v A4) fun r A5 => if isLst A5 x then ofH env (setIt A5 x y r) else .stuck
  | none => .stuck
/-! ### min of three -/
def c3 (f : D → D → D → Hs → RE D) : List D → Hs → RE D := fun ds A => match ds with
  | [d, e, g] => f d e g A
  | _ => .stuck
def oMin3 (x y z : D) (A : Hs) : RE D := match x, y, z with
  | .int i, .int j, .int k => .ok (.int (min (min i j) k)) A
  | _, _, _ => .stuck
end
end SM

/-! ## equations for the plain functions -/
namespace SM
open PySem L2
section
variable {α β : Type} {A A1 A2 A3 : Hs} {env e1 e2 : Sl} {a b c o v : E} {as : As} {d d1 d2 x y z : D} {i j k n : Nat} {p q r : Int} {C : String} {f g : S} {F : Fn} {cs os xs : List String} {tb : List (String × String × Bool)} {l l1 l2 : List D} {fs : List (String × D)}
theorem bind_ok {x : α} {f : α → Hs → RE β} : (RE.ok x A).bind f = f x A := rfl
theorem z2y {f : α → Hs → RE β} : (RE.exc C A : RE α).bind f = .exc C A := rfl
theorem z0l {f : α → Hs → RE β} : (RE.stuck : RE α).bind f = .stuck := rfl
theorem z6i {x : α} : (RE.ok x A).noX = .ok x A := rfl
theorem z3k : (RE.exc C A : RE α).noX = .stuck := rfl
theorem z6m {e : Sl} : eVar 0 (some d :: e) A = .ok d A := rfl
theorem z59 {e : Sl} {s : Option D} : eVar (n + 1) (s :: e) A = eVar n e A := rfl
theorem eC_ : eC d env A = .ok d A := rfl
theorem zb7 {o : D → D → Hs → RE D} : eOp o a b env A = (a env A).bind fun x A1 => (b env A1).bind fun y A2 => o x y A2 := rfl
theorem z9n {o : D → Hs → RE D} : eUn o a env A = (a env A).bind fun x A1 => o x A1 := rfl
theorem z8z : aNil env A = .ok [] A := rfl
theorem z6q : aCons a as env A = (a env A).bind fun x A1 => (as env A1).bind fun xs A2 => .ok (x :: xs) A2 := rfl
theorem z9l {f : List D → Hs → RE D} : eCB f as env A = (as env A).bind f := rfl
theorem z74 : eCall F as env A = (as env A).bind F := rfl
theorem z3o : eCall0 F as env A = (as env A).bind fun ds A1 => (F ds A1).noX := rfl
theorem c1_ {f : D → Hs → RE D} : c1 f [d] A = f d A := rfl
theorem c2_ {f : D → D → Hs → RE D} : c2 f [d, d1] A = f d d1 A := rfl
theorem c3_ {f : D → D → D → Hs → RE D} : c3 f [d, d1, d2] A = f d d1 d2 A := rfl
/-- a truth, or stuck -/
def bl_ {α : Type} (r : RE D) (k : Bool → Hs → RE α) : RE α := match r with
  | .ok (.bl c) A => k c A
  | .ok _ _ => .stuck
  | .exc C A => .exc C A
  | .stuck => .stuck
theorem z7q {c : Bool} {k : Bool → Hs → RE α} : bl_ (.ok (.bl c) A) k = k c A := rfl
theorem z6r {k : Bool → Hs → RE α} : bl_ (.exc C A) k = .exc C A := rfl
theorem z8f : eAnd a b env A = bl_ (a env A) fun c A1 => if c = true then b env A1 else .ok (.bl false) A1 := by
  unfold eAnd bl_ RE.bind
  cases a env A with
  | ok x A1 => cases x with
    | bl c => cases c <;> rfl
    | _ => rfl
  | _ => rfl
theorem z9p : eOr a b env A = bl_ (a env A) fun c A1 => if c = true then .ok (.bl true) A1 else b env A1 := by
  unfold eOr bl_ RE.bind
  cases a env A with
  | ok x A1 => cases x with
    | bl c => cases c <;> rfl
    | _ => rfl
  | _ => rfl
theorem z7u : eNot a env A = bl_ (a env A) fun c A1 => .ok (.bl (!c)) A1 := by
  unfold eNot bl_ RE.bind
  cases a env A with
  | ok x A1 => cases x <;> rfl
  | _ => rfl
theorem z9y {o o' : D → D → Hs → RE D} : eCh o o' a b c env A = (a env A).bind fun x A1 => (b env A1).bind fun y A2 => bl_ (o x y A2) fun k A3 => if k = true then (c env A3).bind fun w A4 => o' y w A4 else .ok (.bl false) A3 := by
  unfold eCh bl_ RE.bind
  cases a env A with
  | ok x A1 =>
    simp only
    cases b env A1 with
    | ok y A2 =>
      simp only
      cases o x y A2 with
      | ok z A3 => cases z with
        | bl k => cases k <;> rfl
        | _ => rfl
      | _ => rfl
    | _ => rfl
  | _ => rfl
theorem zaj : tOf a env A = bl_ (a env A) fun c A1 => .ok c A1 := by
  unfold tOf bl_ RE.bind
  cases a env A with
  | ok x A1 => cases x <;> rfl
  | _ => rfl
theorem zb5 {s t : Tt} : tAn s t env A = (s env A).bind fun c A1 => if c = true then t env A1 else .ok false A1 := rfl
theorem za1 {s t : Tt} : tOo s t env A = (s env A).bind fun c A1 => if c = true then .ok true A1 else t env A1 := rfl
theorem zb1 {s : Tt} : tNo s env A = (s env A).bind fun c A1 => .ok (!c) A1 := rfl
theorem za2 : tYe env A = .ok true A := rfl
theorem zb2 {s : Tt} : eIf s a b env A = (s env A).bind fun c A1 => if c = true then a env A1 else b env A1 := rfl
theorem z7w : eTup as env A = (as env A).bind fun ds A1 => if ds.length ≤ sizeLine then .ok (.tup ds) A1 else .stuck := rfl
theorem z7b : eLst as env A = (as env A).bind fun ds A1 => if ds.length ≤ sizeLine then .ok (.ref A1.length) (A1 ++ [.lst ds]) else .stuck := rfl
theorem z08 {n : Nat} (h : n ≤ 16000000) : n ≤ sizeLine := by rw [sizeLine_eq]; omega
theorem small_line' {n : Nat} (h : n < 16000000) : n < sizeLine := by rw [sizeLine_eq]; omega
theorem z6x {t : Bool} : eDNew t env A = .ok (.ref A.length) (A ++ [.dic t false []]) := rfl
theorem zbb : oNo env A = .ok none A := rfl
def int_ {α : Type} (r : RE D) (k : Int → Hs → RE α) : RE α := match r with
  | .ok (.int c) A => k c A
  | .ok _ _ => .stuck
  | .exc C A => .exc C A
  | .stuck => .stuck
theorem z5e {c : Int} {k : Int → Hs → RE α} : int_ (.ok (.int c) A) k = k c A := rfl
theorem zap : oSo a env A = int_ (a env A) fun c A1 => .ok (some c) A1 := by
  unfold oSo int_ RE.bind
  cases a env A with
  | ok x A1 => cases x <;> rfl
  | _ => rfl
theorem zae {o : D → Option Int → Option Int → Hs → RE D} {lo hi : Sl → Hs → RE (Option Int)} : eSl o a lo hi env A = (a env A).bind fun x A1 => (lo env A1).bind fun l A2 => (hi env A2).bind fun h A3 => o x l h A3 := rfl
/-! statements -/
def seqR (r : RS) (b : S) : RS := match r with
  | .nx env' A' => b env' A'
  | r => r
theorem seq_nx : seqR (.nx env A) g = g env A := rfl
theorem z6l : seqR (.rt d A) g = .rt d A := rfl
theorem z4c : seqR (.exc C env A) g = .exc C env A := rfl
theorem z6h : seqR (.bk env A) g = .bk env A := rfl
theorem z5k : seqR (.ct env A) g = .ct env A := rfl
theorem z1p : seqR .stuck g = .stuck := rfl
theorem za8 : sNx env A = .nx env A := rfl
theorem z9k : sBk env A = .bk env A := rfl
theorem zb8 : sCt env A = .ct env A := rfl
theorem z31 : sRaise C env A = .exc C env A := rfl
theorem z73 {k : D → Hs → RS} : ofE env (.ok d A) k = k d A := rfl
theorem z4f {k : D → Hs → RS} : ofE env (.exc C A) k = .exc C env A := rfl
theorem z5d {c : Bool} {k : Bool → Hs → RS} : ofT env (.ok c A) k = k c A := rfl
theorem z3t {k : Bool → Hs → RS} : ofT env (.exc C A) k = .exc C env A := rfl
theorem z75 : sDrop a env A = ofE env (a env A) fun _ A1 => .nx env A1 := rfl
theorem z7x : sRet a env A = ofE env (a env A) fun d A1 => .rt d A1 := rfl
theorem z6d : sRetN env A = .rt .non A := rfl
theorem zak {t : Tt} : sIf t f g env A = ofT env (t env A) fun c A1 => if c = true then f env A1 else g env A1 := rfl
theorem z92 : sSet i a env A = ofE env (a env A) fun d A1 => .nx (env.set i (some d)) A1 := rfl
def ofS (r : Option Sl) (A : Hs) : RS := match r with
  | some env' => .nx env' A
  | none => .stuck
theorem z2i : ofS (some env) A = .nx env A := rfl
theorem z7t {g : G} : sAsg a g env A = ofE env (a env A) fun d A1 => ofS (g d env A1) A1 := by
  unfold sAsg ofS; rfl
theorem gN_ : gN i d env A = some (env.set i (some d)) := rfl
theorem z61 {gs : List G} : gT gs (.tup l) env A = gAll gs l env A := rfl
theorem z26 : gAll [] [] env A = some env := rfl
theorem z1e {g : G} {gs : List G} : gAll (g :: gs) (d :: l) env A = (g d env A).bind fun e => gAll gs l e A := by
  rw [gAll]; cases g d env A <;> rfl
def par_ (env : Sl) (i j : Nat) (r : RE (List D)) : RS := match r with
  | .ok [x, y] A1 => .nx ((env.set i (some x)).set j (some y)) A1
  | .exc C A1 => .exc C env A1
  | _ => .stuck
theorem z94 : sPar i j as env A = par_ env i j (as env A) := rfl
theorem z76 : par_ env i j (.ok [x, y] A) = .nx ((env.set i (some x)).set j (some y)) A := rfl
def var_ (env : Sl) (i : Nat) (k : D → RS) : RS := match env[i]? with
  | some (some x) => k x
  | _ => .stuck
theorem z7o {e : Sl} {k : D → RS} : var_ (some d :: e) 0 k = k d := rfl
theorem z7i {e : Sl} {s : Option D} {k : D → RS} : var_ (s :: e) (n + 1) k = var_ e n k := rfl
theorem z88 {o : D → D → Hs → RE D} : sAug i o a env A = var_ env i fun x => ofE env (a env A) fun y A1 => ofE env (o x y A1) fun z A2 => .nx (env.set i (some z)) A2 := rfl
def finR (r : RS) : RE D := match r with
    | .nx _ A' => .ok .non A'
    | .rt d A' => .ok d A'
    | .exc C _ A' => .exc C A'
    | _ => .stuck
theorem z53 : finR (.nx env A) = .ok .non A := rfl
theorem z5o : finR (.rt d A) = .ok d A := rfl
theorem z3h : finR (.exc C env A) = .exc C A := rfl
theorem z1g : finR .stuck = .stuck := rfl
theorem z98 (h : l.length = n) : mkFn n k f l A = finR (f (l.map some ++ List.replicate (k - n) none) A) := by
  unfold mkFn; rw [if_pos h]; unfold finR; rfl
theorem z9c {e : Sl} {s t : Option D} : List.set (s :: e) 0 t = t :: e := rfl
theorem z8p {e : Sl} {s t : Option D} : List.set (s :: e) (n + 1) t = s :: List.set e n t := rfl
/-! operators -/
theorem z6w : oAdd (.int p) (.int q) A = .ok (.int (p + q)) A := rfl
theorem z56 (h : l.length + l1.length ≤ 16000000) : oAdd (.tup l) (.tup l1) A = .ok (.tup (l ++ l1)) A := by
  unfold oAdd; simp only; rw [if_pos (z08 h)]
theorem z6u {s t : Str} (h : s.length + t.length ≤ 16000000) : oAdd (.str s) (.str t) A = .ok (.str (s ++ t)) A := by
  unfold oAdd; simp only; rw [if_pos (z08 h)]
theorem z50 : oSub (.int p) (.int q) A = .ok (.int (p - q)) A := rfl
theorem z65 (h : -18446744073709551616 < q ∧ q < 18446744073709551616) : oMul (.int p) (.int q) A = .ok (.int (p * q)) A := by
  unfold oMul; simp only; rw [if_pos (.inl (.inr ⟨by have := h.1; omega, by have := h.2; omega⟩))]
theorem z5j (h : -18446744073709551616 < p ∧ p < 18446744073709551616) : oMul (.int p) (.int q) A = .ok (.int (p * q)) A := by
  unfold oMul; simp only; rw [if_pos (.inl (.inl ⟨by have := h.1; omega, by have := h.2; omega⟩))]
theorem z6s (h : l.length ≤ 1000 ∧ -1000 ≤ q ∧ q ≤ 4000) : oMul (.tup l) (.int q) A = .ok (.tup (List.replicate q.toNat l).flatten) A := by
  unfold oMul; simp only; rw [if_pos h]
theorem log_small {q : Int} (h : 0 < q ∧ q < 18446744073709551616) : q.natAbs.log2 < 9000 := by
  have : q.natAbs < 2 ^ 64 := by omega
  by_cases z : q.natAbs = 0
  · rw [z]; decide
  · have := (Nat.log2_lt z).mpr this; omega
theorem z6n (h : 0 < q ∧ q < 18446744073709551616) : oDiv (.int p) (.int q) A = .ok (.int (p / q)) A := by
  unfold oDiv oII; simp only; rw [if_pos ⟨h.1, log_small h⟩]
theorem z54 (h : 0 < q) : oMod (.int p) (.int q) A = .ok (.int (p % q)) A := by
  unfold oMod oII; simp only; rw [if_pos h]
theorem z4y (h : 0 ≤ q ∧ q ≤ 1000000 ∧ p.natAbs < 18446744073709551616) : oPow (.int p) (.int q) A = .ok (.int (p ^ q.toNat)) A := by
  unfold oPow oII; simp only; rw [if_pos ⟨h.1, h.2.1, by have := h.2.2; omega⟩]
theorem z8m : oLt (.int p) (.int q) A = .ok (.bl (decide (p < q))) A := rfl
theorem z85 : oLe (.int p) (.int q) A = .ok (.bl (decide (p ≤ q))) A := rfl
theorem z7a : oGt (.int p) (.int q) A = .ok (.bl (decide (q < p))) A := rfl
theorem z7f : oGe (.int p) (.int q) A = .ok (.bl (decide (q ≤ p))) A := rfl
theorem z78 : oNeg (.int p) A = .ok (.int (-p)) A := rfl
theorem z3a : oMax2 (.int p) (.int q) A = .ok (.int (max p q)) A := by
  show RE.ok (D.int (if q > p then q else p)) A = _
  congr 2; omega
theorem z3b : oMin2 (.int p) (.int q) A = .ok (.int (min p q)) A := by
  show RE.ok (D.int (if q < p then q else p)) A = _
  congr 2; omega
theorem z4g : oMin3 (.int p) (.int q) (.int r) A = .ok (.int (min (min p q) r)) A := rfl
theorem z6p : oInt (.int p) A = .ok (.int p) A := rfl
theorem z5c {b : Bool} : oInt (.bl b) A = .ok (.int (if b then 1 else 0)) A := rfl
theorem z7j : oEq (.int p) (.int q) A = .ok (.bl (decide (p = q))) A := by
  unfold oEq oB eqA; simp [pyA, PyData.eqv]; rfl
theorem z79 : oNe (.int p) (.int q) A = .ok (.bl (!decide (p = q))) A := by
  unfold oNe oB eqA; simp [pyA, PyData.eqv]; rfl
theorem z47 {s t : Str} : oEq (.str s) (.str t) A = .ok (.bl (decide (s = t))) A := by
  unfold oEq oB eqA; simp [pyA, PyData.eqv]; rfl
theorem z3l {s t : Str} : oNe (.str s) (.str t) A = .ok (.bl (!decide (s = t))) A := by
  unfold oNe oB eqA; simp [pyA, PyData.eqv]; rfl
theorem z83 {s t : String} : oEq (dS s) (dS t) A = .ok (.bl (decide (s = t))) A := by
  unfold dS; rw [z47]; congr 3; exact propext fS_inj
theorem z99 {s t : String} : oNe (dS s) (dS t) A = .ok (.bl (!decide (s = t))) A := by
  unfold dS; rw [z3l]; congr 4; exact propext fS_inj
theorem eqA_of {b : Bool} (h : eqA A x y = some b) : oEq x y A = .ok (.bl b) A := by unfold oEq oB; rw [h]
theorem neA_of {b : Bool} (h : eqA A x y = some b) : oNe x y A = .ok (.bl (!b)) A := by unfold oNe oB; simp only [h]; rfl
theorem z4p : oIs x .non A = .ok (.bl (isNon x)) A := rfl
theorem z0i : oIsNot x .non A = .ok (.bl (!isNon x)) A := rfl
theorem z5q {b c : Bool} : oIs (.bl b) (.bl c) A = .ok (.bl (decide (b = c))) A := rfl
theorem z1o {b c : Bool} : oIsNot (.bl b) (.bl c) A = .ok (.bl (!decide (b = c))) A := rfl
theorem z1n : isNon .non = true := rfl
theorem z0x : isNon (.int p) = false := rfl
theorem z1t {b : Bool} : isNon (.bl b) = false := rfl
theorem z0p : isNon (.ref i) = false := rfl
theorem z14 : isNon (.tup l) = false := rfl
theorem z12 {s : Str} : isNon (.str s) = false := rfl
theorem z1x {s : String} : isNon (dS s) = false := rfl
theorem z10 : isNon (.exc C) = false := rfl
theorem z1j : oIsi os xs tb (.int p) (.ty "int") A = .ok (.bl true) A := rfl
theorem z0a : oIsi os xs tb (.int p) (.ty "bool") A = .ok (.bl false) A := rfl
theorem z0q {b : Bool} : oIsi os xs tb (.bl b) (.ty "int") A = .ok (.bl true) A := rfl
theorem z0m {b : Bool} : oIsi os xs tb (.bl b) (.ty "bool") A = .ok (.bl true) A := rfl
theorem z1m : oIsi os xs tb .non (.ty "int") A = .ok (.bl false) A := rfl
theorem z0d : oIsi os xs tb .non (.ty "bool") A = .ok (.bl false) A := rfl
theorem z19 : oIsi os xs tb .non (.ty "str") A = .ok (.bl false) A := rfl
theorem z03 : oIsi os xs tb .non (.ty "tuple") A = .ok (.bl false) A := rfl
theorem z0f : oIsi os xs tb .non (.ty "list") A = .ok (.bl false) A := rfl
theorem z13 {s : Str} : oIsi os xs tb (.str s) (.ty "int") A = .ok (.bl false) A := rfl
theorem z0o {s : Str} : oIsi os xs tb (.str s) (.ty "bool") A = .ok (.bl false) A := rfl
theorem z0s {s : Str} : oIsi os xs tb (.str s) (.ty "str") A = .ok (.bl true) A := rfl
theorem z06 {s : Str} : oIsi os xs tb (.str s) (.ty "tuple") A = .ok (.bl false) A := rfl
theorem z1c : oIsi os xs tb (.tup l) (.ty "int") A = .ok (.bl false) A := rfl
theorem z0h : oIsi os xs tb (.tup l) (.ty "bool") A = .ok (.bl false) A := rfl
theorem z07 : oIsi os xs tb (.tup l) (.ty "tuple") A = .ok (.bl true) A := rfl
theorem z0j : oIsi os xs tb (.tup l) (.ty "list") A = .ok (.bl false) A := rfl
theorem z0w : oIsi os xs tb (.tup l) (.ty "str") A = .ok (.bl false) A := rfl
theorem z01 : oIsi os xs tb (.int p) (.ty "tuple") A = .ok (.bl false) A := rfl
theorem z0v : oIsi os xs tb (.int p) (.ty "str") A = .ok (.bl false) A := rfl
theorem z0n : oIsi os xs tb (.int p) (.ty "list") A = .ok (.bl false) A := rfl
theorem z05 {b : Bool} : oIsi os xs tb (.bl b) (.ty "tuple") A = .ok (.bl false) A := rfl
theorem z17 {b : Bool} : oIsi os xs tb (.bl b) (.ty "str") A = .ok (.bl false) A := rfl
/-! the heap -/
theorem seqL_ref (h : A[i]? = some (.lst l)) : seqL A (.ref i) = some l := by unfold seqL; simp only [h]
theorem z22 : seqL A (.scr l) = some l := rfl
theorem z2o : seqL A (.tup l) = none := rfl
theorem z25 {s : Str} : seqL A (.str s) = none := rfl
theorem z5p : oLen (.tup l) A = .ok (.int l.length) A := rfl
theorem z5t {s : Str} (h : s.length ≤ 16000000) : oLen (.str s) A = .ok (.int s.length) A := by
  unfold oLen lenA; simp only [seqL, seqT]; rw [if_pos (z08 h)]
theorem z2d : oTuple (.tup l) A = .ok (.tup l) A := rfl
theorem z48 : oList (.tup l) A = .ok (.ref A.length) (A ++ [.lst l]) := rfl
theorem z8j {lo hi : Option Int} : oSl (.tup l) lo hi A = .ok (.tup (cutD l lo hi)) A := rfl
def fld_ (r : Option D) (A : Hs) : RE D := match r with
  | some d => .ok d A
  | none => .stuck
theorem z1v : fld_ (some d) A = .ok d A := rfl
theorem z8n {f : String} : eFld cs f a env A = (a env A).bind fun x A1 => fld_ (getFld cs f A1 x) A1 := rfl
theorem za5 {f : String} : sFl cs f o a env A = ofE env (a env A) fun d A1 => ofE env (o env A1) fun x A2 => ofH env (setFld cs A2 x f d) := by
  unfold sFl ofH; rfl
theorem z2j : ofH env (some A) = .nx env A := rfl
theorem z3e {f : String} {op : D → D → Hs → RE D} : sFlAug cs f op o a env A = ofE env (o env A) fun x A1 => ofE env (fld_ (getFld cs f A1 x) A1) fun v A1 => ofE env (a env A1) fun y A2 => ofE env (op v y A2) fun z A3 => ofH env (setFld cs A3 x f z) := by
  unfold sFlAug ofH
  congr
  funext x A1
  cases getFld cs f A1 x <;> rfl
theorem z2x {f : String} : putF f d [] = [(f, d)] := rfl
theorem z0r {f g : String} : putF f d ((g, x) :: fs) = if g = f then (g, d) :: fs else (g, x) :: putF f d fs := rfl
theorem z34 : oIAdd (.int p) (.int q) A = .ok (.int (p + q)) A := rfl
def meth_ (r : Option Fn) (k : Fn → RE D) : RE D := match r with
  | some f => k f
  | none => .stuck
theorem z1d {k : Fn → RE D} : meth_ (some F) k = k F := rfl
theorem z62 {m : String} {t : List (String × Fn)} : eMeth m t o as env A = (o env A).bind fun x A1 => meth_ (methOf m t A1 x) fun f => (as env A1).bind fun ds A2 => f (x :: ds) A2 := by
  unfold eMeth meth_; rfl
theorem z3d {m : String} {t : List (String × Fn)} : eMeth0 m t o as env A = (o env A).bind fun x A1 => meth_ (methOf m t A1 x) fun f => (as env A1).bind fun ds A2 => (f (x :: ds) A2).noX := by
  unfold eMeth0 meth_; rfl
theorem make_ok {ds : List D} (h : F (.ref A.length :: ds) (A ++ [.obj C []]) = .ok .non A1) : make C F ds A = .ok (.ref A.length) A1 := by unfold make; rw [h]
theorem z6y : eMake C F as env A = (as env A).bind fun ds A1 => make C F ds A1 := rfl
theorem z3g : eMake0 C F as env A = (as env A).bind fun ds A1 => (make C F ds A1).noX := rfl
theorem z7k : sPut o b a env A = ofE env (a env A) fun v A1 => ofE env (o env A1) fun x A2 => ofE env (b env A2) fun y A3 => ofH env (setIt A3 x y v) := rfl
theorem z44 {s : String} : keyOk false (dS s) = true := rfl
theorem z4o : keyOk false (.int p) = true := rfl
theorem z5m {s t : String} : keq (dS s) (dS t) = decide (s = t) := by
  show decide (fS s = fS t) = decide (s = t)
  simp only [fS_inj]
theorem z60 : keq (.int p) (.int q) = decide (p = q) := rfl
def augL_ (env : Sl) (r : Option D) (k : D → RS) : RS := match r with
  | some z => k z
  | none => .stuck
theorem z1h {k : D → RS} : augL_ env (some d) k = k d := rfl
theorem z4n {op : D → D → Hs → RE D} : sLAugP op o b a env A = ofE env (o env A) fun x A1 => ofE env (b env A1) fun y A2 => augL_ env (getN A2 x y) fun z => ofE env (a env A2) fun v A4 => ofE env (op z v A4) fun r A5 => if isLst A5 x then ofH env (setIt A5 x y r) else .stuck := by
  unfold sLAugP augL_; rfl
theorem z42 {op : D → D → Hs → RE D} : sDAugP op o b a env A = ofE env (o env A) fun x A1 => ofE env (b env A1) fun y A2 => ofE env (oDGet x y A2) fun z A3 => ofE env (a env A3) fun v A4 => ofE env (op z v A4) fun r A5 => if isLst A5 x then .stuck else ofH env (setIt A5 x y r) := rfl
/-! methods of lists -/
theorem zaf {o : D → List D → Hs → RE D} : eBL o a as env A = (a env A).bind fun x A1 => if (seqL A1 x).isSome then (as env A1).bind fun ds A2 => o x ds A2 else .stuck := rfl
theorem z8c {o : D → Hs → RE D} : eBL0 o a env A = (a env A).bind fun x A1 => if (seqL A1 x).isSome then o x A1 else .stuck := rfl
/-! walks -/
def ofW (env : Sl) (r : RE Wk) (k : Wk → Hs → RS) : RS := match r with
  | .ok w A => k w A
  | .exc C A => .exc C env A
  | .stuck => .stuck
theorem z77 {w : Wk} {k : Wk → Hs → RS} : ofW env (.ok w A) k = k w A := rfl
theorem z8g {w : Sl → Hs → RE Wk} {g : G} : sFor w g f env A = ofW env (w env A) fun k A1 => forL g f k.gd k.ds env A1 := by unfold sFor ofW; rfl
def wk_ (r : Option Wk) (A : Hs) : RE Wk := match r with
  | some k => .ok k A
  | none => .stuck
theorem z4h {w : Wk} : wk_ (some w) A = .ok w A := rfl
theorem za3 {f : Hs → D → Option Wk} : wOf f a env A = (a env A).bind fun x A1 => wk_ (f A1 x) A1 := by unfold wOf wk_; rfl
theorem z8o : wSeq a env A = (a env A).bind fun x A1 => wk_ (wkA A1 x) A1 := za3
theorem z9o {f : List D → Option Wk} : wAs f as env A = (as env A).bind fun x A1 => wk_ (f x) A1 := by unfold wAs wk_; rfl
theorem z4t : wkA A (.tup l) = some ⟨l, tt⟩ := rfl
theorem z36 : wkA A (.scr l) = some ⟨l, tt⟩ := rfl
theorem z30 : wkE A (.scr l) = some ⟨enumL l, tt⟩ := rfl
theorem zaa (h : -4611686018427387904 ≤ p ∧ p < 4611686018427387904) : rg1 [.int p] = some ⟨rgL 0 1 p.toNat, tt⟩ := by
  unfold rg1; simp only; rw [if_pos ⟨by have := h.1; omega, by have := h.2; omega⟩]
theorem zai (h : -4611686018427387904 ≤ p ∧ p < 4611686018427387904 ∧ -4611686018427387904 ≤ q ∧ q < 4611686018427387904) : rg2 [.int p, .int q] = some ⟨rgL p 1 (q - p).toNat, tt⟩ := by
  unfold rg2; simp only; rw [if_pos ⟨⟨by have := h.1; omega, by have := h.2.1; omega⟩, ⟨by have := h.2.2.1; omega, by have := h.2.2.2; omega⟩⟩]
theorem z9t (h : -1152921504606846976 ≤ p ∧ p < 1152921504606846976 ∧ -1152921504606846976 ≤ q ∧ q < 1152921504606846976 ∧ 0 < r ∧ r < 1000000) : rg3 [.int p, .int q, .int r] = some ⟨rgL p r (cnt p q r), tt⟩ := by
  unfold rg3; simp only; rw [if_pos ⟨by have := h.1; omega, by have := h.2.1; omega, by have := h.2.2.1; omega, by have := h.2.2.2.1; omega, h.2.2.2.2.1, h.2.2.2.2.2⟩]
theorem forL_nil {g : G} {gd : Hs → Prop} (h : gd A) : forL g f gd [] env A = .nx env A := by unfold forL; rw [if_pos h]
def turnR (r : RS) (k : S) : RS := match r with
  | .nx e A => k e A
  | .ct e A => k e A
  | .bk e A => .nx e A
  | r => r
theorem z4j {k : S} : turnR (.nx env A) k = k env A := rfl
theorem z3m {k : S} : turnR (.ct env A) k = k env A := rfl
theorem z4x {k : S} : turnR (.rt d A) k = .rt d A := rfl
theorem z3q {k : S} : turnR (.bk env A) k = .nx env A := rfl
theorem z1y {k : S} : turnR (.exc C env A) k = .exc C env A := rfl
theorem forL_cons {g : G} {gd : Hs → Prop} (h : gd A) (hg : g d env A = some e1) : forL g f gd (d :: l) env A = turnR (f e1 A) (forL g f gd l) := by
  rw [forL]; rw [if_pos h, hg]; rfl
/-- a for by what stays true -/
theorem for_inv {g : G} {gd : Hs → Prop} (I : Nat → Sl → Hs → Prop) (R : RS → Prop) {ds : List D} (h0 : I 0 env A) (hg : ∀ i e A, i ≤ ds.length → I i e A → gd A)
    (hs : ∀ i e A d, ds[i]? = some d → I i e A → ∃ e1, g d e A = some e1 ∧ ((∃ e2 A2, (f e1 A = .nx e2 A2 ∨ f e1 A = .ct e2 A2) ∧ I (i + 1) e2 A2) ∨ (∃ d2 A2, f e1 A = .rt d2 A2 ∧ R (.rt d2 A2)) ∨ (∃ e2 A2, f e1 A = .bk e2 A2 ∧ R (.nx e2 A2)) ∨ (∃ C e2 A2, f e1 A = .exc C e2 A2 ∧ R (.exc C e2 A2))))
    (hd : ∀ e A, I ds.length e A → R (.nx e A)) : R (forL g f gd ds env A) := by
  have main : ∀ (m : Nat) (e : Sl) (A : Hs), m ≤ ds.length → I m e A → R (forL g f gd (ds.drop m) e A) := by
    intro m
    generalize hk : ds.length - m = k
    induction k generalizing m with
    | zero =>
      intro e A hm hI
      have : m = ds.length := by omega
      subst this
      rw [List.drop_length, forL_nil (hg _ _ _ hm hI)]
      exact hd e A hI
    | succ k ih =>
      intro e A hm hI
      have hlt : m < ds.length := by omega
      rw [List.drop_eq_getElem_cons hlt]
      obtain ⟨e1, h1, h2⟩ := hs m e A ds[m] (by simp [hlt]) hI
      rw [forL_cons (hg _ _ _ hm hI) h1]
      rcases h2 with ⟨e2, A2, h2, h3⟩ | ⟨d2, A2, h2, h3⟩ | ⟨e2, A2, h2, h3⟩ | ⟨C, e2, A2, h2, h3⟩
      · rcases h2 with h2 | h2
        · rw [h2, z4j]; exact ih (m + 1) (by omega) e2 A2 (by omega) h3
        · rw [h2, z3m]; exact ih (m + 1) (by omega) e2 A2 (by omega) h3
      · rw [h2]; exact h3
      · rw [h2]; exact h3
      · rw [h2]; exact h3
  have := main 0 env A (Nat.zero_le _) h0
  rwa [List.drop_zero] at this
/-- a while by what stays true and a number that falls -/
theorem wh_inv {t : Tt} (I : Nat → Sl → Hs → Prop) (R : RS → Prop) {n : Nat} (h0 : I n env A)
    (hs : ∀ n e A, I n e A → (∃ A1, t e A = .ok false A1 ∧ R (.nx e A1)) ∨ (∃ A1, t e A = .ok true A1 ∧ ((∃ e2 A2, (f e A1 = .nx e2 A2 ∨ f e A1 = .ct e2 A2) ∧ ∃ m, m < n ∧ I m e2 A2) ∨ (∃ d2 A2, f e A1 = .rt d2 A2 ∧ R (.rt d2 A2)) ∨ (∃ e2 A2, f e A1 = .bk e2 A2 ∧ R (.nx e2 A2)) ∨ (∃ C e2 A2, f e A1 = .exc C e2 A2 ∧ R (.exc C e2 A2))))) : R (sWh t f env A) := by
  induction n using Nat.strongRecOn generalizing env A with
  | _ n ih =>
    rw [sWh_turn]
    rcases hs n env A h0 with ⟨A1, h1, h2⟩ | ⟨A1, h1, h2⟩
    · rw [h1]; exact h2
    · rw [h1]
      simp only [ofT, if_true]
      rcases h2 with ⟨e2, A2, h2, m, hm, h3⟩ | ⟨d2, A2, h2, h3⟩ | ⟨e2, A2, h2, h3⟩ | ⟨C, e2, A2, h2, h3⟩
      · rcases h2 with h2 | h2
        · rw [h2]; exact ih m hm h3
        · rw [h2]; exact ih m hm h3
      · rw [h2]; exact h3
      · rw [h2]; exact h3
      · rw [h2]; exact h3
def lc_ (r : RE (List D)) : RE D := match r with
  | .ok l A2 => alloc A2 (.lst l)
  | _ => .stuck
theorem z8y : lc_ (.ok l A) = .ok (.ref A.length) (A ++ [.lst l]) := rfl
theorem z9q {w : Sl → Hs → RE Wk} {g : G} {t : Tt} {vs : List Nat} : eLc w g t a vs env A = (w env A).bind fun k A1 => lc_ (lcL g t a k.gd (wipeS env vs) k.ds [] A1) := by unfold eLc lc_; rfl
/-- a comprehension whose parts leave the heap as it is -/
theorem lc_pure {g : G} {t : Tt} {gd : Hs → Prop} (p : D → Bool) (h : D → D) {ds acc : List D} (hgd : gd A) (hl : acc.length + ds.length < 16000000)
    (hs : ∀ d ∈ ds, ∃ e1, g d env A = some e1 ∧ t e1 A = .ok (p d) A ∧ (p d = true → a e1 A = .ok (h d) A)) : lcL g t a gd env ds acc A = .ok (acc ++ (ds.filter p).map h) A := by
  induction ds generalizing acc with
  | nil => rw [lcL, if_pos hgd]; simp
  | cons d ds ih =>
    obtain ⟨e1, h1, h2, h3⟩ := hs d List.mem_cons_self
    rw [lcL, if_pos hgd, h1]
    simp only [h2]
    cases q : p d with
    | false =>
      simp only
      rw [ih (by rw [List.length_cons] at hl; omega) fun d' hd => hs d' (List.mem_cons_of_mem _ hd), List.filter_cons, q]
      rfl
    | true =>
      simp only [h3 q]
      rw [if_pos (small_line' (by rw [List.length_cons] at hl; omega)), ih (by rw [List.length_cons] at hl; rw [List.length_append, List.length_singleton]; omega) fun d' hd => hs d' (List.mem_cons_of_mem _ hd), List.filter_cons, q]
      simp
end
end SM

/-! ## frames, equal data, slices -/
namespace SM
open PySem L2
section
variable {α β : Type} {A A1 A2 A3 : Hs} {env e1 e2 : Sl} {a b c o v : E} {as : As} {d d1 d2 x y z : D} {i j k n : Nat} {p q r : Int} {C : String} {f g : S} {F : Fn} {cs os xs : List String} {tb : List (String × String × Bool)} {l l1 l2 : List D} {fs : List (String × D)} {s s1 s2 : List Nat} {u u1 u2 : O}
/-- what a piece of code leaves alone -/
def Fr (s : List Nat) (A A1 : Hs) : Prop := A.length ≤ A1.length ∧ ∀ j, j < A.length → j ∉ s → A1[j]? = A[j]?
theorem Fr.refl : Fr s A A := ⟨Nat.le_refl _, fun _ _ _ => rfl⟩
theorem Fr.trans (h : Fr s A A1) (k : Fr s A1 A2) : Fr s A A2 := ⟨Nat.le_trans h.1 k.1, fun j hj hn => (k.2 j (Nat.lt_of_lt_of_le hj h.1) hn).trans (h.2 j hj hn)⟩
theorem Fr.mono (h : Fr s A A1) (hs : ∀ j ∈ s, j ∈ s2) : Fr s2 A A1 := ⟨h.1, fun j hj hn => h.2 j hj fun h3 => hn (hs j h3)⟩
theorem lt_of_get {α : Type} {A : List α} {u : α} (h : A[i]? = some u) : i < A.length := by
  rcases Nat.lt_or_ge i A.length with h1 | h1
  · exact h1
  · rw [List.getElem?_eq_none h1] at h; cases h
theorem Fr.get (h : Fr s A A1) (g : A[j]? = some u) (hn : j ∉ s) : A1[j]? = some u := (h.2 j (lt_of_get g) hn).trans g
theorem Fr.le (h : Fr s A A1) : A.length ≤ A1.length := h.1
theorem Fr.set (h : i ∈ s) : Fr s A (A.set i u) := ⟨by simp, fun j hj hn => List.getElem?_set_ne fun (e : i = j) => hn (e ▸ h)⟩
theorem Fr.push : Fr s A (A ++ [u]) := ⟨by simp, fun j hj hn => by rw [List.getElem?_append_left hj]⟩
theorem Fr.then_set (h : Fr s A A1) (hi : i ∈ s ∨ A.length ≤ i) : Fr s A (A1.set i u) := ⟨by simpa using h.1, fun j hj hn => by
  rw [List.getElem?_set_ne fun (e : i = j) => hi.elim (fun h2 => hn (e ▸ h2)) fun h2 => by omega]
  exact h.2 j hj hn⟩
theorem Fr.then_push (h : Fr s A A1) : Fr s A (A1 ++ [u]) := h.trans .push
theorem get_push (h : A[j]? = some u1) : (A ++ [u])[j]? = some u1 := (List.getElem?_append_left (lt_of_get h)).trans h
theorem z2w : (A.set i u).set i u1 = A.set i u1 := List.set_set ..
theorem z37 : (A.set i u).length = A.length := by simp
/-! data without a heap -/
def pd : Nat → D → Bool
  | _, .non => true
  | _, .bl _ => true
  | _, .int _ => true
  | _, .str _ => true
  | n + 1, .tup l => l.all (pd n)
  | n + 1, .scr l => l.all (pd n)
  | n + 1, .wt l => l.all (pd n)
  | _, _ => false
theorem pd_int : pd n (.int p) = true := by cases n <;> rfl
theorem pd_ints {ns : List Int} : (ns.map D.int).all (pd n) = true := by
  rw [List.all_eq_true]; intro d hd; obtain ⟨i, _, rfl⟩ := List.mem_map.mp hd; exact pd_int
theorem pd_py : ∀ {n : Nat} {d : D}, pd n d = true → ∃ p, p.plain = true ∧ ∀ A, pyA A n d = some p := by
  intro n
  induction n with
  | zero =>
    intro d h
    cases d with
    | non => exact ⟨.none, rfl, fun A => by simp [pyA]⟩
    | bl b => exact ⟨.bool b, rfl, fun A => by simp [pyA]⟩
    | int b => exact ⟨.int b, rfl, fun A => by simp [pyA]⟩
    | str b => exact ⟨.str b, rfl, fun A => by simp [pyA]⟩
    | _ => cases h
  | succ n ih =>
    have all : ∀ {l : List D}, l.all (pd n) = true → ∃ ps, PyData.plainAll ps = true ∧ ∀ A, allSome (l.map (pyA A n)) = some ps := by
      intro l
      induction l with
      | nil => intro _; exact ⟨[], rfl, fun A => rfl⟩
      | cons d l il =>
        intro h
        rw [List.all_cons, Bool.and_eq_true] at h
        obtain ⟨p, h0, h1⟩ := ih h.1
        obtain ⟨ps, h2, h3⟩ := il h.2
        refine ⟨p :: ps, by simp [PyData.plainAll, h0, h2], fun A => ?_⟩
        rw [List.map_cons, h1 A, allSome, h3 A]; rfl
    intro d h
    cases d with
    | tup l =>
      obtain ⟨ps, h1, h2⟩ := all h
      exact ⟨.tuple ps, by simpa [PyData.plain] using h1, fun A => by rw [pyA, h2 A]; rfl⟩
    | wt l =>
      obtain ⟨ps, h1, h2⟩ := all h
      exact ⟨.tuple ps, by simpa [PyData.plain] using h1, fun A => by rw [pyA, h2 A]; rfl⟩
    | scr l =>
      obtain ⟨ps, h1, h2⟩ := all h
      exact ⟨.list ps, by simpa [PyData.plain] using h1, fun A => by rw [pyA, h2 A]; rfl⟩
    | non => exact ⟨.none, rfl, fun A => by simp [pyA]⟩
    | bl b => exact ⟨.bool b, rfl, fun A => by simp [pyA]⟩
    | int b => exact ⟨.int b, rfl, fun A => by simp [pyA]⟩
    | str b => exact ⟨.str b, rfl, fun A => by simp [pyA]⟩
    | _ => cases h
theorem pd_all : ∀ {l : List D}, l.all (pd n) = true → ∃ ps, PyData.plainAll ps = true ∧ ∀ A, allSome (l.map (pyA A n)) = some ps := by
  intro l
  induction l with
  | nil => intro _; exact ⟨[], rfl, fun A => rfl⟩
  | cons d l il =>
    intro h
    rw [List.all_cons, Bool.and_eq_true] at h
    obtain ⟨p, h0, h1⟩ := pd_py h.1
    obtain ⟨ps, h2, h3⟩ := il h.2
    refine ⟨p :: ps, by simp [PyData.plainAll, h0, h2], fun A => ?_⟩
    rw [List.map_cons, h1 A, allSome, h3 A]; rfl
/-- two values that read the same -/
theorem eqA_same {P : PyData} (hp : P.plain = true) (h : pyA A 40 x = some P) (k : pyA A 40 y = some P) : eqA A x y = some true := by
  unfold eqA; rw [h, k]; simp only; rw [PySem.SeqAt.eqv_refl_plain _ hp]
theorem eqA_pd (h : pd 40 x = true) : eqA A x x = some true := by
  obtain ⟨P, h1, h2⟩ := pd_py h
  exact eqA_same h1 (h2 A) (h2 A)
theorem py_lst (h : A[i]? = some (.lst l)) : pyA A (n + 1) (.ref i) = (allSome (l.map (pyA A n))).map .list := by
  rw [pyA]; simp only [h]
theorem eqA_lst (h : A[i]? = some (.lst l)) (k : A[j]? = some (.lst l)) (hp : l.all (pd 39) = true) : eqA A (.ref i) (.ref j) = some true := by
  obtain ⟨ps, h1, h2⟩ := pd_all hp
  refine eqA_same (P := .list ps) (by simpa [PyData.plain] using h1) ?_ ?_
  · rw [py_lst h, h2 A]; rfl
  · rw [py_lst k, h2 A]; rfl
theorem oEq_pd (h : pd 40 x = true) : oEq x x A = .ok (.bl true) A := eqA_of (eqA_pd h)
theorem oEq_lst (h : A[i]? = some (.lst l)) (k : A[j]? = some (.lst l)) (hp : l.all (pd 39) = true) : oEq (.ref i) (.ref j) A = .ok (.bl true) A := eqA_of (eqA_lst h k hp)
theorem oNe_lst (h : A[i]? = some (.lst l)) (k : A[j]? = some (.lst l)) (hp : l.all (pd 39) = true) : oNe (.ref i) (.ref j) A = .ok (.bl false) A := neA_of (eqA_lst h k hp)
/-! slices -/
theorem sIx_some {n d : Nat} {v : Int} (h : 0 ≤ v) : HT.sIx n d (some v) = min v.toNat n := by
  obtain ⟨k, rfl⟩ := Int.eq_ofNat_of_zero_le h
  exact HT.sIx_nat n d k
theorem z5g {l : List α} : cutD l none none = l := by
  unfold cutD; rw [HT.sIx_none, HT.sIx_none]; simp
theorem z5z {l : List α} (h : 0 ≤ p) : cutD l none (some p) = l.take p.toNat := by
  unfold cutD; rw [HT.sIx_none, sIx_some h]
  rw [List.drop_zero, Nat.sub_zero, List.take_eq_take_iff]; omega
theorem z6b {l : List α} (h : 0 ≤ p) : cutD l (some p) none = l.drop p.toNat := by
  unfold cutD; rw [HT.sIx_none, sIx_some h]
  rcases Nat.le_total p.toNat l.length with q | q
  · rw [Nat.min_eq_left q, List.take_of_length_le (by rw [List.length_drop]; omega)]
  · rw [Nat.min_eq_right q, List.drop_of_length_le (Nat.le_refl _), List.drop_of_length_le q]; simp
theorem z6t {l : List α} (h : 0 ≤ p) (k : 0 ≤ q) : cutD l (some p) (some q) = (l.drop p.toNat).take (q.toNat - p.toNat) := by
  unfold cutD; rw [sIx_some h, sIx_some k]
  rcases Nat.le_total p.toNat l.length with r | r
  · rw [Nat.min_eq_left r, List.take_eq_take_iff, List.length_drop]; omega
  · rw [Nat.min_eq_right r, List.drop_of_length_le (Nat.le_refl _), List.drop_of_length_le r]; simp
theorem cut_neg {l : List α} {v : Nat} (h : 0 < v) (k : v ≤ l.length) : cutD l none (some (-(v : Int))) = l.take (l.length - v) := by
  unfold cutD; rw [HT.sIx_none]
  have : HT.sIx l.length l.length (some (-(v : Int))) = l.length - v := by
    unfold HT.sIx
    show (if (-(v : Int)) < 0 then ((-(v : Int)) + (l.length : Int)).toNat else min (-(v : Int)).toNat l.length) = _
    rw [if_pos (by omega)]; omega
  rw [this]; simp
theorem z64 {l : List α} (h : 0 ≤ p) : atI l p = l[p.toNat]? := by
  unfold atI ixN
  rw [if_pos h]
  by_cases k : p < l.length
  · rw [if_pos k]; rfl
  · rw [if_neg k, List.getElem?_eq_none (by omega)]; rfl
theorem ixN_nat (h : 0 ≤ p) (k : p < (n : Int)) : ixN n p = some p.toNat := by
  unfold ixN; rw [if_pos h, if_pos k]
theorem mem_rgL {lo c : Int} {n : Nat} (h : d ∈ rgL lo c n) : ∃ i : Nat, i < n ∧ d = .int (lo + i * c) := by
  unfold rgL at h; obtain ⟨i, hi, rfl⟩ := List.mem_map.mp h; exact ⟨i, List.mem_range.mp hi, rfl⟩
end
end SM

/-! ## the same, as rules that only compute (the heap's places are looked up in the term) -/
namespace SM
open PySem L2
section
variable {α β : Type} {A A1 A2 A3 : Hs} {env e1 e2 : Sl} {a b c o v : E} {as : As} {d d1 d2 x y z w : D} {i j k n : Nat} {p q r : Int} {C m : String} {f g : S} {F : Fn} {cs os xs : List String} {tb : List (String × String × Bool)} {l l1 l2 : List D} {fs : List (String × D)} {u u1 u2 : O} {lo hi : Option Int} {t lk : Bool} {kv : List (D × D)}
def sq_ : Option O → Option (List D)
  | some (.lst l) => some l
  | _ => none
theorem z9u : sq_ (some (.lst l)) = some l := rfl
theorem z5h : seqL A (.ref i) = sq_ A[i]? := by unfold seqL sq_; rfl
theorem z43 : lstAt A (.ref i) = (sq_ A[i]?).map fun l => (i, l) := by
  unfold lstAt sq_
  rcases h : A[i]? with _ | u
  · simp only [h]; rfl
  · cases u <;> simp only [h] <;> rfl
theorem z8i {α β : Type} {f : α → β} {x : α} : (some x).map f = some (f x) := rfl
def ob_ : Option O → Option (String × List (String × D))
  | some (.obj C fs) => some (C, fs)
  | _ => none
theorem zau : ob_ (some (.obj C fs)) = some (C, fs) := rfl
theorem z41 : objAt A (.ref i) = ob_ A[i]? := by unfold objAt ob_; rfl
def gf_ (cs : List String) (f : String) : Option (String × List (String × D)) → Option D
  | some (C, fs) => if C ∈ cs then fs.lookup f else none
  | none => none
theorem z9x {f : String} : gf_ cs f (some (C, fs)) = if C ∈ cs then fs.lookup f else none := rfl
theorem z1w {f : String} : getFld cs f A x = gf_ cs f (objAt A x) := by unfold getFld gf_; rfl
def sf_ (cs : List String) (A : Hs) (i : Nat) (f : String) (d : D) : Option (String × List (String × D)) → Option Hs
  | some (C, fs) => if C ∈ cs ∧ fs.length < 999 then some (A.set i (.obj C (putF f d fs))) else none
  | none => none
theorem za0 {f : String} : sf_ cs A i f d (some (C, fs)) = if C ∈ cs ∧ fs.length < 999 then some (A.set i (.obj C (putF f d fs))) else none := rfl
theorem z2b {f : String} : setFld cs A (.ref i) f d = sf_ cs A i f d (ob_ A[i]?) := by
  unfold setFld
  rcases h : A[i]? with _ | u
  · simp only [h]; rfl
  · cases u <;> simp only [h] <;> rfl
def mo_ (m : String) (t : List (String × Fn)) : Option (String × List (String × D)) → Option Fn
  | some (C, fs) => if (fs.lookup m).isSome = true then none else t.lookup C
  | none => none
theorem z9z {t : List (String × Fn)} : mo_ m t (some (C, fs)) = if (fs.lookup m).isSome = true then none else t.lookup C := rfl
theorem z2f {t : List (String × Fn)} : methOf m t A x = mo_ m t (objAt A x) := by
  unfold methOf mo_; rfl
theorem z2t {β : Type} {f : String} : List.lookup f ([] : List (String × β)) = none := rfl
theorem z16 {β : Type} {f g : String} {x : β} {r : List (String × β)} : List.lookup f ((g, x) :: r) = if f = g then some x else List.lookup f r := by
  by_cases h : f = g
  · rw [if_pos h]; subst h; simp
  · rw [if_neg h, List.lookup, beq_false_of_ne h]
def at_ (A : Hs) : Option D → RE D
  | some d => .ok d A
  | none => .stuck
theorem z9i : at_ A (some d) = .ok d A := rfl
def ln_ (A : Hs) : Option O → RE D
  | some (.lst l) => .ok (.int l.length) A
  | some (.dic false false l) => .ok (.int l.length) A
  | _ => .stuck
theorem z9j : ln_ A (some (.lst l)) = .ok (.int l.length) A := rfl
theorem zac : ln_ A (some (.dic false false kv)) = .ok (.int kv.length) A := rfl
theorem z5v : oLen (.ref i) A = ln_ A A[i]? := by
  unfold oLen lenA; rw [z5h]
  simp only [seqT]
  rcases A[i]? with _ | u
  · rfl
  · cases u with
    | lst l => rfl
    | obj C f => rfl
    | dic t lk kv => cases t <;> cases lk <;> rfl
theorem z27 : oLen (.scr l) A = .ok (.int l.length) A := rfl
def ix_ (A : Hs) (p : Int) : Option (List D) → RE D
  | some l => at_ A (atI l p)
  | none => .stuck
theorem zb6 : ix_ A p (some l) = at_ A (atI l p) := rfl
theorem z8t : oIx (.ref i) (.int p) A = ix_ A p (sq_ A[i]?) := by
  unfold oIx; simp only [z5h]
  rcases h : sq_ A[i]? with _ | l
  · rfl
  · show (match atI l p with | some d => RE.ok d A | none => .stuck) = at_ A (atI l p)
    cases atI l p <;> rfl
theorem z35 : oIx (.scr l) (.int p) A = at_ A (atI l p) := by
  unfold oIx; simp only [seqL]; unfold at_; cases atI l p <;> rfl
theorem z4s : oIx (.tup l) (.int p) A = at_ A (atI l p) := by
  unfold oIx seqT; simp only [z2o]; unfold at_; cases atI l p <;> rfl
def nw_ (A : Hs) : Option (List D) → RE D
  | some l => .ok (.ref A.length) (A ++ [.lst l])
  | none => .stuck
theorem zaz : nw_ A (some l) = .ok (.ref A.length) (A ++ [.lst l]) := rfl
theorem z7d : oSl (.ref i) lo hi A = nw_ A ((sq_ A[i]?).map fun l => cutD l lo hi) := by
  unfold oSl; rw [z5h]; cases sq_ A[i]? <;> rfl
theorem z4b : oSl (.scr l) lo hi A = .ok (.ref A.length) (A ++ [.lst (cutD l lo hi)]) := rfl
theorem z32 : oList (.ref i) A = nw_ A (sq_ A[i]?) := by
  unfold oList; rw [z5h]; cases sq_ A[i]? <;> rfl
theorem z1b : oList (.scr l) A = .ok (.ref A.length) (A ++ [.lst l]) := rfl
theorem z6k : oRev (.ref i) A = nw_ A ((sq_ A[i]?).map List.reverse) := by
  unfold oRev; rw [z5h]; cases sq_ A[i]? <;> rfl
def tp_ (A : Hs) : Option (List D) → RE D
  | some l => .ok (.tup l) A
  | none => .stuck
theorem zba : tp_ A (some l) = .ok (.tup l) A := rfl
theorem z2z : oTuple (.ref i) A = tp_ A (sq_ A[i]?) := by
  unfold oTuple; rw [z5h]; cases sq_ A[i]? <;> rfl
theorem z0e : oTuple (.scr l) A = .ok (.tup l) A := rfl
def ap_ (A : Hs) (i : Nat) (l1 : List D) : Option (List D) → RE D
  | some l => if l.length + l1.length ≤ sizeLine then .ok .non (A.set i (.lst (l ++ l1))) else .stuck
  | none => .stuck
theorem zaq (h : l.length + l1.length ≤ 16000000) : ap_ A i l1 (some l) = .ok .non (A.set i (.lst (l ++ l1))) := if_pos (z08 h)
theorem z1k : oAppend (.ref i) [d] A = ap_ A i [d] (sq_ A[i]?) := by
  unfold oAppend; rw [z43]
  rcases sq_ A[i]? with _ | l
  · rfl
  · simp only [z8i, ap_, List.length_singleton]; rfl
theorem z0g : oExtend (.ref i) [.tup l1] A = ap_ A i l1 (sq_ A[i]?) := by
  unfold oExtend; rw [z43]
  rcases sq_ A[i]? with _ | l
  · rfl
  · simp only [z8i, lstAt]; rfl
def ex_ (A : Hs) (i : Nat) (r : Option (List D)) : Option (List D) → RE D
  | some l1 => ap_ A i l1 r
  | none => .stuck
theorem zav {r : Option (List D)} : ex_ A i r (some l1) = ap_ A i l1 r := rfl
theorem z0k : oExtend (.ref i) [.ref j] A = ex_ A i (sq_ A[i]?) (sq_ A[j]?) := by
  unfold oExtend
  rcases h : sq_ A[i]? with _ | l
  · rcases h2 : sq_ A[j]? with _ | l1 <;> simp only [z43, h, Option.map] <;> rfl
  · rcases h2 : sq_ A[j]? with _ | l1 <;> simp only [z43, h, h2, Option.map] <;> rfl
def cl_ (A : Hs) (i : Nat) : Option (List D) → RE D
  | some _ => .ok .non (A.set i (.lst []))
  | none => .stuck
theorem zam : cl_ A i (some l) = .ok .non (A.set i (.lst [])) := rfl
theorem z2c : oClear (.ref i) A = cl_ A i (sq_ A[i]?) := by
  unfold oClear; rw [z43]; cases sq_ A[i]? <;> rfl
def si_ (A : Hs) (i : Nat) (y v : D) (u : Option O) : Option Hs := match u with
    | some (.lst l) => match y with
      | .int k => match ixN l.length k with
        | some n => some (A.set i (.lst (l.set n v)))
        | none => none
      | _ => none
    | some (.dic t false l) => if keyOk t y && decide (l.length < sizeLine) then some (A.set i (.dic t false (kput l y v))) else none
    | _ => none
theorem z4r : setIt A (.ref i) y z = si_ A i y z A[i]? := rfl
theorem zar (h : 0 ≤ p ∧ p < (l.length : Int)) : si_ A i (.int p) z (some (.lst l)) = some (A.set i (.lst (l.set p.toNat z))) := by
  unfold si_; simp only [ixN_nat h.1 h.2]
theorem z9r (h : kv.length < 16000000) : si_ A i y z (some (.dic t false kv)) = if keyOk t y = true then some (A.set i (.dic t false (kput kv y z))) else none := by
  unfold si_; simp only [decide_eq_true (small_line' h), Bool.and_true]
def gn_ (p : Int) : Option (List D) → Option D
  | some l => if 0 ≤ p then l[p.toNat]? else none
  | none => none
theorem zag : gn_ p (some l) = if 0 ≤ p then l[p.toNat]? else none := rfl
theorem z5l : getN A (.ref i) (.int p) = gn_ p (sq_ A[i]?) := by
  unfold getN; rw [z5h]; cases sq_ A[i]? <;> rfl
def il_ : Option O → Bool
  | some (.lst _) => true
  | _ => false
theorem z9g : il_ (some (.lst l)) = true := rfl
theorem zb3 : il_ (some (.dic t lk kv)) = false := rfl
theorem z3r : isLst A (.ref i) = il_ A[i]? := by unfold isLst il_; rfl
def dg_ (A : Hs) (y : D) : Option O → RE D
  | some (.dic t _ kv) => if keyOk t y = true then at_ A (kget kv y) else .stuck
  | _ => .stuck
theorem zbc : dg_ A y (some (.dic t lk kv)) = if keyOk t y = true then at_ A (kget kv y) else .stuck := rfl
theorem z39 : oDGet (.ref i) y A = dg_ A y A[i]? := by
  unfold oDGet dicAt
  rcases h : A[i]? with _ | u
  · simp only [h]; rfl
  · cases u with
    | dic t lk kv => simp only [h, dg_]; unfold at_; split <;> first | rfl | (cases kget kv y <;> rfl)
    | _ => simp only [h]; rfl
def wl_ (A : Hs) (i : Nat) : Option O → Option Wk
  | some (.lst l) => some ⟨l, fun A' => A'[i]? = some (.lst l)⟩
  | _ => none
theorem zaw : wl_ A i (some (.lst l)) = some ⟨l, fun A' => A'[i]? = some (.lst l)⟩ := rfl
theorem z7c : wkA A (.ref i) = wl_ A i A[i]? := by
  unfold wkA wkL wl_
  rcases h : A[i]? with _ | u
  · simp only [h]
  · cases u <;> simp only [h]
def we_ (A : Hs) (i : Nat) : Option O → Option Wk
  | some (.lst l) => some ⟨enumL l, fun A' => A'[i]? = some (.lst l)⟩
  | _ => none
theorem zah : we_ A i (some (.lst l)) = some ⟨enumL l, fun A' => A'[i]? = some (.lst l)⟩ := rfl
theorem z7s : wkE A (.ref i) = we_ A i A[i]? := by
  unfold wkE wkL we_
  rcases h : A[i]? with _ | u
  · simp only [h]; rfl
  · cases u <;> simp only [h] <;> rfl
/-! lists of truths, numbers -/
def al_ (A : Hs) : Option (List Bool) → RE D
  | some bs => .ok (.bl (bs.all id)) A
  | none => .stuck
theorem zal {bs : List Bool} : al_ A (some bs) = .ok (.bl (bs.all id)) A := rfl
theorem z5y : oAll x A = al_ A ((seqL A x).bind boolsOf) := by unfold oAll al_; rfl
def sm_ (A : Hs) : Option (List Int) → RE D
  | some bs => .ok (.int bs.sum) A
  | none => .stuck
theorem zay {ns : List Int} : sm_ A (some ns) = .ok (.int ns.sum) A := rfl
theorem z5w : oSum x A = sm_ A ((seqL A x).bind intsOf) := by unfold oSum sm_; rfl
theorem z3s {α β : Type} {f : α → Option β} {x : α} : (some x).bind f = f x := rfl
/-! places -/
theorem z9m (h : i < A.length) : (A.set i u)[i]? = some u := List.getElem?_set_self h
theorem z40 (h : i ≠ j) : (A.set i u)[j]? = A[j]? := List.getElem?_set_ne h
theorem z8r (h : j < A.length) : (A ++ [u])[j]? = A[j]? := List.getElem?_append_left h
theorem zab : (A ++ [u])[A.length]? = some u := by simp
theorem z7m (h : j = A.length) : (A ++ [u])[j]? = some u := by subst h; simp
theorem z2e : (A ++ [u]).length = A.length + 1 := by simp
theorem z2u : kget [] y = none := rfl
theorem z11 : kget ((x, z) :: kv) y = if keq x y = true then some z else kget kv y := by rw [kget]
theorem z9e : il_ (some (.obj C fs)) = false := rfl
theorem z7h : (Wk.mk l tt).gd = tt := rfl
theorem z7l {gd : Hs → Prop} : (Wk.mk l gd).ds = l := rfl
theorem z95 {gd : Hs → Prop} : (Wk.mk l gd).gd = gd := rfl
theorem z2n : wipeS env [] = env := rfl
theorem z1a {vs : List Nat} : wipeS env (i :: vs) = (wipeS env vs).set i none := by rw [wipeS]
/-- a result, by what holds of it -/
def Rk {α : Type} (r : RE α) (P : α → Hs → Prop) : Prop := match r with
  | .ok v A => P v A
  | _ => False
theorem z87 {α : Type} {x : α} {P : α → Hs → Prop} : Rk (.ok x A) P = P x A := rfl
theorem Rk.ex {α : Type} {r : RE α} {P : α → Hs → Prop} (h : Rk r P) : ∃ v A1, r = .ok v A1 ∧ P v A1 := by
  cases r with
  | ok v A1 => exact ⟨v, A1, rfl, h⟩
  | _ => exact h.elim
theorem Rk.of {α : Type} {r : RE α} {P : α → Hs → Prop} {x : α} (e : r = .ok x A) (h : P x A) : Rk r P := by rw [e]; exact h
theorem Rk.mono {α : Type} {r : RE α} {P P2 : α → Hs → Prop} (h : Rk r P) (k : ∀ v A, P v A → P2 v A) : Rk r P2 := by
  obtain ⟨v, A1, e, p⟩ := h.ex
  exact .of e (k v A1 p)
theorem Rk.make {P : D → Hs → Prop} {ds : List D} (h : Rk (F (.ref A.length :: ds) (A ++ [.obj C []])) fun v A1 => v = .non ∧ P (.ref A.length) A1) : Rk (make C F ds A) P := by
  obtain ⟨v, A1, e, rfl, p⟩ := h.ex
  exact .of (make_ok e) p
/-- a call in the goal, by what is known of it -/
theorem Rk.call {α : Type} {r : RE α} {P : α → Hs → Prop} (Q : RE α → Prop) (h : Rk r P) (k : ∀ v A1, P v A1 → Q (.ok v A1)) : Q r := by
  obtain ⟨v, A1, e, p⟩ := h.ex
  rw [e]; exact k v A1 p
/-- one turn of a loop: J where it goes on, R where the loop ends -/
def Trn (J : Sl → Hs → Prop) (R : RS → Prop) (r : RS) : Prop := match r with
  | .nx e A => J e A
  | .ct e A => J e A
  | .rt d A => R (.rt d A)
  | .bk e A => R (.nx e A)
  | .exc C e A => R (.exc C e A)
  | .stuck => False
theorem z7p {J : Sl → Hs → Prop} {R : RS → Prop} : Trn J R (.nx env A) = J env A := rfl
theorem z8h {J : Sl → Hs → Prop} {R : RS → Prop} : Trn J R (.ct env A) = J env A := rfl
theorem z86 {J : Sl → Hs → Prop} {R : RS → Prop} : Trn J R (.rt d A) = R (.rt d A) := rfl
theorem z8w {J : Sl → Hs → Prop} {R : RS → Prop} : Trn J R (.bk env A) = R (.nx env A) := rfl
theorem z5x {J : Sl → Hs → Prop} {R : RS → Prop} : Trn J R (.exc C env A) = R (.exc C env A) := rfl
def Tst (s : Hs → Prop) (k : Hs → Prop) (c : Bool) (A : Hs) : Prop := match c with
  | true => s A
  | false => k A
theorem z91 {s k : Hs → Prop} : Tst s k true A = s A := rfl
theorem z80 {s k : Hs → Prop} : Tst s k false A = k A := rfl
theorem z8q {s k : Hs → Prop} {c : Prop} [Decidable c] : Tst s k (decide c) A = if c then s A else k A := by
  by_cases h : c
  · simp [h, Tst]
  · simp [h, Tst]
theorem wh_go {t : Tt} (I : Nat → Sl → Hs → Prop) (R : RS → Prop) {n : Nat} (h0 : I n env A)
    (hs : ∀ n e A, I n e A → Rk (t e A) (Tst (fun A1 => Trn (fun e2 A2 => ∃ m, m < n ∧ I m e2 A2) R (f e A1)) fun A1 => R (.nx e A1))) : R (sWh t f env A) := by
  refine wh_inv I R h0 fun n e A hI => ?_
  obtain ⟨c, A1, h1, h2⟩ := (hs n e A hI).ex
  cases c with
  | false => exact .inl ⟨A1, h1, h2⟩
  | true =>
    refine .inr ⟨A1, h1, ?_⟩
    change Trn _ _ _ at h2
    cases q : f e A1 with
    | nx e2 A2 => rw [q] at h2; exact .inl ⟨e2, A2, .inl rfl, h2⟩
    | ct e2 A2 => rw [q] at h2; exact .inl ⟨e2, A2, .inr rfl, h2⟩
    | rt d2 A2 => rw [q] at h2; exact .inr (.inl ⟨d2, A2, rfl, h2⟩)
    | bk e2 A2 => rw [q] at h2; exact .inr (.inr (.inl ⟨e2, A2, rfl, h2⟩))
    | exc C e2 A2 => rw [q] at h2; exact .inr (.inr (.inr ⟨C, e2, A2, rfl, h2⟩))
    | stuck => rw [q] at h2; exact h2.elim
def Got (r : Option Sl) (P : Sl → Prop) : Prop := match r with
  | some e => P e
  | none => False
theorem z8e {P : Sl → Prop} : Got (some env) P = P env := rfl
theorem for_go {g : G} {gd : Hs → Prop} (I : Nat → Sl → Hs → Prop) (R : RS → Prop) {ds : List D} (h0 : I 0 env A) (hg : ∀ i e A, i ≤ ds.length → I i e A → gd A)
    (hs : ∀ i e A d, ds[i]? = some d → I i e A → Got (g d e A) fun e1 => Trn (I (i + 1)) R (f e1 A))
    (hd : ∀ e A, I ds.length e A → R (.nx e A)) : R (forL g f gd ds env A) := by
  refine for_inv I R h0 hg (fun i e A d hd hI => ?_) hd
  have h2 := hs i e A d hd hI
  cases q0 : g d e A with
  | none => rw [q0] at h2; exact h2.elim
  | some e1 =>
    rw [q0, z8e] at h2
    refine ⟨e1, rfl, ?_⟩
    cases q : f e1 A with
    | nx e2 A2 => rw [q] at h2; exact .inl ⟨e2, A2, .inl rfl, h2⟩
    | ct e2 A2 => rw [q] at h2; exact .inl ⟨e2, A2, .inr rfl, h2⟩
    | rt d2 A2 => rw [q] at h2; exact .inr (.inl ⟨d2, A2, rfl, h2⟩)
    | bk e2 A2 => rw [q] at h2; exact .inr (.inr (.inl ⟨e2, A2, rfl, h2⟩))
    | exc C e2 A2 => rw [q] at h2; exact .inr (.inr (.inr ⟨C, e2, A2, rfl, h2⟩))
    | stuck => rw [q] at h2; exact h2.elim
/-- a comprehension of pure parts over what its walk gives, as simp shows it -/
theorem lc_go {g : G} {t : Tt} {gd : Hs → Prop} (p : D → Bool) (h : D → D) {ds : List D} (hgd : gd A) (hl : ds.length < 16000000)
    (hs : ∀ d ∈ ds, Got (g d env A) fun e1 => Rk (t e1 A) fun c A1 => c = p d ∧ A1 = A ∧ (c = true → Rk (a e1 A) fun v A2 => v = h d ∧ A2 = A)) : lcL g t a gd env ds [] A = .ok ((ds.filter p).map h) A := by
  refine lc_pure p h hgd (by simpa using hl) fun d hd => ?_
  have h2 := hs d hd
  cases q0 : g d env A with
  | none => rw [q0] at h2; exact h2.elim
  | some e1 =>
    rw [q0, z8e] at h2
    obtain ⟨c, A1, e, rfl, rfl, k⟩ := h2.ex
    refine ⟨e1, rfl, e, fun hp => ?_⟩
    obtain ⟨v, A2, e3, rfl, rfl⟩ := (k hp).ex
    exact e3
end
end SM

/-! ## enumerate over a tuple -/
namespace SM
open PySem L2 PySem.Spec PyProof.Rows
theorem meets_enumerate_newB1 {v : Value} {o : Obj} {H : Heap → Prop} (B : Begins v o H) :
    Meets (Builtin.«enumerate.__new__» ⟨[.type "enumerate", v], []⟩) (fun _ R s => H s.heap ∧
      R (.ok (.ret (.ref (s.heap.push o).objs.size))) { s with heap := (s.heap.push o).push { cls := .type "enumerate", data := .fields #[.none, .bool false, .ref s.heap.objs.size, rawInt 0, .none, .none] } }) :=
  .of_wp fun prog w A R s h => by
    obtain ⟨hp, g, d, tk, os⟩ := s; obtain ⟨h1, h⟩ := h
    have hsub := sub_enumerate
    have q1 : ∀ {A' : Around} {E : Value → Shared → Prop} {Q : Value → Shared → Prop}, Q (.ref hp.objs.size) ⟨hp.push o, g, d, tk, os⟩ → wpAny (model prog w) A' (pyIter v) Q E ⟨hp, g, d, tk, os⟩ :=
      fun q => B.iter prog w _ _ ⟨hp, g, d, tk, os⟩ _ h1 q
    wp_walk using q1
    refine wpAny_stack_any fun st => wpAny_pure ?_
    split
    · rename_i c _ _ _ _ _
      cases (c == Value.type "enumerate")
      · wp_walk using q1
        exact ⟨_, rfl, h⟩
      · wp_walk using q1
        exact ⟨_, rfl, h⟩
    · wp_walk using q1
      exact ⟨_, rfl, h⟩
section
variable {prog : Program} {w : World} {A : Around} {E : Value → Shared → Prop} {s : Shared}
theorem enum_begins1 {v : Value} {o : Obj} {H : Heap → Prop} {Q : Value → Shared → Prop} (B : Begins v o H) (h1 : H s.heap)
    (h : ∀ h', IsEnum h' (s.heap.objs.size + 1) s.heap.objs.size 0 .none → h'.get? s.heap.objs.size = some o → h'.objs.size = s.heap.objs.size + 2 →
      (∀ b o, s.heap.get? b = some o → h'.get? b = some o) → Q (.ref (s.heap.objs.size + 1)) { s with heap := h' }) :
    wpAny (model prog w) A (call (.type "enumerate") [v]) Q E s := by
  refine callType_new F.called_enumerate (by decide) (F.typeCall_enumerate_1 _) (F.newCall_enumerate_1 _) (fun obj => F.args_object_init_2 obj _) F.entry_enumerate_new
    (meets_enumerate_newB1 B) ⟨h1, ?_⟩
  have hz : (s.heap.push o).objs.size = s.heap.objs.size + 1 := Heap.size_push ..
  show _ ∧ _
  rw [hz]
  have he : IsEnum ((s.heap.push o).push { cls := .type "enumerate", data := .fields #[.none, .bool false, .ref s.heap.objs.size, rawInt 0, .none, .none] }) (s.heap.objs.size + 1) s.heap.objs.size 0 .none := by
    have := Heap.get?_push_size (s.heap.push o) (o := { cls := .type "enumerate", data := .fields #[.none, .bool false, .ref s.heap.objs.size, rawInt 0, .none, .none] }) rfl
    rw [hz] at this; exact this
  refine ⟨⟨_, he, rfl⟩, h _ he (Heap.get?_push_of_some _ (Heap.get?_push_size _ B.free)) (by rw [Heap.size_push, hz]) fun b o x => Heap.get?_push_of_some _ (Heap.get?_push_of_some _ x)⟩
end
/-- the tuple at a, each item in a new pair -/
def IteT (K : PySem.W.Frag) (a : Addr) : It :=
  ⟨fun i H => ∃ (xs : List V) (x : V), SqT K H a xs ∧ xs[i]? = some x, fun i H v H' => ∃ T x, v = .ref T ∧ H T = none ∧ H' = upd H T (.tup [.int (i : Nat), x]) ∧ ∀ xs, SqT K H a xs → xs[i]? = some x, fun i H => ∃ xs : List V, SqT K H a xs ∧ xs.length ≤ i⟩
theorem turn_enumT {P : Program} {w : World} {K : PySem.W.Frag} {elts : List Expr} {kk : Nat} {tpos : Pos} (a e it : Addr) :
    Turn P w K (.Tuple elts kk tpos) (IteT K a) [e, it] e (fun i h => (∃ old, IsEnum h e it ((i : Nat) : Int) old) ∧ h.IsTupleIter it a i ∧ e ≠ it) where
  mem := by simp
  obj := fun i h st b hb => by
    obtain ⟨⟨old, he⟩, ⟨o, ho, hc, hd⟩, _⟩ := st
    have e' : b = e ∨ b = it := by simpa using hb
    rcases e' with z | z
    · rw [z]; exact ⟨_, he, fun v q => nomatch q⟩
    · rw [z]; exact ⟨o, ho, fun v q => by rw [hd] at q; cases q⟩
  keep := fun i h h' st k => let ⟨⟨old, he⟩, hi, hne⟩ := st; ⟨⟨old, k e (by simp) _ he⟩, hi.at fun o q => k it (by simp) o q, hne⟩
  item := by
    intro X hP hw hK hc i pins s σ H E I hf st hg
    subst hP hw hK
    obtain ⟨⟨old, he⟩, hit, hne⟩ := st
    obtain ⟨xs, x, hq, hx⟩ := hg
    obtain ⟨its, rv, p, hz⟩ := I.tuple hq
    obtain ⟨u, hu, ru⟩ := rv.get hx
    have hel : e < s.heap.objs.size := Heap.lt_size he
    have hil : it < s.heap.objs.size := by obtain ⟨_, q, _⟩ := hit; exact Heap.lt_size q
    have hpT : s.heap.IsTuple a its.toArray := p
    have hai : a ≠ it := fun z => by
      subst z
      obtain ⟨o, ho, hc, hd⟩ := hit
      obtain ⟨o2, ho2, hc2, _⟩ := hpT
      rw [ho] at ho2; cases ho2
      rw [hc] at hc2; simp at hc2
    have hae : a ≠ e := fun z => by
      subst z
      obtain ⟨o2, ho2, hc2, _⟩ := hpT
      rw [he] at ho2; cases ho2
      simp at hc2
    have hlt : i < its.toArray.size := by
      rcases Nat.lt_or_ge i its.length with q | q
      · simpa using q
      · rw [List.getElem?_eq_none q] at hu; cases hu
    refine wpAny_pyNext_enum_itemD (A := X.A) (Draws.tuple (A := X.A.in1) (I.ok.hd hc) it a hai its.toArray) he ⟨hit, hpT⟩ hlt hne (by simp; exact ⟨hne, fun z => hae z.symm⟩) fun u' h' tk hP ho hst hT hsz hk => ?_
    obtain rfl : u' = u := by
      have : its.toArray[i]? = some u := by simpa using hu
      rw [this] at hP; cases hP; rfl
    refine ⟨_, rfl, wpAny_letOwnedTupleGo_enum (s := { s with heap := h', toks := tk + 1 }) ho fun h'' he' sb => ?_⟩
    have hT2 : h''.get? s.heap.objs.size = some { cls := .type "tuple", data := .seq #[.int i tk, u'] } := (sb.2 _ (Nat.ne_of_gt hel)).trans hT
    have new : ObjOk X.prog X.w (upd H s.heap.objs.size (.tup [.int (i : Nat), x])) h'' s.heap.objs.size (.tup [.int (i : Nat), x]) :=
      ⟨by show 2 ≤ sizeLine; decide, [.int i tk, u'], .cons ⟨_, rfl⟩ (.cons ru .nil), ⟨_, hT2, rfl, _, rfl⟩⟩
    have I1 : Inv X pins σ (upd H s.heap.objs.size (.tup [.int (i : Nat), x])) { s with heap := h'', toks := tk + 1 } :=
      I.turnedNew (ch := [e, it]) (fun b ob hb q => (sb.2 b (fun z => hb (by simp [z]))).trans (hk b ob (fun z => hb (by simp [z])) (fun z => hb (by simp [z])) q)) hf (Nat.le_refl _) new
    refine ⟨.ref s.heap.objs.size, _, I1, rfl, ⟨_, x, rfl, I.hok.fresh (Nat.le_refl _), rfl, fun ys hy => by rw [I.tuple_inj hy hq]; exact hx⟩, ⟨⟨u', ?_⟩, hst.1.at fun o q => (sb.2 it (Ne.symm hne)).trans q, hne⟩, fun b hb => ?_⟩
    · have e1 : ((i + 1 : Nat) : Int) = (i : Int) + 1 := by omega
      rw [e1]; exact he'
    · have hb' : b < s.heap.objs.size := by
        have e' : b = e ∨ b = it := by simpa using hb
        rcases e' with z | z
        · rw [z]; exact hel
        · rw [z]; exact hil
      rw [upd_ne (Nat.ne_of_lt hb')]
      exact (hf b hb).1
  done := by
    intro X hP hw hK hc i pins s σ H E I hf st hg
    subst hP hw hK
    obtain ⟨⟨old, he⟩, hit, hne⟩ := st
    obtain ⟨xs, hq, hx⟩ := hg
    obtain ⟨its, rv, p, hz⟩ := I.tuple hq
    obtain ⟨f0, f1, f2, f3, f4, f5⟩ := hf it (by simp)
    have hl := rv.length
    have hpT : s.heap.IsTuple a its.toArray := p
    have hT : s.TypeIs (.ref e) "enumerate" := ⟨_, he, rfl⟩
    unfold pyNext
    refine wpAny_bind (wpAny_attempt (wpAny_callSpecial?_slot (name := Str.ofString "__next__") hT F.slot_enumerate_next
      (wpAny_call_entry F.slot_enumerate_next hT F.entry_enumerate_next ?_ (F.args_enumerate_next_1 _))))
    show wpAny _ _ (field (.ref e) 2 >>= _) _ _ _
    refine wpAny_bind (wpAny_field he rfl (x := .ref it) rfl ?_)
    refine wpAny_bind (wpAny_nextOf_tuple_end (I.ok.hd hc) hit hpT (by simp; omega) fun h' x he' hx' => ?_)
    obtain ⟨o, ho, hc⟩ := hx'
    refine wpAny_bind (wpAny_isInstance (T := "StopIteration") (b := true) ⟨o, ho, hc⟩ isSubtype_stop ?_)
    exact wpAny_pure ⟨rfl, I.turned (t' := s.toks) (fun b o hb q => he' b o hb q) f0 f1 f3 f4 f5⟩
  self := fun A i s Q E st h => let ⟨⟨_, he⟩, _⟩ := st; wpAny_pyIter_enum he h
def iEnumT (K : PySem.W.Frag) (ta : TA) : TI := fun σ H R => ta σ H fun vs H1 => ∃ a xs, vs = [.ref a] ∧ SqT K H1 a xs ∧ R (IteT K a) H1
theorem pi_enumT {X : Cx} {e : Expr} {ta : TA} {p pos tpos : Pos} {elts : List Expr} {kk : Nat} (hg : Gl X "enumerate") (hm : X.mg "enumerate" = none) (ha : PA X [e] ta) (hs : starEach [e] X.env = [(false, eval e X.env)] := by rfl) :
    PI X (.Tuple elts kk tpos) (.Call (.Name "enumerate" p) [e] [] pos) (iEnumT X.K ta) := by
  refine ⟨fun pins s σ H R I h => ?_⟩
  refine PyProof.Rows.Call_ (ld_blt I hg hm boot_enumerate (PyProof.Rows.callWith_type1 (thn (ha.run pos pins s σ H _ I h) fun us s1 ⟨vs, H1, I1, r1, q1⟩ => ?_) hs rfl))
  obtain ⟨a, xs, ex, hq, q⟩ := q1
  subst ex
  cases r1 with
  | cons r rr =>
    cases rr
    cases r
    obtain ⟨its, rv, p', hz⟩ := I1.tuple hq
    have hpT : s1.heap.IsTuple a its.toArray := p'
    refine enum_begins1 (begins_tuple a its.toArray) hpT fun h' he hit hsz hk => wpAny_pyIter_enum he ?_
    have I2 : Inv X pins σ H1 { s1 with heap := h' } := I1.kept (t' := s1.toks) hk
    refine ⟨s1.heap.objs.size + 1, [s1.heap.objs.size + 1, s1.heap.objs.size], _, _, H1, rfl, I2, turn_enumT a (s1.heap.objs.size + 1) s1.heap.objs.size, ⟨⟨.none, he⟩, ⟨_, hit, rfl, rfl⟩, Nat.succ_ne_self _⟩, fun b hb => ?_, q⟩
    have e' : b = s1.heap.objs.size + 1 ∨ b = s1.heap.objs.size := by simpa using hb
    have hle : s1.heap.objs.size ≤ b := by
      rcases e' with z | z
      · rw [z]; exact Nat.le_add_right _ _
      · rw [z]; exact Nat.le_refl _
    exact I1.fpOk hle (I1.hok.fresh hle)
theorem PI.or {X : Cx} {tg e : Expr} {i1 i2 : TI} (h1 : PI X tg e i1) (h2 : PI X tg e i2) : PI X tg e (fun σ H R => i1 σ H R ∨ i2 σ H R) :=
  ⟨fun pins s σ H R I h => h.elim (h1.run pins s σ H R I) (h2.run pins s σ H R I)⟩
section
variable {K : PySem.W.Frag} {ca : CaT} {W : WX} {te : TE} {a : E}
theorem walk_enumT {a : Addr} {vs : List V} : Walk (IteT K a) vs.length (fun H => SqT K H a vs) (fun i H v H' => ∃ T x, v = .ref T ∧ H T = none ∧ H' = upd H T (.tup [.int (i : Nat), x]) ∧ ∀ xs, SqT K H a xs → xs[i]? = some x) :=
  ⟨fun i _ hi q => ⟨vs, vs[i]'hi, q, by simp [hi]⟩, fun _ q => ⟨vs, q, Nat.le_refl _⟩, fun _ _ _ _ _ _ y => y⟩
def wkET (A : Hs) (x : D) : Option Wk := (wkT A x).map fun k => ⟨enumL k.ds, k.gd⟩
theorem sw_enumT (h : SimE K ca W te a) : SimI K ca W (iEnumT K (tCons te tNil)) (wOf wkET a) := fun F m A σ H env Q R S p => wOf_bind h R S p fun F1 m1 A1 H1 x d kk R1 r hk p1 => by
  have main : ∀ {aa : Addr} {vs : List V} {l : List D}, SqT K F1 aa vs → RepL K ca F1 m1 vs l → kk = ⟨enumL l, tt⟩ → x = .ref aa → ∃ a xs, [x] = [.ref a] ∧ SqT K H1 a xs ∧ Q (IteT K a) H1 := fun {aa vs l} s rs e ex => by
    subst e; subst ex
    refine ⟨aa, vs, rfl, R1.fh.t s, p1 _ F1 m1 H1 R1 Stp.refl ⟨fun H => SqT K H aa vs, _, by rw [show (Wk.mk (enumL l) tt).ds.length = vs.length from enumL_len.trans rs.length.symm]; exact walk_enumT, fun F2 m2 A2 H2 hg R2 g2 => R2.fh.t (g2.ff.t s), fun i' d' x' F2 m2 A2 H2 H3 e hg R2 g2 y => .inr (.inl ?_)⟩⟩
    obtain ⟨T, z, y1, y2, y3, y4⟩ := y
    obtain ⟨dx, q1, q2⟩ := enumL_get e
    obtain ⟨w, w1, w2⟩ := rs.get q1
    have := y4 _ (R2.fh.t (g2.ff.t s))
    rw [w1] at this; cases this
    exact ⟨T, _, _, q2, y1, y2, y3, .cons (.int _) (.cons (w2.mono g2.ff g2.mm) .nil)⟩
  cases r with
  | tup s rs => cases hk; exact main (.inl (.inl s)) rs rfl rfl
  | wt s rs => cases hk; exact main s rs rfl rfl
  | _ => cases hk
def wkEA (A : Hs) (x : D) : Option Wk := match x with
  | .tup _ => wkET A x
  | .wt _ => wkET A x
  | _ => wkE A x
def iEnumA (K : PySem.W.Frag) (ta : TA) : TI := fun σ H R => iEnum K ta σ H R ∨ iEnumT K ta σ H R
theorem sw_enumA (h : SimE K ca W te a) : SimI K ca W (iEnumA K (tCons te tNil)) (wOf wkEA a) := SimI.pick (sw_enum h) (sw_enumT h) (wOf_pick (f := wkEA) fun A x => by cases x <;> first | exact .inl rfl | exact .inr rfl)
theorem pi_enumA {X : Cx} {e : Expr} {ta : TA} {p pos tpos : Pos} {elts : List Expr} {kk : Nat} (hg : Gl X "enumerate") (hm : X.mg "enumerate" = none) (ha : PA X [e] ta) (hs : starEach [e] X.env = [(false, eval e X.env)] := by rfl) :
    PI X (.Tuple elts kk tpos) (.Call (.Name "enumerate" p) [e] [] pos) (iEnumA X.K ta) := PI.or (pi_enum hg hm ha hs) (pi_enumT hg hm ha hs)
theorem z2a {A : Hs} {i : Nat} : wkEA A (.ref i) = we_ A i A[i]? := z7s
theorem z1q {A : Hs} {l : List D} : wkEA A (.tup l) = some ⟨enumL l, tt⟩ := rfl
theorem z2h {A : Hs} {l : List D} : wkEA A (.scr l) = some ⟨enumL l, tt⟩ := rfl
end
end SM

/-! ## d.pop(k), d.pop(k, e) -/
namespace SM
open PySem L2
open DL (Ex ExK)
section
variable {K : PySem.W.Frag} {ca : CaT} {F F1 F2 H H1 H2 : Hp} {m m1 m2 : List Addr} {A A1 A2 : Hs} {σ : L2.St} {env : Sl} {W : WX} {Q : VK}
variable {to ti ta tb tc te tz : TE} {a b c e : E} {i : Nat} {d : D} {ts : TA} {as : As} {x y : V} {dx dy : D}
def oDPop (x y : D) (A : Hs) : RE D := match x with
  | .ref i => match A[i]? with
    | some (.dic false false l) => match keyK y, kget l y with
      | some _, some d => .ok d (A.set i (.dic false false (kdel l y)))
      | _, _ => .stuck
    | _ => .stuck
  | _ => .stuck
def ePop1 (a b : E) : E := fun env A => (a env A).bind fun x A1 => if isDic A1 x then (b env A1).bind fun y A2 => oDPop x y A2 else if (seqL A1 x).isSome then ((aCons b aNil) env A1).bind fun ds A2 => oPopAt x ds A2 else .stuck
/-- with a way out -/
def oDPop2 (x y z : D) (A : Hs) : RE D := match x with
  | .ref i => match A[i]? with
    | some (.dic false false l) => match keyK y with
      | some _ => match kget l y with
        | some d => .ok d (A.set i (.dic false false (kdel l y)))
        | none => .ok z A
      | _ => .stuck
    | _ => .stuck
  | _ => .stuck
def eDPop2 (a b c : E) : E := fun env A => (a env A).bind fun x A1 => if isDic A1 x then (b env A1).bind fun y A2 => (c env A2).bind fun z A3 => oDPop2 x y z A3 else .stuck
end
section
variable {A : Hs} {env : Sl} {a b c : E} {i : Nat} {x y z d : D} {kv : List (D × D)} {l : List D} {fs : List (String × D)} {C : String} {t lk : Bool} {n : Nat}
def isd_ : Option O → Bool
  | some (.dic _ _ _) => true
  | _ => false
theorem z7v : isd_ (some (.dic t lk kv)) = true := rfl
theorem z8u : isd_ (some (.lst l)) = false := rfl
theorem z3w : isDic A (.ref i) = isd_ A[i]? := by
  unfold isDic dicAt
  rcases h : A[i]? with _ | u
  · simp only [h]; rfl
  · cases u <;> simp only [h] <;> rfl
theorem z1f : isDic A (.scr l) = false := rfl
theorem z5b : ePop1 a b env A = (a env A).bind fun x A1 => if isDic A1 x = true then (b env A1).bind fun y A2 => oDPop x y A2 else if (seqL A1 x).isSome = true then ((aCons b aNil) env A1).bind fun ds A2 => oPopAt x ds A2 else .stuck := rfl
theorem z4e : eDPop2 a b c env A = (a env A).bind fun x A1 => if isDic A1 x = true then (b env A1).bind fun y A2 => (c env A2).bind fun z A3 => oDPop2 x y z A3 else .stuck := rfl
def dp_ (A : Hs) (i : Nat) (y : D) (kv : List (D × D)) : Option D → RE D
  | some d => if (keyK y).isSome = true then .ok d (A.set i (.dic false false (kdel kv y))) else .stuck
  | none => .stuck
theorem za9 : dp_ A i y kv (some d) = if (keyK y).isSome = true then .ok d (A.set i (.dic false false (kdel kv y))) else .stuck := rfl
def dpo_ (A : Hs) (i : Nat) (y : D) : Option O → RE D
  | some (.dic false false kv) => dp_ A i y kv (kget kv y)
  | _ => .stuck
theorem z89 : dpo_ A i y (some (.dic false false kv)) = dp_ A i y kv (kget kv y) := rfl
theorem z4a : oDPop (.ref i) y A = dpo_ A i y A[i]? := by
  unfold oDPop dpo_ dp_
  rcases h : A[i]? with _ | u
  · simp only [h]
  · cases u with
    | dic t lk kv => cases t <;> cases lk <;> simp only [h] <;> (cases keyK y <;> cases kget kv y <;> rfl)
    | _ => simp only [h]
theorem z57 {p : Int} : keyK (.int p) = some (.inl p) := rfl
theorem z5r {s : Str} : keyK (.str s) = some (.inr s) := rfl
theorem z4v {s : String} : keyK (dS s) = some (.inr (fS s)) := rfl
/-- y in a list's, tuple's items -/
def inl_ (A : Hs) (y : D) (l : List D) (neg : Bool) : RE D := match pyA A 40 y, allSome (l.map (pyA A 39)) with
  | some p, some ps => .ok (.bl (if neg then !(ps.any fun z => PyData.eqv z p) else ps.any fun z => PyData.eqv z p)) A
  | _, _ => .stuck
def in_ (A : Hs) (y : D) (neg : Bool) : Option O → RE D
  | some (.dic t _ kv) => if keyOk t y = true then .ok (.bl (if neg then !(kget kv y).isSome else (kget kv y).isSome)) A else .stuck
  | some (.lst l) => inl_ A y l neg
  | _ => .stuck
theorem za4 {neg : Bool} : in_ A y neg (some (.dic t lk kv)) = if keyOk t y = true then .ok (.bl (if neg then !(kget kv y).isSome else (kget kv y).isSome)) A else .stuck := rfl
theorem z9w {neg : Bool} : in_ A y neg (some (.lst l)) = inl_ A y l neg := rfl
theorem inData_l (h : pyA A 40 x = (allSome (l.map (pyA A 39))).map PyData.list ∨ pyA A 40 x = (allSome (l.map (pyA A 39))).map PyData.tuple) : inData A y x = match pyA A 40 y, allSome (l.map (pyA A 39)) with
  | some p, some ps => some (ps.any fun z => PyData.eqv z p)
  | _, _ => none := by
  unfold inData
  rcases h with h | h <;> rw [h] <;> (cases pyA A 40 y <;> cases allSome (l.map (pyA A 39)) <;> rfl)
theorem z8l : oIn y (.ref i) A = in_ A y false A[i]? := by
  unfold oIn oB inA
  rcases h : A[i]? with _ | u
  · have : pyA A 40 (.ref i) = none := by rw [pyA]; simp only [h]
    simp only [dicAt, h, inData, this]; cases pyA A 40 y <;> rfl
  · cases u with
    | dic t lk kv => simp only [dicAt, h, inDic, za4]; cases keyOk t y <;> simp [Option.map]
    | lst l =>
      have := inData_l (A := A) (x := .ref i) (y := y) (l := l) (.inl (py_lst h))
      simp only [dicAt, h, this, z9w, inl_]
      cases pyA A 40 y <;> cases allSome (l.map (pyA A 39)) <;> rfl
    | obj C f =>
      have : pyA A 40 (.ref i) = none := by rw [pyA]; simp only [h]
      simp only [dicAt, h, inData, this]; cases pyA A 40 y <;> rfl
theorem z2p : oNotIn y (.ref i) A = in_ A y true A[i]? := by
  unfold oNotIn oB inA
  rcases h : A[i]? with _ | u
  · have : pyA A 40 (.ref i) = none := by rw [pyA]; simp only [h]
    simp only [dicAt, h, inData, this]; cases pyA A 40 y <;> rfl
  · cases u with
    | dic t lk kv => simp only [dicAt, h, inDic, za4]; cases keyOk t y <;> simp [Option.map]
    | lst l =>
      have := inData_l (A := A) (x := .ref i) (y := y) (l := l) (.inl (py_lst h))
      simp only [dicAt, h, this, z9w, inl_]
      cases pyA A 40 y <;> cases allSome (l.map (pyA A 39)) <;> rfl
    | obj C f =>
      have : pyA A 40 (.ref i) = none := by rw [pyA]; simp only [h]
      simp only [dicAt, h, inData, this]; cases pyA A 40 y <;> rfl
theorem z7e : oIn y (.tup l) A = inl_ A y l false := by
  have := inData_l (A := A) (x := .tup l) (y := y) (l := l) (.inr (by rw [pyA]))
  unfold oIn oB inA
  simp only [dicAt, this, inl_]
  cases pyA A 40 y <;> cases allSome (l.map (pyA A 39)) <;> rfl
theorem z20 : oNotIn y (.tup l) A = inl_ A y l true := by
  have := inData_l (A := A) (x := .tup l) (y := y) (l := l) (.inr (by rw [pyA]))
  unfold oNotIn oB inA
  simp only [dicAt, this, inl_]
  cases pyA A 40 y <;> cases allSome (l.map (pyA A 39)) <;> rfl
theorem py_ints {ns : List Int} : allSome ((ns.map D.int).map (pyA A n)) = some (ns.map PyData.int) := by
  induction ns with
  | nil => rfl
  | cons b r ih => rw [List.map_cons, List.map_cons, show pyA A n (.int b) = some (.int b) by cases n <;> simp [pyA], allSome, ih]; rfl
theorem z2s {ns : List Int} {p : Int} {neg : Bool} : inl_ A (.int p) (ns.map D.int) neg = .ok (.bl (if neg then !decide (p ∈ ns) else decide (p ∈ ns))) A := by
  unfold inl_
  rw [py_ints, show pyA A 40 (.int p) = some (.int p) by simp [pyA]]
  have : ((ns.map PyData.int).any fun z => PyData.eqv z (.int p)) = decide (p ∈ ns) := by
    rw [List.any_map]
    induction ns with
    | nil => rfl
    | cons b r ih =>
      rw [List.any_cons, ih]
      simp [PyData.eqv]
      congr 1
      rw [Bool.eq_iff_iff, beq_iff_eq, decide_eq_true_eq]; exact eq_comm
  simp only [this]
end
end SM

/-! ## more equations -/
namespace SM
open PySem L2
section
variable {A A1 A2 : Hs} {env : Sl} {a b c : E} {x y z d : D} {l : List D} {os xs : List String} {tb : List (String × String × Bool)} {s : String}
theorem z0u : oIsi os xs tb (dS s) (.ty "str") A = .ok (.bl true) A := rfl
theorem z18 : oIsi os xs tb (dS s) (.ty "int") A = .ok (.bl false) A := rfl
theorem z09 : oIsi os xs tb (dS s) (.ty "bool") A = .ok (.bl false) A := rfl
theorem z02 : oIsi os xs tb (dS s) (.ty "tuple") A = .ok (.bl false) A := rfl
def kset_ (y v : D) (kv : List (D × D)) : List (D × D) := kv.map fun p => if keq p.1 y then (p.1, v) else p
theorem z2m {v : D} : kset_ y v [] = [] := rfl
theorem z1l {v : D} {kv : List (D × D)} : kset_ y v ((x, z) :: kv) = (if keq x y = true then (x, v) else (x, z)) :: kset_ y v kv := rfl
theorem z24 : khas [] y = false := rfl
theorem z0y {kv : List (D × D)} : khas ((x, z) :: kv) y = if keq x y = true then true else khas kv y := by
  unfold khas; rw [List.any_cons]; cases keq x y <;> rfl
theorem z2q {v : D} : kput [] y v = [(y, v)] := rfl
theorem z0z {v : D} {kv : List (D × D)} : kput ((x, z) :: kv) y v = if khas ((x, z) :: kv) y = true then kset_ y v ((x, z) :: kv) else ((x, z) :: kv) ++ [(y, v)] := rfl
theorem z93 : dNil env A = .ok [] A := rfl
theorem z6g {k v : E} {r : Dps} : dCons k v r env A = (k env A).bind fun x A1 => (v env A1).bind fun y A2 => (r env A2).bind fun ps A3 => .ok ((x, y) :: ps) A3 := rfl
def dsp_ (A : Hs) (ps : List (D × D)) : RE D := if (ps.all fun p => (keyK p.1).isSome) && decide (ps.length ≤ 15) then alloc A (.dic false false (kmerge [] ps)) else .stuck
theorem z4z {d : Dps} : eDisp d env A = (d env A).bind fun ps A1 => dsp_ A1 ps := rfl
theorem z6v {ps : List (D × D)} (h : (ps.all fun p => (keyK p.1).isSome) = true) (hl : ps.length ≤ 15) : dsp_ A ps = .ok (.ref A.length) (A ++ [.dic false false (kmerge [] ps)]) := by
  unfold dsp_; rw [h, decide_eq_true hl]; rfl
theorem z0c {l : List (D × D)} : kmerge l [] = l := by rw [kmerge]
theorem z04 {l r : List (D × D)} {v : D} : kmerge l ((x, v) :: r) = kmerge (kput l x v) r := by rw [kmerge]
end
end SM

/-! ## min of four -/
namespace PySem
open Sem (wp)
section
variable {prog : Program} {w : World} {A : Around} {E : Value → Shared → Prop} {s : Shared}
end
end PySem
namespace SM
open PySem L2
section
variable {K : PySem.W.Frag} {ca : CaT}
def c4 (f : D → D → D → D → Hs → RE D) : List D → Hs → RE D := fun ds A => match ds with
  | [d, e, g, h] => f d e g h A
  | _ => .stuck
def oMin4 (x y z w : D) (A : Hs) : RE D := match x, y, z, w with
  | .int i, .int j, .int k, .int l => .ok (.int (min (min (min i j) k) l)) A
  | _, _, _, _ => .stuck
end
theorem c4_ {A : Hs} {d d1 d2 d3 : D} {f : D → D → D → D → Hs → RE D} : c4 f [d, d1, d2, d3] A = f d d1 d2 d3 A := rfl
theorem z4u {A : Hs} {p q r s : Int} : oMin4 (.int p) (.int q) (.int r) (.int s) A = .ok (.int (min (min (min p q) r) s)) A := rfl
def ad_ (A : Hs) : Option (List D) → Option (List D) → RE D
  | some l, some k => if l.length + k.length ≤ sizeLine then .ok (.ref A.length) (A ++ [.lst (l ++ k)]) else .stuck
  | _, _ => .stuck
theorem za6 {A : Hs} {l k : List D} (h : l.length + k.length ≤ 16000000) : ad_ A (some l) (some k) = .ok (.ref A.length) (A ++ [.lst (l ++ k)]) := by
  show (if l.length + k.length ≤ sizeLine then _ else _) = _
  rw [if_pos (z08 h)]
theorem z5s {A : Hs} {i j : Nat} : oAdd (.ref i) (.ref j) A = ad_ A (sq_ A[i]?) (sq_ A[j]?) := by
  unfold oAdd ad_ sq_
  simp only
  rcases A[i]? with _ | u
  · rfl
  · cases u with
    | lst l =>
      rcases A[j]? with _ | v
      · rfl
      · cases v <;> rfl
    | _ => rfl
/-- a statement that goes on, by what holds of it -/
def Nx (r : RS) (P : Sl → Hs → Prop) : Prop := match r with
  | .nx e A => P e A
  | _ => False
theorem z97 {e : Sl} {A : Hs} {P : Sl → Hs → Prop} : Nx (.nx e A) P = P e A := rfl
theorem Nx.call {r : RS} {P : Sl → Hs → Prop} (Q : RS → Prop) (h : Nx r P) (k : ∀ e A, P e A → Q (.nx e A)) : Q r := by
  cases r with
  | nx e A => exact k e A h
  | _ => exact h.elim
theorem rep_nS {n : Nat} : List.replicate (n + 1) (none : Option D) = none :: List.replicate n none := rfl
theorem rep_n0 : List.replicate 0 (none : Option D) = [] := rfl
end SM

/-! ## list.index of flat items -/
namespace SM
open PySem L2
open DL (Ex ExK)
def fV : D → Option V
  | .non => some .non
  | .bl b => some (.bl b)
  | .int i => some (.int i)
  | .str s => some (.str s)
  | _ => none
def fVs : List D → Option (List V)
  | [] => some []
  | d :: r => match fV d, fVs r with
    | some v, some vs => some (v :: vs)
    | _, _ => none
section
variable {K : PySem.W.Frag} {ca : CaT} {F : Hp} {m : List Addr}
end
/-- the first place of y -/
def idxV (y : V) : List V → Option Nat
  | [] => none
  | z :: r => if eqV z y = true then some 0 else (idxV y r).map (· + 1)
def oIndex (x : D) (ds : List D) (A : Hs) : RE D := match (seqL A x).bind fVs, ds with
  | some ws, [d] => match fV d with
    | some y => match idxV y ws with
      | some j => .ok (.int (j : Nat)) A
      | none => .stuck
    | none => .stuck
  | _, _ => .stuck
section
variable {K : PySem.W.Frag} {ca : CaT}
end
/-! equations -/
section
variable {A : Hs} {x y d : D} {i : Nat} {l : List D}
def ix3 (A : Hs) (y : V) : Option (List V) → RE D
  | some ws => at_ A ((idxV y ws).map fun j => .int (j : Nat))
  | none => .stuck
theorem z2v {b : Bool} : oIndex (.ref i) [.bl b] A = ix3 A (.bl b) ((sq_ A[i]?).bind fVs) := by
  unfold oIndex ix3; rw [z5h]
  cases (sq_ A[i]?).bind fVs with
  | none => rfl
  | some ws => simp only [fV]; cases idxV (V.bl b) ws <;> rfl
theorem z1z {n : Int} : oIndex (.ref i) [.int n] A = ix3 A (.int n) ((sq_ A[i]?).bind fVs) := by
  unfold oIndex ix3; rw [z5h]
  cases (sq_ A[i]?).bind fVs with
  | none => rfl
  | some ws => simp only [fV]; cases idxV (V.int n) ws <;> rfl
theorem z9d {y : V} {ws : List V} : ix3 A y (some ws) = at_ A ((idxV y ws).map fun j => .int (j : Nat)) := rfl
theorem z3z : fVs [] = some [] := rfl
theorem z7g {b : Bool} {r : List D} : fVs (.bl b :: r) = (fVs r).map (V.bl b :: ·) := by
  conv => lhs; unfold fVs
  simp only [fV]; cases fVs r <;> rfl
theorem z8x {b : Int} {r : List D} : fVs (.int b :: r) = (fVs r).map (V.int b :: ·) := by
  conv => lhs; unfold fVs
  simp only [fV]; cases fVs r <;> rfl
theorem z2l {y : V} : idxV y [] = none := rfl
theorem z70 {b c : Bool} {r : List V} : idxV (.bl c) (.bl b :: r) = if b = c then some 0 else (idxV (.bl c) r).map (· + 1) := by
  rw [idxV]; cases b <;> cases c <;> rfl
end
/-! try, count -/
section
variable {A A1 : Hs} {env e1 : Sl} {d : D} {i j : Nat} {C : String} {cts : List String} {b s : S}
def tryK_ (cts : List String) (i j : Nat) (r : RS) : RS := match r with
  | .exc C env1 A1 => if C ∈ cts then .nx (((env1.set i (some (.exc C))).set j (some (.exc C))).set i none) A1 else .stuck
  | r => r
theorem z67 : sTryK cts i j b env A = tryK_ cts i j (b env A) := rfl
theorem z4q : tryK_ cts i j (.nx env A) = .nx env A := rfl
theorem z3p : tryK_ cts i j (.rt d A) = .rt d A := rfl
theorem z21 (h : C ∈ cts) : tryK_ cts i j (.exc C env A) = .nx (((env.set i (some (.exc C))).set j (some (.exc C))).set i none) A := if_pos h
def tryO_ (cts : List String) (s : S) (r : RS) : RS := match r with
  | .exc C env1 A1 => if C ∈ cts then s env1 A1 else .stuck
  | r => r
theorem z55 : sTryO cts b s env A = tryO_ cts s (b env A) := rfl
theorem z3n : tryO_ cts s (.nx env A) = .nx env A := rfl
theorem z3u : tryO_ cts s (.rt d A) = .rt d A := rfl
theorem z2k (h : C ∈ cts) : tryO_ cts s (.exc C env A) = s env A := if_pos h
def cn_ (A : Hs) (c : Bool) : Option (List Bool) → RE D
  | some bs => .ok (.int (bs.count c : Nat)) A
  | none => .stuck
theorem z23 {c : Bool} : oCount (.ref i) [.bl c] A = cn_ A c ((sq_ A[i]?).bind boolsOf) := by
  unfold oCount; rw [z5h]; cases (sq_ A[i]?).bind boolsOf <;> rfl
theorem z9v {c : Bool} {bs : List Bool} : cn_ A c (some bs) = .ok (.int (bs.count c : Nat)) A := rfl
theorem z58 : boolsOf [] = some [] := rfl
theorem z4i {c : Bool} {r : List D} : boolsOf (.bl c :: r) = (boolsOf r).map (c :: ·) := rfl
theorem z49 {c : Bool} : List.count c [] = 0 := rfl
theorem z2r {c b : Bool} {r : List Bool} : List.count c (b :: r) = List.count c r + (if b = c then 1 else 0) := by
  rw [List.count_cons]; cases b <;> cases c <;> rfl
end
/-! a, b, c = x, y, z -/
def sPar3 (i j l : Nat) (as : As) : S := fun env A => match as env A with
  | .ok [x, y, z] A1 => .nx (((env.set i (some x)).set j (some y)).set l (some z)) A1
  | .exc C A1 => .exc C env A1
  | _ => .stuck
section
variable {K : PySem.W.Frag} {ca : CaT} {W : WX} {i j l : Nat} {as : As} {ts : TA} {A : Hs} {env : Sl} {x y z : D}
def par3_ (env : Sl) (i j l : Nat) (r : RE (List D)) : RS := match r with
  | .ok [x, y, z] A1 => .nx (((env.set i (some x)).set j (some y)).set l (some z)) A1
  | .exc C A1 => .exc C env A1
  | _ => .stuck
theorem z6c : sPar3 i j l as env A = par3_ env i j l (as env A) := rfl
theorem z4m : par3_ env i j l (.ok [x, y, z] A) = .nx (((env.set i (some x)).set j (some y)).set l (some z)) A := rfl
end
/-! tuple(range(n)) -/
def eTupRg (a : E) : E := fun env A => (a env A).bind fun x A1 => match x with
  | .int n => if 0 ≤ n ∧ n ≤ 16777216 then .ok (.tup (rgL 0 1 n.toNat)) A1 else .stuck
  | _ => .stuck
section
variable {K : PySem.W.Frag} {ca : CaT} {W : WX} {te : TE} {a : E} {A : Hs} {n : Int}
def tupRg_ (A : Hs) : D → RE D
  | .int n => if 0 ≤ n ∧ n ≤ 16777216 then .ok (.tup (rgL 0 1 n.toNat)) A else .stuck
  | _ => .stuck
theorem z33 {env : Sl} : eTupRg a env A = (a env A).bind fun x A1 => tupRg_ A1 x := by
  unfold eTupRg tupRg_; rfl
theorem z38 (h : 0 ≤ n ∧ n ≤ 16777216) : tupRg_ A (.int n) = .ok (.tup (rgL 0 1 n.toNat)) A := if_pos h
end
/-- a def that has a second name -/
theorem Dx.of2 {P : Program} {w : World} {K : PySem.W.Frag} {mg : Str → Option Value} {base : Heap} {k : Nat} {x x0 qn : Str} {st : Stmt} {fa : Addr} {fd : FuncData} {ps : List Str} {sp : Sp} (h : FnOk P w K mg base (L2.CX P w) k fa fd ps sp) (F : Fun K x0 qn st fa fd) (hm : mg x = some (.ref fa)) (b : Binds K fd ps []) : DL.Dx P w K mg base k x sp := ⟨fa, fd, ps, h, hm, F.kp, b⟩
end SM

/-! ## defs with defaults -/
namespace L2
open PySem PySem.Spec PyProof.Rows
section
variable {X : Cx} {CX : CXT} {k : Nat} {f C : Addr} {fd : FuncData} {ps : List Str} {sp : Sp} {E : St → XK} {x : Str} {p pos : Pos} {e : Expr} {es : List Expr} {t : TA} {ds : List Value} {dvs : List V}
end
end L2
namespace DL
open PySem L2
/-- a class whose __init__ is called with its defaults dvs -/
structure MxD (P : Program) (w : World) (K : PySem.W.Frag) (mg : Str → Option Value) (base : Heap) (k : Nat) (x : Str) (C : Addr) (sp : Sp) (dvs : List V) : Prop where
  ex : ∃ (f : Addr) (fd : FuncData) (ps : List Str) (ds : List Value), Mk K C f ∧ FnOk P w K mg base (L2.CX P w) k f fd ps sp ∧ mg x = some (.ref C) ∧ Binds K fd ps ds ∧ Vals dvs ds
theorem MxD.of {P : Program} {w : World} {K : PySem.W.Frag} {mg : Str → Option Value} {base : Heap} {k : Nat} {x : Str} {C fa : Addr} {fd : FuncData} {ps : List Str} {sp : Sp} {dvs : List V} (M : Mk K C fa) (h : FnOk P w K mg base (L2.CX P w) k fa fd ps sp) (hm : mg x = some (.ref C)) (b : ∃ ds, Vals dvs ds ∧ Binds K fd ps ds) : MxD P w K mg base k x C sp dvs := by
  obtain ⟨ds, v, b⟩ := b
  exact ⟨fa, fd, ps, ds, M, h, hm, b, v⟩
theorem MxD.full {P : Program} {w : World} {K : PySem.W.Frag} {mg : Str → Option Value} {base : Heap} {k : Nat} {x : Str} {C : Addr} {sp : Sp} (h : MxD P w K mg base k x C sp []) : Mx P w K mg base k x C sp := by
  obtain ⟨fa, fd, ps, ds, M, h, hm, b, v⟩ := h.ex
  cases v
  exact ⟨fa, fd, ps, M, h, hm, b⟩
section
variable {X : Cx} {W : WX} {k j : Nat} {x : Str} {C : Addr} {sp : Sp} {p pos : Pos} {e : Expr} {es : List Expr} {t : TA} {dvs : List V}
end
end DL
namespace SM
open PySem L2
open DL (Ex ExK)
section
variable {K : PySem.W.Frag} {ca : CaT} {W : WX} {as : As} {ts : TA} {C : String} {f : Fn} {A : Hs} {env : Sl} {l : List D}
def eMakeD (C : String) (f : Fn) (dd : List D) (as : As) : E := fun env A => (as env A).bind fun ds A1 => make C f (ds ++ dd) A1
def eMakeD0 (C : String) (f : Fn) (dd : List D) (as : As) : E := fun env A => (as env A).bind fun ds A1 => (make C f (ds ++ dd) A1).noX
theorem z3v {dd : List D} : eMakeD C f dd as env A = (as env A).bind fun ds A1 => make C f (ds ++ dd) A1 := rfl
theorem z28 {dd : List D} : eMakeD0 C f dd as env A = (as env A).bind fun ds A1 => (make C f (ds ++ dd) A1).noX := rfl
end
section
variable {P : Program} {w : World} {K : PySem.W.Frag} {mg : Str → Option Value} {base : Heap} {ca : CaT} {x qn : Str} {st : Stmt} {fa : Addr} {fd : FuncData} {N ps : List Str} {k : Nat}
end
end SM

/-! ## t[::e] of a tuple, e = 1 or -1 -/
namespace SM
open PySem L2 PySem.Spec PyProof.Rows
section
variable {prog : Program} {w : World} {A : Around} {E : Value → Shared → Prop} {s : Shared}
end
section
open DL (Ex ExK)
variable {K : PySem.W.Frag} {ca : CaT} {W : WX} {ta tb : TE} {a b : E}
def oStT (x y : D) (A : Hs) : RE D := match seqT x with
  | some l => match y with
    | .int i => if i = 1 then .ok x A else if i = -1 then .ok (.tup l.reverse) A else .stuck
    | _ => .stuck
  | _ => .stuck
theorem z5u {l : List D} {A : Hs} : oStT (.tup l) (.int 1) A = .ok (.tup l) A := rfl
theorem z5n {l : List D} {A : Hs} : oStT (.tup l) (.int (-1)) A = .ok (.tup l.reverse) A := rfl
end
end SM

/-! ## text * 0, text * 1 -/
namespace L2
open PySem PySem.Spec PyProof.Rows
end L2
namespace SM
open PySem L2
open DL (Ex ExK)
section
variable {K : PySem.W.Frag} {ca : CaT}
def oMulS (x y : D) (A : Hs) : RE D := match x, y with
  | .str s, .int i => if i = 1 then .ok (.str s) A else if i = 0 then .ok (.str Str.empty) A else .stuck
  | _, _ => .stuck
end
theorem z4d {A : Hs} {s : String} : oMulS (dS s) (.int 1) A = .ok (dS s) A := rfl
theorem z4w {A : Hs} {s : String} : oMulS (dS s) (.int 0) A = .ok (dS "") A := rfl
section
variable {A : Hs} {env : Sl} {o a e : E} {i : Nat} {x y z d : D} {kv : List (D × D)} {t lk : Bool}
theorem z6e : eGet2 o a e env A = (o env A).bind fun x A1 => if isDic A1 x = true then (a env A1).bind fun y A2 => (e env A2).bind fun z A3 => ofO A3 (getD A3 x y z) else .stuck := rfl
def gD_ (y z : D) : Option O → Option D
  | some (.dic t _ kv) => if keyOk t y = true then some ((kget kv y).getD z) else none
  | _ => none
theorem z6j : getD A (.ref i) y z = gD_ y z A[i]? := by
  unfold getD gD_ dicAt
  rcases h : A[i]? with _ | u
  · simp only [h]
  · cases u <;> simp only [h]
theorem z9h : gD_ y z (some (.dic t lk kv)) = if keyOk t y = true then some ((kget kv y).getD z) else none := rfl
theorem z9b {α : Type} {d : α} : ofO A (some d) = .ok d A := rfl
end
def oL_ (r : RE D) (x : D) (A : Hs) : Option (List D) → RE D
  | some l => if l.isEmpty = true then r else .ok x A
  | none => .stuck
theorem z81 {A : Hs} {env : Sl} {a b : E} : eOrL a b env A = (a env A).bind fun x A1 => oL_ (b env A1) x A1 (seqL A1 x) := by
  unfold eOrL
  cases a env A with
  | ok x A1 =>
    simp only [RE.bind]
    cases seqL A1 x <;> rfl
  | exc _ _ => rfl
  | stuck => rfl
theorem za7 {r : RE D} {x : D} {A : Hs} {l : List D} : oL_ r x A (some l) = if l.isEmpty = true then r else .ok x A := rfl
/-! len(set(xs)) of ints -/
def eLenSet (a : E) : E := fun env A => (a env A).bind fun x A1 => match (seqL A1 x).bind intsOf with
  | some ns => if ns.length ≤ 4000 then .ok (.int (L2.unlike ns : Nat)) A1 else .stuck
  | none => .stuck
def lnS_ (A : Hs) : Option (List Int) → RE D
  | some ns => if ns.length ≤ 4000 then .ok (.int (L2.unlike ns : Nat)) A else .stuck
  | none => .stuck
theorem z1s {a : E} {env : Sl} {A : Hs} : eLenSet a env A = (a env A).bind fun x A1 => lnS_ A1 ((seqL A1 x).bind intsOf) := by
  unfold eLenSet lnS_; rfl
theorem z90 {A : Hs} {ns : List Int} (h : ns.length ≤ 4000) : lnS_ A (some ns) = .ok (.int (L2.unlike ns : Nat)) A := if_pos h
/-- a def that is called by no run -/
theorem Dx.never {P : Program} {w : World} {K : PySem.W.Frag} {mg : Str → Option Value} {base : Heap} {ca : CaT} {k : Nat} {x x0 qn : Str} {st : Stmt} {fa : Addr} {fd : FuncData} {ps : List Str} (F : Fun K x0 qn st fa fd) (hm : mg x = some (.ref fa)) (b : Binds K fd ps []) : DL.Dx P w K mg base k x (SpF K ca fun _ _ => .stuck) := by
  refine ⟨fa, fd, ps, ⟨fun vs H Q E h => ?_, fun A outer s H args us vs Q E _ _ _ _ h => ?_⟩, hm, F.kp, b⟩
  · obtain ⟨_, _, _, _, _, _, p⟩ := h; exact p.elim
  · obtain ⟨_, _, _, _, _, _, p⟩ := h; exact p.elim
end SM

/-! ## z.join(xs).replace(y, w), int(text) -/
namespace DL
open PySem L2 PySem.Spec PyProof.Rows
/-- e.replace(y, z) -/
def tRepl (y z : Str) (to : TE) : TE := fun σ H Q => to σ H fun v H1 => ∃ x, v = .str x ∧ x.length + (x.length + 1) * z.length ≤ 16777216 ∧ Q (.str (Txt.replace x y z)) H1
section
variable {X : Cx} {e : Expr} {te : TE} {x y z : Str} {j k i : Nat} {c c0 c1 ap1 p1 apos pos : Pos}
/-- a text that was put together by z.join(..) has a token behind it -/
theorem pe_joinRepl {K : PySem.W.Frag} (he : PE X e te) (hyz : (y == z) = false := by decide)
    (hs1 : starEach [e] X.env = [(false, eval e X.env)] := by rfl) (hb1 : attributeBase (.Constant (.str x) i c) "join" X.env (eval (.Constant (.str x) i c) X.env) = eval (.Constant (.str x) i c) X.env := by rfl) (hl1 : (ap1.endLine == p1.line) = true := by rfl)
    (hst : starEach [.Constant (.str y) j c0, .Constant (.str z) k c1] X.env = [(false, eval (.Constant (.str y) j c0) X.env), (false, eval (.Constant (.str z) k c1) X.env)] := by rfl)
    (hbase : attributeBase (.Call (.Attribute (.Constant (.str x) i c) "join" ap1) [e] [] p1) "replace" X.env (eval (.Call (.Attribute (.Constant (.str x) i c) "join" ap1) [e] [] p1) X.env) = eval (.Call (.Attribute (.Constant (.str x) i c) "join" ap1) [e] [] p1) X.env := by rfl) (hline : (apos.endLine == pos.line) = true := by rfl) (hK : X.K = K := by rfl) :
    PE X (.Call (.Attribute (.Call (.Attribute (.Constant (.str x) i c) "join" ap1) [e] [] p1) "replace" apos) [.Constant (.str y) j c0, .Constant (.str z) k c1] [] pos) (tRepl y z (tM1 (rJoin K) (tC (.str x)) te)) := by
  subst hK
  refine ⟨fun pins s σ H Q I h => ?_⟩
  refine PySem.Call_method2 hbase hst hline (PySem.Call_method1 hb1 hs1 hl1 (Calls.Constant_str ?_))
  obtain ⟨⟨a, ea⟩, q1⟩ := h
  refine ⟨"str", _, PySem.F.plainAttrs_str, PySem.F.slot_str_join, PySem.F.type_str_join, typeIs_str _ _ _, (fun _ e => nomatch e), ?_⟩
  have r0 : RelV (.str x) (.str x s.toks) := ⟨s.toks, rfl⟩
  have hrun : wpAny (model X.prog X.w) X.A (callWith p1 (.builtin "str.join") [.str x s.toks] [(false, eval e X.env)] []) (EP X pins σ fun v H1 => ∃ x, v = .str x ∧ x.length + (x.length + 1) * z.length ≤ 16777216 ∧ Q (.str (Txt.replace x y z)) H1) X.xe { s with toks := s.toks + 1 } := by
    refine Calls.callWith_builtin rfl (Calls.evalArgs_plain (Calls.spliced_cons ?_))
    exact thn (he.run pins { s with toks := s.toks + 1 } σ H _ (I.tok _) q1) fun u s2 ⟨y', H2, I2, r2, q2⟩ => Calls.spliced_nil (mt_join pins s2 σ H2 (.str x) [y'] (.str x s.toks) [u] _ I2 r0 (.cons r2 .nil) q2)
  refine wpAny_mono (PySem.wpAny_toks_of (n := 1) (by show 1 ≤ s.toks + 1; omega) hrun) (fun v s1 q => ?_) fun _ _ z => z.2
  obtain ⟨hk, v', H1, I1, r1, x1, e1, hb, q⟩ := q
  subst e1
  obtain ⟨tx, e2⟩ := r1
  subst e2
  refine ⟨"str", _, PySem.F.plainAttrs_str, PySem.F.slot_str_replace, PySem.F.type_str_replace, typeIs_str _ _ _, (fun _ e => nomatch e), Calls.callWith_builtin rfl (Calls.evalArgs_plain (Calls.spliced_cons ?_))⟩
  refine Calls.Constant_str (Calls.spliced_cons (Calls.Constant_str (Calls.spliced_nil ?_)))
  exact PySem.SC.replace (by show s1.toks ≠ 0; omega) (by show s1.toks + 1 ≠ 0; omega) (by show s1.toks ≠ s1.toks + 1; omega) hyz hb fun t' k => ⟨.str (Txt.replace x1 y z), H1, I1.tok k, ⟨t', rfl⟩, q⟩
end
def rIntT : List V → Hp → VK → Prop := fun xs H Q => rInt1 xs H Q ∨ ∃ a n, xs = [.str a] ∧ PySem.intText? a = some n ∧ a.length ≤ 640 ∧ Q (.int n) H
theorem call_intT {X : Cx} : CallR X (.type "int") rIntT := fun pins s σ H xs us Q I r h => by
  rcases h with h | h
  · exact call_intU pins s σ H xs us Q I r h
  · exact call_int_str pins s σ H xs us Q I r h
def rStrI : List V → Hp → VK → Prop := fun xs H Q => ∃ i, xs = [V.int i] ∧ i.natAbs.log2 < 1920 ∧ Q (.str (toString i)) H
theorem call_strI {X : Cx} : CallR X (.type "str") rStrI := call_str_int
end DL
namespace SM
open PySem L2
open DL (rJoin rIntT rStrI)
section
variable {K : PySem.W.Frag} {ca : CaT} {F H H1 : Hp} {m : List Addr} {A A1 : Hs} {σ : L2.St} {env : Sl} {W : WX} {Q : VK}
variable {to : TE} {o : E}
def rpl (y z : Str) (A : Hs) : D → RE D
  | .str x => if x.length + (x.length + 1) * z.length ≤ 16777216 then .ok (.str (Txt.replace x y z)) A else .stuck
  | _ => .stuck
def eRepl (y z : Str) (o : E) : E := fun env A => (o env A).bind fun x A1 => rpl y z A1 x
theorem se_repl {y z : Str} (h : SimE K ca W to o) : SimE K ca W (DL.tRepl y z to) (eRepl y z o) := fun F m A σ H env Q R S p =>
  h.bind R S p fun F1 m1 A1 H1 x dx R1 g1 S1 rx p1 => by
    cases rx with
    | str a =>
      by_cases hl : a.length + (a.length + 1) * z.length ≤ 16777216
      · have e : rpl y z A1 (.str a) = .ok (.str (Txt.replace a y z)) A1 := if_pos hl
        rw [e] at p1
        exact ⟨a, rfl, hl, po_ok R1 (.str _) p1⟩
      · have e : rpl y z A1 (.str a) = .stuck := if_neg hl
        rw [e] at p1
        exact p1.elim
    | _ => exact p1.elim
theorem se_replS {y z : Str} {s t : String} (h1 : y = fS s) (h2 : z = fS t) (h : SimE K ca W to o) : SimE K ca W (DL.tRepl y z to) (eRepl (fS s) (fS t) o) := by subst h1; subst h2; exact se_repl h
def oIntT (x : D) (A : Hs) : RE D := match x with
  | .int i => .ok (.int i) A
  | .bl b => .ok (.int (if b then 1 else 0)) A
  | .str a => if a.length ≤ 640 then match PySem.intText? a with
    | some n => .ok (.int n) A
    | none => .stuck
    else .stuck
  | _ => .stuck
theorem cs_intT : CbS K ca rIntT (c1 oIntT) := cs_1 fun F m A H x dx W σ Q R rx p => by
  cases rx with
  | int i => exact .inl (.inl ⟨i, rfl, po_ok R (.int _) p⟩)
  | bl b => exact .inl (.inr ⟨b, rfl, po_ok R (.int _) p⟩)
  | str a =>
    unfold oIntT at p
    simp only at p
    split at p
    · rename_i hl
      split at p
      · rename_i n hn
        exact .inr ⟨a, n, rfl, hn, hl, po_ok R (.int _) p⟩
      · exact p.elim
    · exact p.elim
  | _ => exact p.elim
def oStr (x : D) (A : Hs) : RE D := match x with
  | .int i => if i.natAbs.log2 < 1920 then .ok (.str (toString i : String)) A else .stuck
  | _ => .stuck
theorem cs_str : CbS K ca rStrI (c1 oStr) := cs_1 fun F m A H x dx W σ Q R rx p => by
  cases rx with
  | int i =>
    unfold oStr at p
    simp only at p
    split at p
    · rename_i hl
      exact ⟨i, rfl, hl, po_ok R (.str _) p⟩
    · exact p.elim
  | _ => exact p.elim
/-- not by rfl alone: else the kernel may unfold the whole def that is called -/
theorem z8b {α β : Type} {a : α} {A : Hs} {f : α → Hs → RE β} : (RE.ok a A).bind f = f a A := id rfl
theorem zb0 {e : Sl} {A : Hs} {f : S} : seqR (.nx e A) f = f e A := id rfl
theorem z8s {a b : S} : sSeq a b env A = seqR (a env A) b := id rfl
theorem z68 {y z : Str} : eRepl y z o env A = (o env A).bind fun x A1 => rpl y z A1 x := rfl
theorem z4l {p : Int} : oIntT (.int p) A = .ok (.int p) A := rfl
theorem z3i {b : Bool} : oIntT (.bl b) A = .ok (.int (if b then 1 else 0)) A := rfl
end
/-- a module's own tuple of ints -/
def KTpl (K : PySem.W.Frag) (a : Addr) (ns : List Int) : Prop := ∃ (o : Obj) (its : Array Value) (n : Nat), K.lookup a = some o ∧ o.cls = .type "tuple" ∧ o.data = .seq its n ∧ its.size ≤ sizeLine ∧ Vals (ns.map V.int) its.toList
theorem repL_ints {K : PySem.W.Frag} {ca : CaT} {F : Hp} {m : List Addr} : ∀ ns : List Int, RepL K ca F m (ns.map V.int) (ns.map D.int)
  | [] => .nil
  | n :: ns => .cons (.int n) (repL_ints ns)
theorem KTpl.rep {K : PySem.W.Frag} {ca : CaT} {a : Addr} {ns : List Int} (h : KTpl K a ns) (F : Hp) (m : List Addr) : Rep K ca F m (.ref a) (.wt (ns.map D.int)) := .wt (.inr h) (repL_ints ns)
end SM

/-! ## dicts walked: locked while a loop runs; their keys, values, pairs; dict(x); sorted(ints) -/
namespace SM
open PySem L2
open DL (Ex ExK)
section
variable {K : PySem.W.Frag} {ca : CaT} {F F1 F2 H H1 H2 : Hp} {m m1 m2 : List Addr} {A A1 A2 : Hs} {σ : L2.St} {env : Sl} {W : WX} {i : Nat} {u : HO} {t : Bool} {l : List (D × D)}
/-- a dict's object is there -/
theorem Rl.dic (R : Rl K ca F m A H) (h : A[i]? = some (.dic t false l)) : ∃ a u, m[i]? = some a ∧ H a = some u ∧ Mut (some u) ∧ (∀ od w, u ≠ .frz od w) ∧ ∀ od, ORep K ca F m (upd H a (.frz od u)) a (.dic t true l) := by
  have l0 : i < m.length := by rw [R.len]; exact (List.getElem?_eq_some_iff.mp h).1
  have ha : m[i]? = some m[i] := List.getElem?_eq_getElem l0
  have r := R.ob i _ m[i] h ha
  cases t with
  | false =>
    obtain ⟨kvs, h1, h2⟩ := r
    exact ⟨m[i], .dK kvs, ha, h1, trivial, fun od w z => (by cases z), fun od => ⟨kvs, ⟨od, upd_same⟩, h2⟩⟩
  | true =>
    obtain ⟨kvs, h1, h2⟩ := r
    exact ⟨m[i], .dT kvs, ha, h1, trivial, fun od w z => (by cases z), fun od => ⟨kvs, ⟨od, upd_same⟩, h2⟩⟩
end
def pkR : RE D → Option Nat
  | .ok (.ref i) _ => some i
  | _ => none
/-- unlocked again -/
def un1 {β : Type} (k : Hs → β) (s : β) (A : Hs) (i : Nat) : Option O → β
  | some (.dic t true l) => k (A.set i (.dic t false l))
  | _ => s
def ulR (i : Nat) : RS → RS
  | .nx e A => un1 (fun B => .nx e B) .stuck A i A[i]?
  | .bk e A => un1 (fun B => .bk e B) .stuck A i A[i]?
  | .ct e A => un1 (fun B => .ct e B) .stuck A i A[i]?
  | .rt d A => un1 (fun B => .rt d B) .stuck A i A[i]?
  | .exc C e A => .exc C e A
  | .stuck => .stuck
def lk2 (f : S) (env : Sl) (A : Hs) (i : Nat) : Option O → RS
  | some (.dic t false l) => ulR i (f env (A.set i (.dic t true l)))
  | _ => .stuck
def lk1 (f : S) (env : Sl) (A : Hs) : Option Nat → RS
  | some i => lk2 f env A i A[i]?
  | none => .stuck
def sLk (x : E) (f : S) : S := fun env A => lk1 f env A (pkR (x env A))
def ulE (i : Nat) : RE D → RE D
  | .ok d A => un1 (fun B => .ok d B) .stuck A i A[i]?
  | .exc C A => .exc C A
  | .stuck => .stuck
def lkE2 (f : E) (env : Sl) (A : Hs) (i : Nat) : Option O → RE D
  | some (.dic t false l) => ulE i (f env (A.set i (.dic t true l)))
  | _ => .stuck
def lkE1 (f : E) (env : Sl) (A : Hs) : Option Nat → RE D
  | some i => lkE2 f env A i A[i]?
  | none => .stuck
def eLk (x : E) (f : E) : E := fun env A => lkE1 f env A (pkR (x env A))
section
variable {K : PySem.W.Frag} {ca : CaT} {W : WX}
end
/-! what is walked -/
def wd_ (A : Hs) (i : Nat) (f : Bool → List (D × D) → Option (List D)) : Option O → Option Wk
  | some (.dic t true l) => (f t l).map fun ds => ⟨ds, fun A' => A'[i]? = some (.dic t true l)⟩
  | _ => none
def wdA (f : Bool → List (D × D) → Option (List D)) (A : Hs) : D → Option Wk
  | .ref i => wd_ A i f A[i]?
  | _ => none
def wkK : Hs → D → Option Wk := wdA fun _ l => some (l.map Prod.fst)
def wkV : Hs → D → Option Wk := wdA fun t l => if t = false then some (l.map Prod.snd) else none
def wkI : Hs → D → Option Wk := wdA fun t l => if t = false then some (l.map fun p => .tup [p.1, p.2]) else none
section
variable {K : PySem.W.Frag} {ca : CaT} {F F1 F2 H H1 H2 : Hp} {m m1 m2 : List Addr} {A A1 A2 : Hs} {W : WX} {te : TE} {a : E}
theorem KvR.at_ {κ δ : Type} {kd : κ → δ} : ∀ {kvs : List (κ × V)} {l : List (δ × D)}, KvR K ca F m kd kvs l → ∀ {i : Nat} {k : κ} {v : V}, kvs[i]? = some (k, v) → ∃ d, l[i]? = some (kd k, d) ∧ Rep K ca F m v d
  | _, _, .nil, i, k, v, h => by simp at h
  | _, _, .cons r t, i, k, v, h => by
    cases i with
    | zero =>
      rw [List.getElem?_cons_zero] at h ⊢
      cases h
      exact ⟨_, rfl, r⟩
    | succ i =>
      rw [List.getElem?_cons_succ] at h ⊢
      exact KvR.at_ t h
end
/-! dict(xs), sorted(xs) -/
def pairsD : List D → Option (List (D × D))
  | [] => some []
  | .tup [k, v] :: r => if (keyK k).isSome = true then (pairsD r).map ((k, v) :: ·) else none
  | _ => none
def oDict (x : D) (A : Hs) : RE D := match x with
  | .ref i => match A[i]? with
    | some (.dic false _ l) => alloc A (.dic false false l)
    | some (.lst l) => match pairsD l with
      | some ps => alloc A (.dic false false (kmerge [] ps))
      | none => .stuck
    | _ => .stuck
  | _ => .stuck
def srt (l : List Int) : List Int := l.mergeSort fun a b => decide (a ≤ b)
def oSorted (x : D) (A : Hs) : RE D := match (seqL A x).bind intsOf with
  | some ns => alloc A (.lst ((srt ns).map D.int))
  | none => .stuck
section
variable {K : PySem.W.Frag} {ca : CaT} {F F1 F2 H H1 H2 : Hp} {m m1 m2 : List Addr} {A A1 A2 : Hs} {W : WX} {te : TE} {a : E}
end
/-! for plain proofs -/
section
variable {A B : Hs} {i : Nat} {e env : Sl} {d : D} {t : Bool} {l : List (D × D)} {f : S} {x g : E} {β : Type} {k : Hs → β} {s : β} {C : String}
theorem zb4 : sLk x f env A = lk1 f env A (pkR (x env A)) := rfl
theorem zan : eLk x g env A = lkE1 g env A (pkR (x env A)) := rfl
theorem z5f : pkR (.ok (.ref i) A) = some i := rfl
theorem z8d : lk1 f env A (some i) = lk2 f env A i A[i]? := rfl
theorem z6z : lkE1 g env A (some i) = lkE2 g env A i A[i]? := rfl
theorem z8k : lk2 f env A i (some (.dic t false l)) = ulR i (f env (A.set i (.dic t true l))) := id rfl
theorem z52 : lkE2 g env A i (some (.dic t false l)) = ulE i (g env (A.set i (.dic t true l))) := id rfl
theorem z6f : ulR i (.nx e A) = un1 (fun B => .nx e B) .stuck A i A[i]? := rfl
theorem z5i : ulR i (.bk e A) = un1 (fun B => .bk e B) .stuck A i A[i]? := rfl
theorem z5a : ulR i (.ct e A) = un1 (fun B => .ct e B) .stuck A i A[i]? := rfl
theorem z69 : ulR i (.rt d A) = un1 (fun B => .rt d B) .stuck A i A[i]? := rfl
theorem z45 : ulR i (.exc C e A) = .exc C e A := rfl
theorem z6a : ulE i (.ok d A) = un1 (fun B => .ok d B) .stuck A i A[i]? := rfl
theorem z3j : ulE i (.exc C A) = .exc C A := rfl
theorem z7r : un1 k s A i (some (.dic t true l)) = k (A.set i (.dic t false l)) := rfl
theorem z8v : wkK A (.ref i) = wd_ A i (fun _ l => some (l.map Prod.fst)) A[i]? := rfl
theorem z7z : wkV A (.ref i) = wd_ A i (fun t l => if t = false then some (l.map Prod.snd) else none) A[i]? := rfl
theorem z8a : wkI A (.ref i) = wd_ A i (fun t l => if t = false then some (l.map fun p => .tup [p.1, p.2]) else none) A[i]? := rfl
theorem zax {f : Bool → List (D × D) → Option (List D)} : wd_ A i f (some (.dic t true l)) = (f t l).map fun ds => ⟨ds, fun A' => A'[i]? = some (.dic t true l)⟩ := rfl
def od_ (A : Hs) : Option O → RE D
  | some (.dic false _ l) => .ok (.ref A.length) (A ++ [.dic false false l])
  | some (.lst l) => match pairsD l with
    | some ps => .ok (.ref A.length) (A ++ [.dic false false (kmerge [] ps)])
    | none => .stuck
  | _ => .stuck
theorem z3c : oDict (.ref i) A = od_ A A[i]? := by
  unfold oDict od_
  cases h : A[i]? with
  | none => simp only [h]
  | some o =>
    simp only [h]
    cases o with
    | dic t lk l => cases t <;> rfl
    | lst l => cases pairsD l <;> rfl
    | obj C fs => rfl
theorem z9s {lk : Bool} : od_ A (some (.dic false lk l)) = .ok (.ref A.length) (A ++ [.dic false false l]) := rfl
def os_ (A : Hs) : Option (List Int) → RE D
  | some ns => .ok (.ref A.length) (A ++ [.lst ((srt ns).map D.int)])
  | none => .stuck
theorem z0t : oSorted x_ A = os_ A ((seqL A x_).bind intsOf) := by
  unfold oSorted os_
  cases (seqL A x_).bind intsOf <;> rfl
theorem zas {ns : List Int} : os_ A (some ns) = .ok (.ref A.length) (A ++ [.lst ((srt ns).map D.int)]) := rfl
end
end SM

/-! ## a lambda handed to a def that tries it: told = work(), an error is kept by a name -/
namespace SM
open PySem PySem.Spec PyProof.Rows L2
open DL (Ex ExK)
/-- what a def's end hands back where nothing may be let out -/
def retS : RS → RE D
  | .nx _ A => .ok .non A
  | .rt d A => .ok d A
  | _ => .stuck
/-- slots: 0 what is tried, 1 what it told, 2 what was caught, 3 the handler's name -/
def trK (cts : List String) (frest : S) : RE D → RE D
  | .ok d A1 => retS (frest [none, some d, some .non, none] A1)
  | .exc C A1 => if C ∈ cts then retS (frest [none, none, some (.exc C), none] A1) else .stuck
  | .stuck => .stuck
def eTried (cts : List String) (frest : S) (th : E) : E := fun env A => trK cts frest (th env A)
section
variable {K : PySem.W.Frag} {ca : CaT} {F F1 F2 H H1 H2 : Hp} {m m1 m2 : List Addr} {A A1 A2 : Hs} {σ : L2.St} {env : Sl} {W : WX}
theorem Rl.extN (R : Rl K ca F m A H) (e : LamX.ExtN H H1) (t : LamX.Tabs ca.T H1) : Rl K ca F m A H1 ∧ Stp F m H F m H1 := by
  refine ⟨⟨fun a o h => e a o (R.fh a o h) fun ps z => R.ft a ps (by rw [h, z]), R.len, R.nd, R.fr, fun i o a h1 h2 => ?_, t, R.ft⟩, Ex.refl _, Pre.refl _, fun a u h _ nt => e a u h nt, fun a h => .inl h, fun a h => .inl h, fun a h u hu => ?_, fun a o u h => e a _ h (by intro _ z; cases z)⟩
  · have r := R.ob i o a h1 h2
    obtain ⟨w, e0, o0⟩ := r.ordy
    exact r.mono (Ex.refl _) (Pre.refl _) fun u hu => e a u hu (by rw [e0] at hu; cases hu; exact fun ps => o0.tbl ps)
  · by_cases q : ∃ ps, u = .tbl ps
    · exact q
    · exact h u (e a u hu fun ps z => q ⟨ps, z⟩)
/-- how the def that tries it reads what it got -/
def TTr (K : PySem.W.Frag) (ca : CaT) (CS : Addr) (frest : S) : (XK → Hp → VK → Prop) → Hp → VK → Prop := fun tl H Q =>
  ∀ (f : Addr) (trest : TS), (∀ W, SimS K ca W trest frest) →
    tl (fun cls d H' => ∃ C, cls = .ref C ∧ d = none ∧ PySem.W.exmOne K cls (.ref CS) = some true ∧ ∀ σ' : L2.St, σ'.length = 4 → ∀ a, H' a = none →
        trest { nx := fun _ H'' => Q .non H'', rt := Q } (((σ'.set 3 (some (.ref a))).set 2 (some (.ref a))).set 3 none) (upd H' a (ExK C a))) H
      (fun v H1 => trest { nx := fun _ H'' => Q .non H'', rt := Q } [some (.ref f), some v, some .non, none] H1)
def tbT (f c' : Addr) (q : Str) (tl : XK → Hp → VK → Prop) (W : WX) : TS := fun D σ H => ∃ Ech : XK, (∀ cls d (σ' : L2.St) H', Ech cls d H' → σ'.length = 4 → W cls d σ' H') ∧ σ[0]? = some (some (.ref f)) ∧ H c' = some (LamX.CodeO c' q) ∧ tl Ech H fun v H1 => D.nx (σ.set 1 (some v)) H1
theorem takes_len {X : Cx} (t : Takes X W) (hn : X.N.length = 4) : Takes X (fun c d σ H => σ.length = 4 → W c d σ H) := fun u s' ⟨a, B, sI, pins, σ, H, cls, d, e, I, nb, up, sky, na, os, ag, w⟩ =>
  t u s' ⟨a, B, sI, pins, σ, H, cls, d, e, I, nb, up, sky, na, os, ag, w (I.len.trans hn)⟩
theorem try_act {Z : Cx} {f c' : Addr} {q a : Str} {tl : XK → Hp → VK → Prop} {st : Stmt} {pn : List (Addr × Obj)} {xe : Value → Shared → Prop} {p1 p2 : Pos}
    (act : ∀ (W : WX) (pn : List (Addr × Obj)) (xe : Value → Shared → Prop) (E : XK) (p1 p2 : Pos), Takes (Z.tr pn xe) W → (∀ cls d σ' H', E cls d H' → W cls d σ' H') →
      PE (Z.tr pn xe) (.Call (.Name a p1) [] [] p2) (fun σZ HZ Q => σZ[0]? = some (some (.ref f)) ∧ HZ c' = some (LamX.CodeO c' q) ∧ tl E HZ Q))
    (tk : Takes (Z.tr pn xe) W) (hn : Z.N.length = 4)
    (set : ∀ {te : TE}, PE (Z.tr pn xe) (.Call (.Name a p1) [] [] p2) te → PS (Z.tr pn xe) st (tAsg te (gName 1))) : PS (Z.tr pn xe) st (tbT f c' q tl W) := by
  refine ⟨fun pins s σ H D I h => ?_⟩
  obtain ⟨Ech, hW, h1, h2, h3⟩ := h
  exact (set (act (fun c d σ H => σ.length = 4 → W c d σ H) pn xe Ech p1 p2 (takes_len tk hn) hW)).run pins s σ H D I ⟨h1, h2, h3⟩
theorem tried_read {frest : S} {trest : TS} {Ng : List Str} {f c' CS : Addr} {q : Str} {tl : XK → Hp → VK → Prop} {Q : VK} (hn : Ng.length = 4) (hs : ∀ W, SimS K ca W trest frest) (h : TTr K ca CS frest tl H Q) (hc : H c' = some (LamX.CodeO c' q)) :
    tSeq (tAsg (tC .non) (gName 1)) (tSeq (tAsg (tC .non) (gName 2)) (tSeq (DL.tTry K (.ref CS) 3 2 (tbT f c' q tl)) trest)) { nx := fun _ H' => Q .non H', rt := Q } (L2.start Ng [.ref f]) H := by
  have e : L2.start Ng [V.ref f] = [some (.ref f), none, none, none] := by
    unfold L2.start
    rw [hn]
    rfl
  rw [e]
  refine ⟨_, fun cls d σ' H' z l => ?_, rfl, hc, h f trest hs⟩
  obtain ⟨C, e1, e2, e3, k⟩ := z
  exact ⟨C, e1, e2, e3, fun a na => k σ' l a na⟩
theorem po_ret {Q : VK} {r : RS} (p : Po K ca (Rep K ca) F m H W σ Q (retS r)) {W' : WX} : PoS K ca F m H W' { nx := fun _ H'' => Q .non H'', rt := Q } r := by
  cases r with
  | nx e A' => exact fun F' m' σ' H' R' g' S' => p .non F' m' H' R' g' .non
  | rt d A' => exact fun v F' m' H' R' g' r => p v F' m' H' R' g' r
  | bk e A' => exact p.elim
  | ct e A' => exact p.elim
  | exc C e A' => exact p.elim
  | stuck => exact p.elim
theorem Po.any {α β : Type} {Rr : Hp → List Addr → β → α → Prop} {Q : β → Hp → Prop} {r : RE α} {σ' : L2.St} {W' : WX} (h : Po K ca Rr F m H W σ Q r) (hx : ∀ C A, r ≠ .exc C A) : Po K ca Rr F m H W' σ' Q r := by
  cases r with
  | ok a A' => exact h
  | exc C A' => exact absurd rfl (hx C A')
  | stuck => exact h
theorem se_tried {cts : List String} {CS : Addr} {frest : S} {th : E} {t : XK → TE} (hc : AllC (fun C => PySem.W.exmOne K (.ref (ca C)) (.ref CS) = some true) cts) (h : ∀ E : XK, SimE K ca (fun cls d _ H' => E cls d H') (t E) th) :
    SimE K ca W (LamX.tLam ca.T (TTr K ca CS frest) t) (eTried cts frest th) := fun F m A σ H env Q R S p => by
  refine ⟨R.tb, fun H1 e T1 f trest hs => ?_⟩
  obtain ⟨R1, g1⟩ := R.extN e T1
  refine h _ F m A σ H1 env _ R1 (S.stp g1) ?_
  unfold eTried at p
  cases q : th env A with
  | stuck => rw [q] at p; exact p
  | ok d A1 =>
    rw [q] at p
    intro v F2 m2 H2 R2 g2 r
    refine hs (fun _ _ _ _ => False) F2 m2 A1 _ H2 [none, some d, some .non, none] _ R2 ⟨rfl, fun i dd hi => ?_⟩ (po_ret (Po.stp p (g1.trans g2)))
    match i, hi with
    | 0, hi => simp at hi
    | 1, hi => simp at hi; subst hi; exact ⟨v, rfl, r⟩
    | 2, hi => simp at hi; subst hi; exact ⟨.non, rfl, .non⟩
    | 3, hi => simp at hi
    | n + 4, hi => simp at hi
  | exc C A1 =>
    rw [q] at p
    unfold trK at p
    simp only at p
    split at p
    · rename_i hC
      intro F2 m2 H2 R2 g2
      refine ⟨ca C, rfl, rfl, AllC.of hc hC, fun σ' l a na => ?_⟩
      obtain ⟨R3, g3⟩ := R2.new (u := ExK (ca C) a) na (fun ps z => by unfold ExK at z; cases z)
      refine hs (fun _ _ _ _ => False) _ m2 A1 _ _ [none, none, some (.exc C), none] _ R3 ⟨by simp [l], fun i dd hi => ?_⟩ (po_ret (Po.stp p ((g1.trans g2).trans g3)))
      match i, hi with
      | 0, hi => simp at hi
      | 1, hi => simp at hi
      | 2, hi =>
        simp at hi; subst hi
        exact ⟨.ref a, by simp [l], .exc upd_same⟩
      | 3, hi => simp at hi
      | n + 4, hi => simp at hi
    · exact p.elim
end
/-- a def that tries what it is handed -/
structure LamD (K : PySem.W.Frag) (mg : Str → Option Value) (x a : Str) (st : Stmt) (g : Addr) (fd : FuncData) : Prop where
  F : Fun K x x st g fd
  b : L2.Binds K fd [a] []
  m : mg x = some (.ref g)
/-- the table of the code object of the def fd -/
def TbD (base : Heap) (mg : Str → Option Value) (ca : CaT) (fd : FuncData) (q : Str) : Prop := ∃ c P, fd.code = .ref c ∧ LamX.TabB base mg c P ∧ (P, q) ∈ ca.T ∧ ∀ p ∈ ca.T, p.1 = P → p.2 = q
theorem pe_lam {X : Cx} {ca : CaT} {st : Stmt} {x a q : Str} {g : Addr} {fd fdX : FuncData} {k : Nat} {Ng : List Str} {params : Arguments} {body : Expr} {scope : Scope} {TT : (XK → Hp → VK → Prop) → Hp → VK → Prop} {t : XK → TE} {p lpos pos : Pos}
    (L : LamD X.K X.mg x a st g fd) (hg : Gl X x) (Sg : FnScope Ng [a] (defScope st)) (hNg : Ng[0]? = some a) (hva : Vis (defScope st) a) (hG : ∀ cdg, LamX.GivesTo X Ng x (defScope st) g cdg (defBody st) a (X.env.qual ++ "<lambda>") TT)
    (TB : TbD X.base X.mg ca fdX q) (hcode : X.env.code = fdX.code) (hq : X.env.qual ++ "<lambda>" = q) (hr : Room (k + 2) X.A) (LS : LamX.LamS X.env.scope scope) (hdef : defaultsOf params X.env = ([], []))
    (hbind : ∀ (q : Str) (cl : List (Str × Addr)) (pm cv ctv : Value), bindArgs (PySem.W.kla_fn "<lambda>" q params body scope cl pm cv ctv) ⟨[], []⟩ = pure [])
    (hbody : ∀ (A : Around) (outer : List Env) (s : Shared) (H : Hp) (E : XK) (f c' : Addr), Room k (A.deeper (LamX.lamEnv X scope s.heap.objs.size f c')) → PE (LamX.lamCx X A outer s H E scope f c') body (t E))
    (hdb : (x == ("__debug__" : Str)) = false := by decide) (hd : (a == ("__debug__" : Str)) = false := by decide) (hcd : (a == ("__classdict__" : Str)) = false := by decide) :
    PE X (.Call (.Name x p) [.Lambda params body scope lpos] [] pos) (LamX.tLam ca.T TT t) := by
  obtain ⟨c, P, e, TB, hm, hu⟩ := TB
  subst hq
  have F := L.F
  have b := L.b
  obtain ⟨oc, od, kV, doc, pm, an, cdv, ct, osl, rfl, lk, hcg⟩ := F.ex
  exact LamX.pe_lamcall (c := c) (P := P) hg L.m F.kp lk hcg b Sg hNg hva (hG _) TB (hcode.trans e) hm hu hr LS hdef hbind hbody hdb hd hcd
section
variable {P : Program} {w : World} {K : PySem.W.Frag} {mg : Str → Option Value} {base : Heap} {k : Nat} {x qn : Str} {st : Stmt} {fa : Addr} {fd : FuncData} {N ps : List Str} {ca : CaT}
/-- a def's code is known in its body -/
theorem Fn.ofFc {n : Nat} {b : S} (F : Fun K x qn st fa fd) (S : FnScope N ps (defScope st)) (hn : ps.length = n)
    (body : ∀ (cdv : Value) (A : Around) (outer : List PySem.Env) (s : Shared) (H : Hp) (E : XK), cdv = fd.code → Room k (A.deeper (PyProof.Rows.envOfC qn (defScope st) s.heap.objs.size fa cdv)) →
      ∃ t, PSs (cxOf (L2.CX P w) P w K mg base N qn (defScope st) fa cdv A outer s H E) (defBody st) t ∧ SimS K ca (fun cls d _ H => E cls d H) t b) : FnOk P w K mg base (L2.CX P w) (k + 1) fa fd ps (SpF K ca (mkFn n N.length b)) := by
  obtain ⟨oc, od, kV, doc, pm, an, cdv, ct, osl, rfl, lk, hcd⟩ := F.ex
  refine fn_of lk hcd S (fun vs H Q E h => by rw [hn]; exact spF_len h) fun A outer s H vs Q E hr h => ?_
  obtain ⟨t, h1, h2⟩ := body cdv A outer s H E rfl hr
  exact ⟨t, h1, run_SpF h h2⟩
end
/-! ### the end -/
/-- no table is seen -/
def noT (H : Hp) : Hp := fun b => match H b with
  | some (.tbl _) => none
  | o => o
theorem noT_some {H : Hp} {b : Addr} {u : HO} (h : noT H b = some u) : H b = some u ∧ ∀ ps, u ≠ .tbl ps := by
  unfold noT at h
  split at h
  · cases h
  · rename_i n
    exact ⟨h, fun ps z => n ps (by rw [h, z])⟩
theorem noT_of {H : Hp} {b : Addr} {u : HO} (h : H b = some u) (n : ∀ ps, u ≠ .tbl ps) : noT H b = some u := by
  unfold noT
  split
  · rename_i ps z; rw [h] at z; exact absurd (Option.some.inj z) (n ps)
  · exact h
theorem SqL.noT {K : PySem.W.Frag} {H : Hp} {a : Addr} {xs : List V} (h : SqL K H a xs) : SqL K (noT H) a xs := by
  rcases h with (h | ⟨o, h⟩) | h
  · exact .inl (.inl (noT_of h (by intro _ z; cases z)))
  · exact .inl (.inr ⟨o, noT_of h (by intro _ z; cases z)⟩)
  · exact .inr h
theorem Rl.start {K : PySem.W.Frag} {ca : CaT} {H : Hp} (h : ∀ p ∈ ca.T, H p.1 = some (.tbl #[])) : Rl K ca (SM.noT H) [] [] H :=
  ⟨fun a o h => (noT_some h).1, rfl, List.nodup_nil, fun a h => by simp at h, fun i o a h => by simp at h, fun p hp => LamX.TabS.nil (h p hp), fun a ps h => (noT_some h).2 ps rfl⟩
theorem codeHd1 {K : PySem.W.Frag} {h : Heap} {c P : Addr} {o : Obj} (X : K.In h) (e : K.lookup c = some o) (q : PySem.W.codeHdIn [(c, o)] c P = true) : PySem.W.CodeHd h c P := PySem.W.codeHd_of_K (K := [(c, o)]) (fun b o' hb => by
  rw [List.lookup_cons] at hb
  cases z : b == c with
  | false => rw [z] at hb; cases hb
  | true =>
    rw [z] at hb
    cases hb
    rw [eq_of_beq z]
    exact X c _ e) q
/-- the tables of the defs of these names are empty at the beginning -/
theorem walk_tabs {l : PySem.W.OpenLaw} {n k : Nat} {q : Program} {loose : List Str} {XP : (Str → Option Value) → Heap → Prop} {YP : World → Heap → Prop} {d : DefRec} {K : Params → PySem.W.Frag} {CX : World → CXT} {x : Str} (names : List Str)
    (hn : l.most = some n) (hn2 : n ≤ sizeLine) (hdf : d.params.defaults = []) (hr : Room k callerA) (hrec : ∀ y ∈ names, ((recsOf q).any fun e => e.name == y) = true) (hY : ∀ (w : World) (h : Heap), YP w h → (K w.params).In h)
    (F : ∀ (w : World) (mg : Str → Option Value) (fa : Addr) (h : Heap), YP w h → (K w.params).In h → h.Ns mainGlobals mg → mg d.name = some (.ref fa) → (∀ y ∈ names, ∀ g, mg y = some (.ref g) → LamX.OwnTab (K w.params) g h) → LamX.LawAtS l w (K w.params) (CX w) k n x mg fa h)
    (hCX : ∀ (w : World) (H : Hp) (s : Shared) (e : Value) (s' : Shared), CX w [] H s (fun _ _ _ => False) e s' → False) :
    PySem.W.WalkO q loose XP YP l.row.toRowW d [] (fun f vs => PySem.call f vs) := by
  refine Att.attach_callB hn hdf fun w s₀ s₁ mg mb fa o pm cd doc a vs ns G Y ho hd hcd hmg hobj hints hlen hbits hg => ?_
  have KX := hY w _ Y
  have all : ∀ y ∈ names, ∀ g, mg y = some (.ref g) → LamX.OwnTab (K w.params) g s₁.heap := fun y hy g my c P o1 f1 e dd vz sl k1 k2 k3 k4 k5 => by
    obtain ⟨r, r1, r2⟩ := List.any_eq_true.mp (hrec y hy)
    have r2 : r.name = y := beq_iff_eq.mp r2
    obtain ⟨g', o', f', c', P', t1, t2, t3, t4, _, ⟨oc, vc, t5, _, t7, t8⟩, t6⟩ := G.T.tab r r1
    subst r2
    cases my.symm.trans t1
    cases (KX _ _ k1).symm.trans t2
    cases k2.symm.trans t3
    cases k3.symm.trans t4
    cases (KX _ _ k4).symm.trans t5
    cases t7
    cases k5.symm.trans t8
    exact t6
  obtain ⟨fd, cs, sp, hT, nT, C, hb, hsp, hF⟩ := F w mg fa _ Y KX G.T.g hmg all
  exact LamX.law_callTs KX G.T.g G.T.b G.T.builtins G.T.nolimit hg hT nT C G.T.bmain hobj hints (Nat.le_trans hlen hn2) hr hF hb (fun H hH hS => hsp H a ns hlen hbits hH hS) fun H e s' => hCX w H s₁ e s'
end SM
/-! ### the script and a list -/
namespace L2
open PySem PySem.Spec PyProof.Rows
def rCatS (K : PySem.W.Frag) : R2 := fun x y H Q => ∃ l b xs zs, x = .ref l ∧ y = .ref b ∧ SqL K H l xs ∧ H b = some (.lst zs) ∧ xs.length + zs.length ≤ sizeLine ∧ ∀ p, H p = none → Q (.ref p) (upd H p (.lst (xs ++ zs)))
theorem op_catS {X : Cx} {K : PySem.W.Frag} (eK : X.K = K := by rfl) : OpR X (binaryOp .Add) (rCatS K) := by
  subst eK
  intro pins s σ H x y v u Q I rx ry h
  obtain ⟨l, b, xs, zs, rfl, rfl, hS, hB, hz, q⟩ := h
  cases rx
  cases ry
  obtain ⟨its, r, ⟨⟨oc, dd, data, sl⟩, n, e, hc, hd0, hd⟩, z⟩ := I.list hS
  dsimp only at hc hd0 hd
  subst hc hd0 hd
  obtain ⟨z2, its2, n2, r2, hl2, e2⟩ := I.lstM hB
  have hl := r.length
  refine concat_meets ⟨_, e, rfl⟩ ⟨_, e2, rfl⟩ noFill_list_add seq_list_add PySem.F.slot_list_add PySem.F.entry_list_add (PySem.F.args_list_add_2 _ _) (list_addW l b its.toArray its2.toArray n n2 none none sl #[] (by rw [List.size_toArray, List.size_toArray]; omega)) ⟨e, e2, ?_⟩
  have ea : its.toArray ++ its2.toArray = (its ++ its2).toArray := by simp
  rw [ea]
  exact ⟨.ref _, _, I.lnew (t' := s.toks) (r.append r2) (by rw [List.length_append]; omega), rfl, q _ I.fresh⟩
end L2
namespace SM
open PySem PySem.Spec PyProof.Rows L2
open DL (Ex ExK)
def oAddS (x y : D) (A : Hs) : RE D := match x, y with
  | .scr l, .ref j => match A[j]? with
    | some (.lst k) => if l.length + k.length ≤ sizeLine then alloc A (.lst (l ++ k)) else .stuck
    | _ => .stuck
  | _, _ => .stuck
theorem os_addS {K : PySem.W.Frag} {ca : CaT} : OpS K ca (rCatS K) oAddS := fun F m A H x y dx dy W σ Q R rx ry p => by
  cases rx with
  | scr s rs =>
    cases ry with
    | ref hm' =>
      rename_i a vs l b j
      unfold oAddS at p
      simp only at p
      split at p
      · rename_i k q2
        split at p
        · rename_i hl
          obtain ⟨b', ws, e2, h4, h5, h6⟩ := lst_at R (.ref hm') q2
          refine ⟨_, b', _, ws, rfl, e2, R.fh.l s, h5, by rw [rs.length, h6.length]; exact hl, fun q hq => ?_⟩
          exact po_alloc (o := .lst (l ++ k)) R hq ⟨_, upd_same, (rs.append h6).mono (Ex.refl _) ⟨_, rfl⟩⟩ p
        · exact p.elim
      · exact p.elim
    | _ => exact p.elim
  | _ => exact p.elim
theorem z63 {A : Hs} {l k : List D} {j : Nat} (h : A[j]? = some (.lst k)) (hl : l.length + k.length ≤ 16000000) : oAddS (.scr l) (.ref j) A = .ok (.ref A.length) (A ++ [.lst (l ++ k)]) := by
  unfold oAddS; simp only [h]; rw [if_pos (z08 hl)]; rfl
/-! ### equations for the plain proofs -/
theorem z46 {cts : List String} {fr : S} {th : E} {env : Sl} {A : Hs} : eTried cts fr th env A = trK cts fr (th env A) := id rfl
theorem z72 {cts : List String} {fr : S} {d : D} {A1 : Hs} : trK cts fr (.ok d A1) = retS (fr [none, some d, some .non, none] A1) := id rfl
theorem z3x {cts : List String} {fr : S} {C : String} {A1 : Hs} (h : C ∈ cts) : trK cts fr (.exc C A1) = retS (fr [none, none, some (.exc C), none] A1) := by
  show (if C ∈ cts then _ else _) = _
  rw [if_pos h]
theorem z3f {d : D} {A : Hs} : retS (.rt d A) = .ok d A := id rfl
theorem z3y {env : Sl} {A : Hs} : retS (.nx env A) = .ok .non A := id rfl
end SM

/-! ## min, max, sorted of data (ints, truths, texts, tuples of these); min, max with a default; max of a dict's keys -/
namespace L2
open PySem PySem.Spec PyProof.Rows PySem.W
theorem Vals.at_ {xs : List V} {us : List Value} (r : Vals xs us) : ∀ {i : Nat} {u : Value}, us[i]? = some u → ∃ x, xs[i]? = some x ∧ RelV x u := by
  induction r with
  | nil => intro i u h; simp at h
  | cons h t ih =>
    intro i u e
    cases i with
    | zero => rw [List.getElem?_cons_zero] at e ⊢; cases e; exact ⟨_, rfl, h⟩
    | succ i => rw [List.getElem?_cons_succ] at e ⊢; exact ih e
end L2
namespace SM
open PySem L2
open DL (Ex ExK)
def mx : List Int → Int
  | [] => 0
  | [a] => a
  | a :: r => if mx r ≤ a then a else mx r
def oMaxKDf (x z : D) (A : Hs) : RE D := match x with
  | .ref i => match A[i]? with
    | some (.dic false false l) => match intsOf (l.map Prod.fst) with
      | some [] => .ok z A
      | some ns => .ok (.int (mx ns)) A
      | none => .stuck
    | _ => .stuck
  | _ => .stuck
/-- a built-in called with one argument and one keyword -/
def eCK (f : D → D → Hs → RE D) (a b : E) : E := fun env A => (a env A).bind fun x A1 => (b env A1).bind fun y A2 => f x y A2
section
variable {K : PySem.W.Frag} {ca : CaT} {F F1 F2 H H1 H2 : Hp} {m m1 m2 : List Addr} {A A1 A2 : Hs} {W : WX} {ta tb : TE} {a b : E}
theorem allSome_len {α : Type} : ∀ {l : List (Option α)} {r : List α}, allSome l = some r → l.length = r.length
  | [], r, h => by cases h; rfl
  | some a :: l, r, h => by
    unfold allSome at h
    obtain ⟨r', h1, rfl⟩ := Option.map_eq_some_iff.mp h
    rw [List.length_cons, List.length_cons, allSome_len h1]
  | none :: _, _, h => by cases h
end
end SM

/-! ## dicts with tuple keys: values(), items(), pop; setdefault; what no run reaches -/
namespace L2
open PySem PySem.Spec PyProof.Rows
section
variable {X : Cx} {pins : List (Addr × Obj)} {σ : St} {H : Hp} {s : Shared} {d : Addr} {o : Obj}
end
section
variable {P : Program} {w : World} {K : PySem.W.Frag} {tg : Expr} {d : Addr} {o : Obj} {es : Array DictEntry} {ep : Nat}
end
section
variable {X : Cx} {tg e : Expr} {td : TE} {apos cpos : Pos}
end
end L2
namespace DT
open PySem PySem.W PySem.Calls PyProof.Rows PyProof.V PySem.Spec
section
variable {K : Type} [DecidableEq K] {prog : Program} {w : World} {knd : HeapKind prog w K} {A : Around} {E : Value → Shared → Prop} {s : Shared}
end
end DT
namespace L2
open PySem PySem.Spec PyProof.Rows
end L2
namespace SM
open PySem L2
open DL (Ex ExK)
section
variable {K : PySem.W.Frag} {ca : CaT} {F F1 F2 H H1 H2 : Hp} {m m1 m2 : List Addr} {A A1 A2 : Hs} {σ : L2.St} {env : Sl} {W : WX} {Q : VK}
variable {to ti ta tb tc te tz : TE} {a b c e : E} {i : Nat} {d : D} {ts : TA} {as : As} {x y : V} {dx dy : D}
/-! walks -/
def wkVT : Hs → D → Option Wk := wdA fun t l => if t = true then some (l.map Prod.snd) else none
def wkIT : Hs → D → Option Wk := wdA fun t l => if t = true then some (l.map fun p => .tup [p.1, p.2]) else none
/-! pop -/
def oDPopT (x y : D) (A : Hs) : RE D := match x with
  | .ref i => match A[i]? with
    | some (.dic true false l) => if keyOk true y = true then match kget l y with
      | some d => .ok d (A.set i (.dic true false (kdel l y)))
      | none => .stuck
      else .stuck
    | _ => .stuck
  | _ => .stuck
def oDPopT2 (x y z : D) (A : Hs) : RE D := match x with
  | .ref i => match A[i]? with
    | some (.dic true false l) => if keyOk true y = true then match kget l y with
      | some d => .ok d (A.set i (.dic true false (kdel l y)))
      | none => .ok z A
      else .stuck
    | _ => .stuck
  | _ => .stuck
def isDicU (A : Hs) : D → Bool
  | .ref i => match A[i]? with
    | some (.dic _ false _) => true
    | _ => false
  | _ => false
def eBD (o : D → List D → Hs → RE D) (a : E) (as : As) : E := fun env A => (a env A).bind fun x A1 => if isDicU A1 x = true then (as env A1).bind fun ds A2 => o x ds A2 else .stuck
def d1_ (f : D → D → Hs → RE D) (x : D) : List D → Hs → RE D
  | [y], A => f x y A
  | _, _ => .stuck
def d2_ (f : D → D → D → Hs → RE D) (x : D) : List D → Hs → RE D
  | [y, z], A => f x y z A
  | _, _ => .stuck
/-! setdefault -/
def oDSetd (x y z : D) (A : Hs) : RE D := match x with
  | .ref i => match A[i]? with
    | some (.dic false false l) => if (keyK y).isSome = true ∧ l.length < sizeLine then match kget l y with
      | some d => .ok d A
      | none => .ok z (A.set i (.dic false false (kput l y z)))
      else .stuck
    | _ => .stuck
  | _ => .stuck
def eDSetd (a b c : E) : E := fun env A => (a env A).bind fun x A1 => if isDic A1 x then (b env A1).bind fun y A2 => (c env A2).bind fun z A3 => oDSetd x y z A3 else .stuck
/-! list(d) -/
def oListT (x : D) (A : Hs) : RE D := match x with
  | .ref i => match A[i]? with
    | some (.dic true _ l) => alloc A (.lst (l.map Prod.fst))
    | _ => .stuck
  | _ => .stuck
end
/-! for plain proofs -/
section
variable {A : Hs} {i : Nat} {env : Sl} {x y z d : D} {t lk gt : Bool} {l : List (D × D)} {a b c : E} {as : As} {ds : List D} {o : D → List D → Hs → RE D} {o2 : D → D → Hs → RE D}
theorem z6o : wkVT A (.ref i) = wd_ A i (fun t l => if t = true then some (l.map Prod.snd) else none) A[i]? := rfl
theorem z66 : wkIT A (.ref i) = wd_ A i (fun t l => if t = true then some (l.map fun p => .tup [p.1, p.2]) else none) A[i]? := rfl
theorem zao : eBD o a as env A = (a env A).bind fun x A1 => if isDicU A1 x = true then (as env A1).bind fun ds A2 => o x ds A2 else .stuck := rfl
def idu_ : Option O → Bool
  | some (.dic _ false _) => true
  | _ => false
theorem z2g : isDicU A (.ref i) = idu_ A[i]? := by
  unfold isDicU idu_
  cases h : A[i]? with
  | none => simp only [h]
  | some u =>
    simp only [h] <;> (cases u with
    | dic t lk l => cases lk <;> rfl
    | _ => rfl)
theorem z96 : idu_ (some (.dic t false l)) = true := rfl
theorem zb9 {f : D → D → Hs → RE D} : d1_ f x [y] A = f x y A := rfl
theorem z9f {f : D → D → D → Hs → RE D} : d2_ f x [y, z] A = f x y z A := rfl
def dpT_ (A : Hs) (i : Nat) (y : D) : Option O → RE D
  | some (.dic true false l) => if keyOk true y = true then match kget l y with
    | some d => .ok d (A.set i (.dic true false (kdel l y)))
    | none => .stuck
    else .stuck
  | _ => .stuck
theorem z1r : oDPopT (.ref i) y A = dpT_ A i y A[i]? := by
  unfold oDPopT dpT_
  cases h : A[i]? with
  | none => simp only [h]
  | some u =>
    simp only [h] <;> (cases u with
    | dic t lk l => cases t <;> cases lk <;> rfl
    | _ => rfl)
theorem z82 {d : D} (hk : keyOk true y = true) (h : kget l y = some d) : dpT_ A i y (some (.dic true false l)) = .ok d (A.set i (.dic true false (kdel l y))) := by
  unfold dpT_
  simp only
  rw [if_pos hk, h]
def dpT2_ (A : Hs) (i : Nat) (y z : D) : Option O → RE D
  | some (.dic true false l) => if keyOk true y = true then match kget l y with
    | some d => .ok d (A.set i (.dic true false (kdel l y)))
    | none => .ok z A
    else .stuck
  | _ => .stuck
theorem z1i : oDPopT2 (.ref i) y z A = dpT2_ A i y z A[i]? := by
  unfold oDPopT2 dpT2_
  cases h : A[i]? with
  | none => simp only [h]
  | some u =>
    simp only [h] <;> (cases u with
    | dic t lk l => cases t <;> cases lk <;> rfl
    | _ => rfl)
theorem z51 {d : D} (hk : keyOk true y = true) (h : kget l y = some d) : dpT2_ A i y z (some (.dic true false l)) = .ok d (A.set i (.dic true false (kdel l y))) := by
  unfold dpT2_
  simp only
  rw [if_pos hk, h]
theorem z71 (hk : keyOk true y = true) (h : kget l y = none) : dpT2_ A i y z (some (.dic true false l)) = .ok z A := by
  unfold dpT2_
  simp only
  rw [if_pos hk, h]
theorem z4k : eDSetd a b c env A = (a env A).bind fun x A1 => if isDic A1 x = true then (b env A1).bind fun y A2 => (c env A2).bind fun z A3 => oDSetd x y z A3 else .stuck := rfl
def dsd_ (A : Hs) (i : Nat) (y z : D) : Option O → RE D
  | some (.dic false false l) => if (keyK y).isSome = true ∧ l.length < sizeLine then match kget l y with
    | some d => .ok d A
    | none => .ok z (A.set i (.dic false false (kput l y z)))
    else .stuck
  | _ => .stuck
theorem z29 : oDSetd (.ref i) y z A = dsd_ A i y z A[i]? := by
  unfold oDSetd dsd_
  cases h : A[i]? with
  | none => simp only [h]
  | some u =>
    simp only [h] <;> (cases u with
    | dic t lk l => cases t <;> cases lk <;> rfl
    | _ => rfl)
theorem z7n {d : D} (hk : (keyK y).isSome = true) (hl : l.length < 16000000) (h : kget l y = some d) : dsd_ A i y z (some (.dic false false l)) = .ok d A := by
  unfold dsd_
  simp only
  rw [if_pos ⟨hk, Nat.lt_of_lt_of_le hl (by rw [sizeLine_eq]; decide)⟩, h]
theorem z9a (hk : (keyK y).isSome = true) (hl : l.length < 16000000) (h : kget l y = none) : dsd_ A i y z (some (.dic false false l)) = .ok z (A.set i (.dic false false (kput l y z))) := by
  unfold dsd_
  simp only
  rw [if_pos ⟨hk, Nat.lt_of_lt_of_le hl (by rw [sizeLine_eq]; decide)⟩, h]
theorem zad : eCK o2 a b env A = (a env A).bind fun x A1 => (b env A1).bind fun y A2 => o2 x y A2 := rfl
def mxd_ (z : D) (A : Hs) : Option O → RE D
  | some (.dic false false l) => match intsOf (l.map Prod.fst) with
    | some [] => .ok z A
    | some ns => .ok (.int (mx ns)) A
    | none => .stuck
  | _ => .stuck
theorem z15 : oMaxKDf (.ref i) z A = mxd_ z A A[i]? := by
  unfold oMaxKDf mxd_
  cases h : A[i]? with
  | none => simp only [h]
  | some u =>
    simp only [h] <;> (cases u with
    | dic t lk l => cases t <;> cases lk <;> first | rfl | (simp only; cases intsOf (l.map Prod.fst) with | none => rfl | some ns => cases ns <;> rfl)
    | _ => rfl)
theorem z7y : mxd_ z A (some (.dic false false [])) = .ok z A := rfl
theorem z84 {ns : List Int} (h : l.map Prod.fst = ns.map D.int) (hn : ns ≠ []) : mxd_ z A (some (.dic false false l)) = .ok (.int (mx ns)) A := by
  unfold mxd_
  simp only
  rw [h, z0b]
  cases ns with
  | nil => exact absurd rfl hn
  | cons n ns => rfl
def lT_ (A : Hs) : Option O → RE D
  | some (.dic true _ l) => .ok (.ref A.length) (A ++ [.lst (l.map Prod.fst)])
  | _ => .stuck
theorem z1u : oListT (.ref i) A = lT_ A A[i]? := by
  unfold oListT lT_
  cases h : A[i]? with
  | none => simp only [h]
  | some u =>
    simp only [h] <;> (cases u with
    | dic t lk l => cases t <;> cases lk <;> rfl
    | _ => rfl)
theorem zat : lT_ A (some (.dic true lk l)) = .ok (.ref A.length) (A ++ [.lst (l.map Prod.fst)]) := rfl
end
end SM

namespace DL
open PySem L2
/-! ### division of rows of bits (polynomials over two elements), in plain Lean -/
def bl (n : Nat) : Nat := if n = 0 then 0 else n.log2 + 1
theorem bl_le {n m : Nat} : bl n ≤ m ↔ n < 2 ^ m := by
  unfold bl
  by_cases h : n = 0
  · subst h
    simp [Nat.two_pow_pos]
  · rw [if_neg h]
    exact (Nat.succ_le_iff).trans (Nat.log2_lt h)
theorem bl_lt {n m : Nat} : bl n < m ↔ n < 2 ^ (m - 1) ∧ 0 < m := by
  cases m with
  | zero => simp
  | succ m => rw [Nat.lt_succ_iff, bl_le]; simp
theorem lt_bl (n : Nat) : n < 2 ^ bl n := bl_le.mp (Nat.le_refl _)
theorem bl_ge {n : Nat} (h : n ≠ 0) : 2 ^ (bl n - 1) ≤ n := by
  apply Nat.le_of_not_lt
  intro q
  have := bl_le.mpr q
  have : bl n ≠ 0 := by unfold bl; rw [if_neg h]; omega
  omega
theorem bl_pos {n : Nat} (h : n ≠ 0) : 0 < bl n := by unfold bl; rw [if_neg h]; omega
theorem bl_zero {n : Nat} (h : bl n = 0) : n = 0 := by
  by_cases z : n = 0
  · exact z
  · have := bl_pos z; omega
theorem top_bit {x m : Nat} (h1 : 2 ^ m ≤ x) (h2 : x < 2 ^ (m + 1)) : x.testBit m = true := by
  rw [Nat.testBit_eq_decide_div_mod_eq]
  have : x / 2 ^ m = 1 := by
    rw [Nat.pow_succ] at h2
    have hp := Nat.two_pow_pos m
    apply Nat.div_eq_of_lt_le <;> omega
  rw [this]; rfl
theorem xor_top {x y m : Nat} (h1 : 2 ^ m ≤ x) (h2 : x < 2 ^ (m + 1)) (h3 : 2 ^ m ≤ y) (h4 : y < 2 ^ (m + 1)) : x ^^^ y < 2 ^ m := by
  apply Nat.lt_pow_two_of_testBit
  intro i hi
  rw [Nat.testBit_xor]
  by_cases e : i = m
  · subst e
    rw [top_bit h1 h2, top_bit h3 h4]; rfl
  · have e1 : x.testBit i = false := Nat.testBit_lt_two_pow (Nat.lt_of_lt_of_le h2 (Nat.pow_le_pow_right (by decide) (by omega)))
    have e2 : y.testBit i = false := Nat.testBit_lt_two_pow (Nat.lt_of_lt_of_le h4 (Nat.pow_le_pow_right (by decide) (by omega)))
    rw [e1, e2]; rfl
theorem shl_range {c k : Nat} (hc : c ≠ 0) : 2 ^ (bl c - 1 + k) ≤ c <<< k ∧ c <<< k < 2 ^ (bl c - 1 + k + 1) := by
  rw [Nat.shiftLeft_eq, Nat.pow_add]
  have h1 := bl_ge hc
  have h2 := lt_bl c
  have hp := bl_pos hc
  refine ⟨Nat.mul_le_mul_right _ h1, ?_⟩
  rw [show bl c - 1 + k + 1 = bl c + k by omega, Nat.pow_add]
  exact Nat.mul_lt_mul_of_pos_right h2 (Nat.two_pow_pos k)
/-- the sums of c, shifted by less than K -/
def Sp (c : Nat) : Nat → Nat → Prop
  | 0, x => x = 0
  | K + 1, x => Sp c K x ∨ Sp c K (x ^^^ c <<< K)
theorem Sp.more {c K x : Nat} (h : Sp c K x) : Sp c (K + 1) x := .inl h
theorem Sp.mono {c x : Nat} : ∀ {K L : Nat}, K ≤ L → Sp c K x → Sp c L x := fun {K L} h s => by
  induction h with
  | refl => exact s
  | step _ ih => exact ih.more
theorem Sp.zero {c : Nat} : ∀ K, Sp c K 0
  | 0 => rfl
  | K + 1 => .inl (Sp.zero K)
theorem Sp.xor {c : Nat} : ∀ {K x y : Nat}, Sp c K x → Sp c K y → Sp c K (x ^^^ y)
  | 0, x, y, h1, h2 => by
    have h1 : x = 0 := h1
    have h2 : y = 0 := h2
    subst h1 h2; rfl
  | K + 1, x, y, h1, h2 => by
    rcases h1 with h1 | h1 <;> rcases h2 with h2 | h2
    · exact .inl (h1.xor h2)
    · refine .inr ?_
      rw [Nat.xor_assoc]
      exact h1.xor h2
    · refine .inr ?_
      rw [Nat.xor_assoc, Nat.xor_comm y, ← Nat.xor_assoc]
      exact h1.xor h2
    · refine .inl ?_
      have := h1.xor h2
      rw [Nat.xor_comm y, Nat.xor_assoc, ← Nat.xor_assoc (c <<< K), Nat.xor_self, Nat.zero_xor] at this
      exact this
theorem Sp.one {c k : Nat} : Sp c (k + 1) (c <<< k) := by
  refine .inr ?_
  rw [Nat.xor_self]
  exact Sp.zero k
theorem Sp.shl {c j : Nat} : ∀ {K x : Nat}, Sp c K x → Sp c (K + j) (x <<< j)
  | 0, x, h => by
    have h : x = 0 := h
    subst h
    rw [Nat.zero_shiftLeft]
    exact Sp.zero _
  | K + 1, x, h => by
    rw [show K + 1 + j = (K + j) + 1 by omega]
    rcases h with h | h
    · exact .inl (h.shl)
    · refine .inr ?_
      have := h.shl (j := j)
      rw [Nat.shiftLeft_xor_distrib, ← Nat.shiftLeft_add] at this
      exact this
theorem Sp.lt {c : Nat} (hc : c ≠ 0) : ∀ {K x : Nat}, Sp c K x → x < 2 ^ (bl c - 1 + K)
  | 0, x, h => by
    have h : x = 0 := h
    subst h; exact Nat.two_pow_pos _
  | K + 1, x, h => by
    rcases h with h | h
    · exact Nat.lt_of_lt_of_le (Sp.lt hc h) (Nat.pow_le_pow_right (by decide) (by omega))
    · have h1 := Nat.lt_of_lt_of_le (Sp.lt hc h) (Nat.pow_le_pow_right (by decide) (show bl c - 1 + K ≤ bl c - 1 + (K + 1) by omega))
      have h2 := (shl_range (k := K) hc).2
      have e : x = (x ^^^ c <<< K) ^^^ c <<< K := by rw [Nat.xor_assoc, Nat.xor_self, Nat.xor_zero]
      rw [e]
      exact Nat.xor_lt_two_pow h1 (by rw [show bl c - 1 + (K + 1) = bl c - 1 + K + 1 by omega]; exact h2)
/-- a sum that is no nought is as wide as c at the least -/
theorem Sp.wide {c : Nat} (hc : c ≠ 0) : ∀ {K x : Nat}, Sp c K x → x ≠ 0 → 2 ^ (bl c - 1) ≤ x
  | 0, x, h, n => absurd h n
  | K + 1, x, h, n => by
    rcases h with h | h
    · exact Sp.wide hc h n
    · have h1 := Sp.lt hc h
      have ⟨h2, h3⟩ := shl_range (k := K) hc
      have t : x.testBit (bl c - 1 + K) = true := by
        have e : x = (x ^^^ c <<< K) ^^^ c <<< K := by rw [Nat.xor_assoc, Nat.xor_self, Nat.xor_zero]
        rw [e, Nat.testBit_xor, Nat.testBit_lt_two_pow h1, top_bit h2 h3]; rfl
      have := Nat.ge_two_pow_of_testBit t
      exact Nat.le_trans (Nat.pow_le_pow_right (by decide) (by omega)) this
/-- the multiples of c -/
def Mu (c x : Nat) : Prop := ∃ K, Sp c K x
theorem Mu.zero {c : Nat} : Mu c 0 := ⟨0, rfl⟩
theorem Mu.xor {c x y : Nat} : Mu c x → Mu c y → Mu c (x ^^^ y) := fun ⟨K, h⟩ ⟨L, g⟩ => ⟨max K L, (h.mono (Nat.le_max_left K L)).xor (g.mono (Nat.le_max_right K L))⟩
theorem Mu.shl {c x : Nat} (k : Nat) : Mu c x → Mu c (x <<< k) := fun ⟨K, h⟩ => ⟨K + k, h.shl⟩
theorem Mu.one {c : Nat} (k : Nat) : Mu c (c <<< k) := ⟨k + 1, Sp.one⟩
theorem Mu.small {c x : Nat} (hc : c ≠ 0) (h : Mu c x) (hx : bl x < bl c) : x = 0 := by
  obtain ⟨K, h⟩ := h
  by_cases z : x = 0
  · exact z
  · have := h.wide hc z
    have := (bl_lt.mp hx).1
    omega
/-- one step of the division -/
theorem step_lt {n c : Nat} (hc : c ≠ 0) (h : bl c ≤ bl n) : bl (n ^^^ c <<< (bl n - bl c)) < bl n := by
  have hp := bl_pos hc
  have hn : n ≠ 0 := fun e => by subst e; unfold bl at h; rw [if_pos rfl] at h; unfold bl at hp; omega
  refine bl_lt.mpr ⟨?_, by omega⟩
  have ⟨h1, h2⟩ := shl_range (k := bl n - bl c) hc
  rw [show bl c - 1 + (bl n - bl c) = bl n - 1 by omega] at h1 h2
  have e := bl_ge hn
  have e2 := lt_bl n
  exact xor_top e (by rw [show bl n - 1 + 1 = bl n by omega]; exact e2) h1 h2
def red (c : Nat) : Nat → Nat → Nat
  | 0, n => n
  | f + 1, n => if bl c ≤ bl n then red c f (n ^^^ c <<< (bl n - bl c)) else n
theorem red_ok {c : Nat} (hc : c ≠ 0) : ∀ (f n : Nat), bl n ≤ f → bl (red c f n) < bl c ∧ Mu c (n ^^^ red c f n)
  | 0, n, h => by
    have : n = 0 := bl_zero (by omega)
    subst this
    refine ⟨?_, ?_⟩
    · show bl 0 < bl c
      have := bl_pos hc
      unfold bl at this ⊢
      simpa using this
    · show Mu c (0 ^^^ 0)
      exact Mu.zero
  | f + 1, n, h => by
    unfold red
    by_cases q : bl c ≤ bl n
    · rw [if_pos q]
      have st := step_lt hc q
      obtain ⟨h1, h2⟩ := red_ok hc f (n ^^^ c <<< (bl n - bl c)) (by omega)
      refine ⟨h1, ?_⟩
      have := h2.xor (Mu.one (c := c) (bl n - bl c))
      generalize red c f (n ^^^ c <<< (bl n - bl c)) = r at this ⊢
      generalize c <<< (bl n - bl c) = s at this
      have e : (n ^^^ s ^^^ r) ^^^ s = n ^^^ r := by rw [Nat.xor_assoc n s r, Nat.xor_comm s r, ← Nat.xor_assoc, Nat.xor_assoc, Nat.xor_self, Nat.xor_zero]
      rw [e] at this
      exact this
    · rw [if_neg q]
      exact ⟨by omega, by rw [Nat.xor_self]; exact Mu.zero⟩
/-- the rest of n by c -/
def dv (c n : Nat) : Nat := red c (bl n) n
section
variable {c : Nat} (hc : c ≠ 0)
include hc
theorem dv_lt (n : Nat) : bl (dv c n) < bl c := (red_ok hc _ n (Nat.le_refl _)).1
theorem dv_mu (n : Nat) : Mu c (n ^^^ dv c n) := (red_ok hc _ n (Nat.le_refl _)).2
/-- only one rest there is -/
theorem dv_only {n r : Nat} (h : bl r < bl c) (m : Mu c (n ^^^ r)) : dv c n = r := by
  have e := (dv_mu hc n).xor m
  have e1 : (n ^^^ dv c n) ^^^ (n ^^^ r) = dv c n ^^^ r := by
    rw [Nat.xor_comm n (dv c n), Nat.xor_assoc, ← Nat.xor_assoc n n r, Nat.xor_self, Nat.zero_xor]
  rw [e1] at e
  have b := bl_lt.mp (dv_lt hc n)
  have b' := bl_lt.mp h
  have z := e.small hc (bl_lt.mpr ⟨Nat.xor_lt_two_pow b.1 b'.1, b.2⟩)
  have e2 : dv c n ^^^ r ^^^ r = dv c n := by rw [Nat.xor_assoc, Nat.xor_self, Nat.xor_zero]
  rw [← e2, z, Nat.zero_xor]
theorem dv_xor (x y : Nat) : dv c (x ^^^ y) = dv c x ^^^ dv c y := by
  have b := bl_lt.mp (dv_lt hc x)
  have b' := bl_lt.mp (dv_lt hc y)
  refine dv_only hc (bl_lt.mpr ⟨Nat.xor_lt_two_pow b.1 b'.1, b.2⟩) ?_
  have := (dv_mu hc x).xor (dv_mu hc y)
  have e : x ^^^ y ^^^ (dv c x ^^^ dv c y) = (x ^^^ dv c x) ^^^ (y ^^^ dv c y) := by
    rw [Nat.xor_assoc, Nat.xor_assoc, ← Nat.xor_assoc y, Nat.xor_comm y (dv c x), Nat.xor_assoc]
  rw [e]
  exact this
theorem dv_small {r : Nat} (h : bl r < bl c) : dv c r = r := dv_only hc h (by rw [Nat.xor_self]; exact Mu.zero)
theorem dv_zero {n : Nat} (h : Mu c n) : dv c n = 0 := dv_only hc (by have := bl_pos hc; unfold bl at this ⊢; simpa using this) (by rw [Nat.xor_zero]; exact h)
end
end DL
namespace DL
open PySem L2
theorem shl_xor {x y k : Nat} (h : y < 2 ^ k) : x <<< k ^^^ y = x * 2 ^ k + y := by
  apply Nat.eq_of_testBit_eq
  intro i
  rw [Nat.testBit_xor, Nat.testBit_shiftLeft, Nat.mul_comm x, Nat.testBit_two_pow_mul_add _ h]
  by_cases q : i < k
  · rw [if_pos q, decide_eq_false (by omega)]
    simp
  · rw [if_neg q, decide_eq_true (by omega), Nat.testBit_lt_two_pow (Nat.lt_of_lt_of_le h (Nat.pow_le_pow_right (by decide) (by omega)))]
    simp
/-- a row's number -/
def gN (l : List Int) : Nat := (gath l).toNat
theorem gN_cast {l : List Int} (h : Bits l) : ((gN l : Nat) : Int) = gath l := by
  unfold gN
  have := (gath_in h).1
  omega
theorem gN_lt {l : List Int} (h : Bits l) : gN l < 2 ^ l.length := by
  have h1 := gN_cast h
  have h2 := (gath_in h).2
  have e : ((2 ^ l.length : Nat) : Int) = 2 ^ l.length := by simp
  omega
theorem gN_append {l m : List Int} (h1 : Bits l) (h2 : Bits m) : gN (l ++ m) = gN l <<< m.length ^^^ gN m := by
  rw [shl_xor (gN_lt h2)]
  have a := gN_cast (h1.append h2)
  rw [gath_append, ← gN_cast h1, ← gN_cast h2] at a
  have e : ((2 ^ m.length : Nat) : Int) = 2 ^ m.length := by simp
  rw [← e] at a
  exact_mod_cast a
theorem gN_bitsN {n m : Nat} (h : n < 2 ^ m) : gN (bitsN (n : Int) m) = n := by
  unfold gN
  rw [gath_bitsN]
  have e : ((2 ^ m : Nat) : Int) = 2 ^ m := by simp
  rw [← e, Int.emod_eq_of_lt (by omega) (by omega)]
  rfl
theorem gN_zeros {k : Nat} : gN (List.replicate k 0) = 0 := by
  rw [← bitsN_zero]
  unfold gN
  rw [gath_bitsN]
  simp
theorem intBits_bl {n : Nat} : Builtin.Int.intBits (n : Int) = bl n := by
  unfold Builtin.Int.intBits bl
  by_cases h : n = 0
  · subst h; rfl
  · rw [if_neg h, if_neg (by simpa using h)]; rfl
end DL


namespace Kk
open PySem L2 SM
def cts_WireError : List String := ["NoBits", "NoCode", "NoData", "NoNumber"]
def os_ : List String := ["Reader"]
def xs_ : List String := ["NoBits", "NoCode", "NoData", "NoNumber"]
def tb_ : List (String × String × Bool) := [("Reader", "NoBits", false), ("Reader", "NoCode", false), ("Reader", "NoData", false), ("Reader", "NoNumber", false), ("Reader", "NoPacket", false), ("Reader", "NoPlace", false), ("Reader", "NoText", false), ("Reader", "NoTick", false), ("Reader", "ValueError", false), ("Reader", "bool", false), ("Reader", "int", false), ("Reader", "tuple", false), ("NoBits", "NoBits", true), ("NoBits", "NoCode", false), ("NoBits", "NoData", false), ("NoBits", "NoNumber", false), ("NoBits", "NoPacket", false), ("NoBits", "NoPlace", false), ("NoBits", "NoText", false), ("NoBits", "NoTick", false), ("NoBits", "ValueError", true), ("NoBits", "bool", false), ("NoBits", "int", false), ("NoBits", "tuple", false), ("NoCode", "NoBits", false), ("NoCode", "NoCode", true), ("NoCode", "NoData", false), ("NoCode", "NoNumber", false), ("NoCode", "NoPacket", false), ("NoCode", "NoPlace", false), ("NoCode", "NoText", false), ("NoCode", "NoTick", false), ("NoCode", "ValueError", true), ("NoCode", "bool", false), ("NoCode", "int", false), ("NoCode", "tuple", false), ("NoData", "NoBits", false), ("NoData", "NoCode", false), ("NoData", "NoData", true), ("NoData", "NoNumber", false), ("NoData", "NoPacket", false), ("NoData", "NoPlace", false), ("NoData", "NoText", false), ("NoData", "NoTick", false), ("NoData", "ValueError", true), ("NoData", "bool", false), ("NoData", "int", false), ("NoData", "tuple", false), ("NoNumber", "NoBits", false), ("NoNumber", "NoCode", false), ("NoNumber", "NoData", false), ("NoNumber", "NoNumber", true), ("NoNumber", "NoPacket", false), ("NoNumber", "NoPlace", false), ("NoNumber", "NoText", false), ("NoNumber", "NoTick", false), ("NoNumber", "ValueError", true), ("NoNumber", "bool", false), ("NoNumber", "int", false), ("NoNumber", "tuple", false)]
/- slots of _law_next: 0=_law_state_here 1=_law_size 2=_law_found 3=_law_mixed -/
noncomputable def F_l_next : Fn := mkFn 2 4
  (sSeq (sIf (tOf (eOp oGt (eOp oIx (eVar 0) (eC (.int 0))) (eC (.int 0)))) (sSeq (sSet 2 (eOp oMod (eOp oIx (eVar 0) (eC (.int 0))) (eVar 1))) (sSeq (sPut (eVar 0) (eC (.int 0)) (eOp oDiv (eOp oIx (eVar 0) (eC (.int 0))) (eVar 1))) (sRet (eVar 2)))) sNx) (sSeq (sPut (eVar 0) (eC (.int 1)) (eOp oMod (eOp oAdd (eOp oMul (eOp oIx (eVar 0) (eC (.int 1))) (eC (.int 69621))) (eC (.int 11))) (eC (.int 2147483629)))) (sSeq (sSet 3 (eOp oMod (eOp oMul (eOp oIx (eVar 0) (eC (.int 1))) (eOp oIx (eVar 0) (eC (.int 1)))) (eC (.int 2147483587)))) (sRet (eOp oMod (eOp oDiv (eOp oMod (eOp oAdd (eOp oMul (eVar 3) (eC (.int 40692))) (eOp oIx (eVar 0) (eC (.int 1)))) (eC (.int 2147483399))) (eC (.int 7))) (eVar 1))))))
/- slots of _law_code: 0=_law_state_here 1=_law_kind -/
noncomputable def F_l_code : Fn := mkFn 1 2
  (sSeq (sSet 1 (eCall F_l_next (aCons (eVar 0) (aCons (eC (.int 4)) aNil)))) (sSeq (sIf (tOf (eOp oEq (eVar 1) (eC (.int 0)))) (sRet (eOp oIx (eLst (aCons (eC (.int 3)) (aCons (eC (.int 5)) (aCons (eC (.int 7)) (aCons (eC (.int 11)) (aCons (eC (.int 19)) (aCons (eC (.int 25)) (aCons (eC (.int 263)) (aCons (eC (.int 69665)) (aCons (eC (.int 131071)) (aCons (eC (.int 65537)) aNil))))))))))) (eCall F_l_next (aCons (eVar 0) (aCons (eC (.int 10)) aNil))))) sNx) (sSeq (sIf (tOf (eOp oEq (eVar 1) (eC (.int 1)))) (sRet (eOp oAdd (eC (.int 3)) (eOp oMul (eC (.int 2)) (eCall F_l_next (aCons (eVar 0) (aCons (eC (.int 30)) aNil)))))) sNx) (sRet (eOp oAdd (eC (.int 3)) (eOp oMul (eC (.int 2)) (eCall F_l_next (aCons (eVar 0) (aCons (eC (.int 65535)) aNil)))))))))
/- slots of _law_data: 0=_law_state_here 1=_law_most 2=_law_found 3=_law_k -/
noncomputable def F_l_data : Fn := mkFn 2 4
  (sSeq (sSet 2 (eLst aNil)) (sSeq (sFor (wAs rg1 (aCons (eOp oAdd (eC (.int 1)) (eCall F_l_next (aCons (eVar 0) (aCons (eVar 1) aNil)))) aNil)) (gN 3) (sDrop (eBL oAppend (eVar 2) (aCons (eOp oIx (eLst (aCons (eCall F_l_next (aCons (eVar 0) (aCons (eC (.int 256)) aNil))) (aCons (eC (.int 255)) (aCons (eC (.int 126)) (aCons (eC (.int 0)) (aCons (eC (.int 248)) aNil)))))) (eCall F_l_next (aCons (eVar 0) (aCons (eC (.int 5)) aNil)))) aNil)))) (sRet (eCB (c1 oTuple) (aCons (eVar 2) aNil)))))
/- slots of _law_rest: 0=_law_bits 1=_law_code_here 2=_law_wide 3=_law_left 4=_law_bit -/
noncomputable def F_l_rest : Fn := mkFn 2 5
  (sSeq (sSet 2 (eOp oSub (eUn oBits (eVar 1)) (eC (.int 1)))) (sSeq (sSet 3 (eC (.int 0))) (sSeq (sFor (wSeq (eVar 0)) (gN 4) (sSeq (sSet 3 (eOp oAdd (eOp oMul (eC (.int 2)) (eVar 3)) (eVar 4))) (sIf (tOf (eOp oEq (eOp oAnd (eOp oShr (eVar 3) (eVar 2)) (eC (.int 1))) (eC (.int 1)))) (sSet 3 (eOp oXor (eVar 3) (eVar 1))) sNx))) (sRet (eVar 3)))))
/- slots of _law_coded: 0=_law_bits 1=_law_code_here 2=_law_wide 3=_law_left 4=_law_k -/
noncomputable def F_l_coded : Fn := mkFn 2 5
  (sSeq (sSet 2 (eOp oSub (eUn oBits (eVar 1)) (eC (.int 1)))) (sSeq (sSet 3 (eCall F_l_rest (aCons (eOp oAdd (eVar 0) (eOp oMul (eTup (aCons (eC (.int 0)) aNil)) (eVar 2))) (aCons (eVar 1) aNil)))) (sRet (eOp oAdd (eVar 0) (eCB (c1 oTuple) (aCons (eLc (wAs rg1 (aCons (eVar 2) aNil)) (gN 4) tYe (eOp oAnd (eOp oShr (eVar 3) (eOp oSub (eOp oSub (eVar 2) (eC (.int 1))) (eVar 4))) (eC (.int 1))) [4]) aNil))))))
/- slots of _law_of_bytes: 0=_law_data_here 1=_law_found 2=_law_byte 3=_law_k -/
noncomputable def F_l_of_bytes : Fn := mkFn 1 4
  (sSeq (sSet 1 (eLst aNil)) (sSeq (sFor (wSeq (eVar 0)) (gN 2) (sDrop (eBL oExtend (eVar 1) (aCons (eLc (wAs rg1 (aCons (eC (.int 8)) aNil)) (gN 3) tYe (eOp oAnd (eOp oShr (eVar 2) (eOp oSub (eC (.int 7)) (eVar 3))) (eC (.int 1))) [3]) aNil)))) (sRet (eCB (c1 oTuple) (aCons (eVar 1) aNil)))))
/- slots of _law_stuffed: 0=_law_bits 1=_law_text 2=_law_bit 3=_law_sign -/
noncomputable def F_l_stuffed : Fn := mkFn 1 4
  (sSeq (sSet 1 (eRepl (fS "11111") (fS "111110") (eSt1 oJoin (eC (dS "")) (eLc (wSeq (eVar 0)) (gN 2) tYe (eCB (c1 oStr) (aCons (eVar 2) aNil)) [2])))) (sRet (eCB (c1 oTuple) (aCons (eLc (wSeq (eVar 1)) (gN 3) tYe (eCB (c1 oIntT) (aCons (eVar 3) aNil)) [3]) aNil))))
/- slots of _law_framed: 0=_law_data_here 1=_law_code_here 2=_law_flag -/
noncomputable def F_l_framed : Fn := mkFn 2 3
  (sSeq (sSet 2 (eTup (aCons (eC (.int 0)) (aCons (eC (.int 1)) (aCons (eC (.int 1)) (aCons (eC (.int 1)) (aCons (eC (.int 1)) (aCons (eC (.int 1)) (aCons (eC (.int 1)) (aCons (eC (.int 0)) aNil)))))))))) (sRet (eOp oAdd (eOp oAdd (eVar 2) (eCall F_l_stuffed (aCons (eCall F_l_coded (aCons (eCall F_l_of_bytes (aCons (eVar 0) aNil)) (aCons (eVar 1) aNil))) aNil))) (eVar 2))))
/- slots of need_code: 0=code -/
noncomputable def F_need_code : Fn := mkFn 1 1
  (sIf (tOo (tNo (tOf (eCB (c2 (oIsi os_ xs_ tb_)) (aCons (eVar 0) (aCons (eC (.ty "int")) aNil))))) (tOo (tOf (eCB (c2 (oIsi os_ xs_ tb_)) (aCons (eVar 0) (aCons (eC (.ty "bool")) aNil)))) (tOo (tNo (tOf (eCh oLe oLe (eC (.int 3)) (eVar 0) (eC (.int 131071))))) (tOf (eOp oEq (eOp oMod (eVar 0) (eC (.int 2))) (eC (.int 0))))))) (sRaise "NoCode") sNx)
/- slots of width: 0=code -/
noncomputable def F_width : Fn := mkFn 1 1
  (sSeq (sDrop (eCall F_need_code (aCons (eVar 0) aNil))) (sRet (eOp oSub (eUn oBits (eVar 0)) (eC (.int 1)))))
/- slots of Reader.__init__: 0=self 1=code -/
noncomputable def F_Reader___init__ : Fn := mkFn 2 2
  (sSeq (sFl ["Reader"] "check_bits" (eVar 0) (eCall F_width (aCons (eVar 1) aNil))) (sSeq (sFl ["Reader"] "divisor" (eVar 0) (eVar 1)) (sSeq (sFl ["Reader"] "latest" (eVar 0) (eTup aNil)) (sFl ["Reader"] "since_flag" (eVar 0) (eC .non)))))
/- slots of gathered: 0=bits 1=number 2=bit -/
noncomputable def F_gathered : Fn := mkFn 1 3
  (sSeq (sSet 1 (eC (.int 0))) (sSeq (sFor (wSeq (eVar 0)) (gN 2) (sSet 1 (eOp oOr (eOp oShl (eVar 1) (eC (.int 1))) (eVar 2)))) (sRet (eVar 1))))
/- slots of is_whole: 0=thing 1=least 2=most -/
noncomputable def F_is_whole : Fn := mkFn 3 3
  (sRet (eAnd (eCB (c2 (oIsi os_ xs_ tb_)) (aCons (eVar 0) (aCons (eC (.ty "int")) aNil))) (eAnd (eNot (eCB (c2 (oIsi os_ xs_ tb_)) (aCons (eVar 0) (aCons (eC (.ty "bool")) aNil)))) (eCh oLe oLe (eVar 1) (eVar 0) (eVar 2)))))
/- slots of is_bits: 0=thing 1=bit -/
noncomputable def F_is_bits : Fn := mkFn 1 2
  (sRet (eAnd (eCB (c2 (oIsi os_ xs_ tb_)) (aCons (eVar 0) (aCons (eC (.ty "tuple")) aNil))) (eCB (c1 oAll) (aCons (eLc (wSeq (eVar 0)) (gN 1) tYe (eCall0 F_is_whole (aCons (eVar 1) (aCons (eC (.int 0)) (aCons (eC (.int 1)) aNil)))) [1]) aNil))))
/- slots of data_of: 0=bits 1=place -/
noncomputable def F_data_of : Fn := mkFn 1 2
  (sSeq (sIf (tOo (tNo (tOf (eCall F_is_bits (aCons (eVar 0) aNil)))) (tOo (tOf (eOp oGt (eCB (c1 oLen) (aCons (eVar 0) aNil)) (eOp oMul (eC (.int 1000)) (eC (.int 8))))) (tOf (eOp oNe (eOp oMod (eCB (c1 oLen) (aCons (eVar 0) aNil)) (eC (.int 8))) (eC (.int 0)))))) (sRaise "NoBits") sNx) (sRet (eCB (c1 oTuple) (aCons (eLc (wAs rg3 (aCons (eC (.int 0)) (aCons (eCB (c1 oLen) (aCons (eVar 0) aNil)) (aCons (eC (.int 8)) aNil)))) (gN 1) tYe (eCall0 F_gathered (aCons (eSl oSl (eVar 0) (oSo (eVar 1)) (oSo (eOp oAdd (eVar 1) (eC (.int 8))))) aNil)) [1]) aNil))))
/- slots of divided: 0=number 1=code 2=many -/
noncomputable def F_divided : Fn := mkFn 2 3
  (sSeq (sSet 2 (eUn oBits (eVar 1))) (sSeq (sWh (tOf (eOp oGe (eUn oBits (eVar 0)) (eVar 2))) (sSet 0 (eOp oXor (eVar 0) (eOp oShl (eVar 1) (eOp oSub (eUn oBits (eVar 0)) (eVar 2)))))) (sRet (eVar 0))))
/- slots of number_of: 0=bits -/
noncomputable def F_number_of : Fn := mkFn 1 1
  (sSeq (sIf (tNo (tOf (eCall F_is_bits (aCons (eVar 0) aNil)))) (sRaise "NoBits") sNx) (sRet (eCall F_gathered (aCons (eVar 0) aNil))))
/- slots of number_by: 0=bits -/
noncomputable def F_number_by : Fn := mkFn 1 1
  (sSeq (sIf (tNo (tOf (eCall F_is_bits (aCons (eVar 0) aNil)))) (sRaise "NoBits") sNx) (sRet (eCall F_number_of (aCons (eVar 0) aNil))))
/- slots of is_right: 0=bits 1=code -/
noncomputable def F_is_right : Fn := mkFn 2 2
  (sSeq (sDrop (eCall F_need_code (aCons (eVar 1) aNil))) (sRet (eOp oEq (eCall F_divided (aCons (eCall F_number_by (aCons (eVar 0) aNil)) (aCons (eVar 1) aNil))) (eC (.int 0)))))
/- slots of need_bits: 0=thing -/
noncomputable def F_need_bits : Fn := mkFn 1 1
  (sIf (tNo (tOf (eCall F_is_bits (aCons (eVar 0) aNil)))) (sRaise "NoBits") sNx)
/- slots of plain: 0=bits 1=found 2=ones 3=bit -/
noncomputable def F_plain : Fn := mkFn 1 4
  (sSeq (sDrop (eCall F_need_bits (aCons (eVar 0) aNil))) (sSeq (sSet 1 (eLst aNil)) (sSeq (sSet 2 (eC (.int 0))) (sSeq (sFor (wSeq (eVar 0)) (gN 3) (sIf (tOf (eOp oEq (eVar 2) (eC (.int 5)))) (sSeq (sIf (tOf (eOp oEq (eVar 3) (eC (.int 1)))) (sRet (eC .non)) sNx) (sSet 2 (eC (.int 0)))) (sSeq (sDrop (eBL oAppend (eVar 1) (aCons (eVar 3) aNil))) (sSet 2 (eIf (tOf (eOp oEq (eVar 3) (eC (.int 1)))) (eOp oAdd (eVar 2) (eC (.int 1))) (eC (.int 0))))))) (sRet (eIf (tOf (eOp oEq (eVar 2) (eC (.int 5)))) (eC .non) (eCB (c1 oTuple) (aCons (eVar 1) aNil))))))))
/- slots of Reader.frame_there: 0=self 1=row 2=many -/
noncomputable def F_Reader_frame_there : Fn := mkFn 1 3
  (sSeq (sIf (tOo (tOf (eOp oIs (eFld ["Reader"] "since_flag" (eVar 0)) (eC .non))) (tOf (eOp oLt (eCB (c1 oLen) (aCons (eFld ["Reader"] "since_flag" (eVar 0)) aNil)) (eCB (c1 oLen) (aCons (eC (.wt [.int 0, .int 1, .int 1, .int 1, .int 1, .int 1, .int 1, .int 0])) aNil))))) (sRet (eC .non)) sNx) (sSeq (sSet 1 (eCall F_plain (aCons (eCB (c1 oTuple) (aCons (eSl oSl (eFld ["Reader"] "since_flag" (eVar 0)) oNo (oSo (eUn oNeg (eCB (c1 oLen) (aCons (eC (.wt [.int 0, .int 1, .int 1, .int 1, .int 1, .int 1, .int 1, .int 0])) aNil))))) aNil)) aNil))) (sSeq (sIf (tOf (eOp oIs (eVar 1) (eC .non))) (sRet (eC .non)) sNx) (sSeq (sSet 2 (eOp oSub (eCB (c1 oLen) (aCons (eVar 1) aNil)) (eFld ["Reader"] "check_bits" (eVar 0)))) (sSeq (sIf (tOo (tOf (eOp oLt (eVar 2) (eC (.int 8)))) (tOo (tOf (eOp oGt (eVar 2) (eC (.int 8000)))) (tOo (tOf (eOp oGt (eOp oMod (eVar 2) (eC (.int 8))) (eC (.int 0)))) (tNo (tOf (eCall F_is_right (aCons (eVar 1) (aCons (eFld ["Reader"] "divisor" (eVar 0)) aNil)))))))) (sRet (eC .non)) sNx) (sRet (eCall F_data_of (aCons (eSl oSl (eVar 1) oNo (oSo (eVar 2))) aNil))))))))
/- slots of Reader.take: 0=self 1=bits 2=found 3=bit 4=told -/
noncomputable def F_Reader_take : Fn := mkFn 2 5
  (sSeq (sDrop (eCall F_need_bits (aCons (eVar 1) aNil))) (sSeq (sSet 2 (eLst aNil)) (sSeq (sFor (wSeq (eVar 1)) (gN 3) (sSeq (sFl ["Reader"] "latest" (eVar 0) (eOp oAdd (eSl oSl (eFld ["Reader"] "latest" (eVar 0)) (oSo (eUn oNeg (eC (.int 7)))) oNo) (eTup (aCons (eVar 3) aNil)))) (sSeq (sIf (tOf (eOp oIsNot (eFld ["Reader"] "since_flag" (eVar 0)) (eC .non))) (sDrop (eBL oAppend (eFld ["Reader"] "since_flag" (eVar 0)) (aCons (eVar 3) aNil))) sNx) (sIf (tOf (eOp oEq (eFld ["Reader"] "latest" (eVar 0)) (eC (.wt [.int 0, .int 1, .int 1, .int 1, .int 1, .int 1, .int 1, .int 0])))) (sSeq (sSet 4 (eMeth "frame_there" [("Reader", F_Reader_frame_there)] (eVar 0) aNil)) (sSeq (sIf (tOf (eOp oIsNot (eVar 4) (eC .non))) (sDrop (eBL oAppend (eVar 2) (aCons (eVar 4) aNil))) sNx) (sFl ["Reader"] "since_flag" (eVar 0) (eLst aNil)))) sNx)))) (sRet (eVar 2)))))
/- slots of _law_kinds: 0=_law_e 1=_law_marks 2=_law_k -/
noncomputable def F_l_kinds : Fn := mkFn 1 3
  (sSeq (sSet 1 (eLst (aCons (eCB (c2 (oIsi os_ xs_ tb_)) (aCons (eVar 0) (aCons (eC (.nm "NoBits")) aNil))) (aCons (eCB (c2 (oIsi os_ xs_ tb_)) (aCons (eVar 0) (aCons (eC (.nm "NoData")) aNil))) (aCons (eCB (c2 (oIsi os_ xs_ tb_)) (aCons (eVar 0) (aCons (eC (.nm "NoNumber")) aNil))) (aCons (eCB (c2 (oIsi os_ xs_ tb_)) (aCons (eVar 0) (aCons (eC (.nm "NoCode")) aNil))) aNil)))))) (sSeq (sSet 1 (eOp oAdd (eVar 1) (eLst (aCons (eCB (c2 (oIsi os_ xs_ tb_)) (aCons (eVar 0) (aCons (eC (.nm "NoPacket")) aNil))) (aCons (eCB (c2 (oIsi os_ xs_ tb_)) (aCons (eVar 0) (aCons (eC (.nm "NoTick")) aNil))) (aCons (eCB (c2 (oIsi os_ xs_ tb_)) (aCons (eVar 0) (aCons (eC (.nm "NoText")) aNil))) (aCons (eCB (c2 (oIsi os_ xs_ tb_)) (aCons (eVar 0) (aCons (eC (.nm "NoPlace")) aNil))) aNil))))))) (sRet (eOp oAdd (eLc (wAs rg1 (aCons (eC (.int 8)) aNil)) (gN 2) (tOf (eOp oIx (eVar 1) (eVar 2))) (eVar 2) [2]) (eOp oMul (eLst (aCons (eC (.int 8)) aNil)) (eCB (c1 oIntT) (aCons (eNot (eCB (c2 (oIsi os_ xs_ tb_)) (aCons (eVar 0) (aCons (eC (.ty "ValueError")) aNil)))) aNil)))))))
/- slots of _law_tried: 0=_law_work 1=_law_told 2=_law_caught 3=_law_e -/
noncomputable def rest_l_tried : S :=
  (sSeq (sIf (tOf (eOp oIs (eVar 2) (eC .non))) (sRet (eVar 1)) sNx) (sRet (eOp oAdd (eLst (aCons (eC (dS "no")) aNil)) (eCall0 F_l_kinds (aCons (eVar 2) aNil)))))
/- slots of _law_read_on: 0=_law_state_here 1=_law_data_here 2=_law_code_here 3=_law_row 4=_law_at 5=_law_reader 6=_law_odd -/
noncomputable def F_l_read_on : Fn := mkFn 3 7
  (sSeq (sSet 3 (eCall F_l_framed (aCons (eVar 1) (aCons (eVar 2) aNil)))) (sSeq (sSet 4 (eCall F_l_next (aCons (eVar 0) (aCons (eCB (c1 oLen) (aCons (eVar 3) aNil)) aNil)))) (sSeq (sSet 5 (eMake "Reader" F_Reader___init__ (aCons (eVar 2) aNil))) (sSeq (sSet 6 (eOp oIx (eLst (aCons (eLst (aCons (eC (.int 0)) (aCons (eC (.int 1)) aNil))) (aCons (eTup (aCons (eC (.int 0)) (aCons (eC (.int 1)) (aCons (eC (.int 2)) aNil)))) (aCons (eTup (aCons (eC (.bl true)) aNil)) (aCons (eC .non) (aCons (eC (dS "01")) (aCons (eOp oAdd (eSl oSl (eVar 3) (oSo (eVar 4)) oNo) (eTup (aCons (eC .non) aNil))) (aCons (eOp oAdd (eTup (aCons (eC (.int 2)) aNil)) (eSl oSl (eVar 3) (oSo (eVar 4)) oNo)) aNil)))))))) (eCall F_l_next (aCons (eVar 0) (aCons (eC (.int 7)) aNil))))) (sSeq (sIf (tOo (tOf (eOp oNe (eMeth "take" [("Reader", F_Reader_take)] (eVar 5) (aCons (eSl oSl (eVar 3) oNo (oSo (eVar 4))) aNil)) (eLst aNil))) (tOf (eOp oNe (eTried cts_WireError rest_l_tried (eMeth "take" [("Reader", F_Reader_take)] (eVar 5) (aCons (eVar 6) aNil))) (eLst (aCons (eC (dS "no")) (aCons (eC (.int 0)) aNil)))))) (sRet (eC (.bl false))) sNx) (sRet (eOp oEq (eMeth "take" [("Reader", F_Reader_take)] (eVar 5) (aCons (eSl oSl (eVar 3) (oSo (eVar 4)) oNo) aNil)) (eLst (aCons (eVar 1) aNil)))))))))
/- slots of is_data: 0=thing 1=byte -/
noncomputable def F_is_data : Fn := mkFn 1 2
  (sSeq (sIf (tOo (tNo (tOf (eCB (c2 (oIsi os_ xs_ tb_)) (aCons (eVar 0) (aCons (eC (.ty "tuple")) aNil))))) (tOf (eOp oGt (eCB (c1 oLen) (aCons (eVar 0) aNil)) (eC (.int 1000))))) (sRet (eC (.bl false))) sNx) (sRet (eCB (c1 oAll) (aCons (eLc (wSeq (eVar 0)) (gN 1) tYe (eCall0 F_is_whole (aCons (eVar 1) (aCons (eC (.int 0)) (aCons (eC (.int 255)) aNil)))) [1]) aNil))))
/- slots of spread: 0=number 1=many 2=place -/
noncomputable def F_spread : Fn := mkFn 2 3
  (sRet (eLc (wAs rg1 (aCons (eVar 1) aNil)) (gN 2) tYe (eOp oAnd (eOp oShr (eVar 0) (eOp oSub (eOp oSub (eVar 1) (eC (.int 1))) (eVar 2))) (eC (.int 1))) [2]))
/- slots of bits_of: 0=data 1=found 2=byte -/
noncomputable def F_bits_of : Fn := mkFn 1 3
  (sSeq (sIf (tNo (tOf (eCall F_is_data (aCons (eVar 0) aNil)))) (sRaise "NoData") sNx) (sSeq (sSet 1 (eLst aNil)) (sSeq (sFor (wSeq (eVar 0)) (gN 2) (sAug 1 oIAdd (eCall F_spread (aCons (eVar 2) (aCons (eC (.int 8)) aNil))))) (sRet (eCB (c1 oTuple) (aCons (eVar 1) aNil))))))
/- slots of bits_by: 0=number 1=many -/
noncomputable def F_bits_by : Fn := mkFn 2 2
  (sSeq (sIf (tOo (tNo (tOf (eCB (c2 (oIsi os_ xs_ tb_)) (aCons (eVar 0) (aCons (eC (.ty "int")) aNil))))) (tOo (tOf (eCB (c2 (oIsi os_ xs_ tb_)) (aCons (eVar 0) (aCons (eC (.ty "bool")) aNil)))) (tOo (tOf (eOp oLt (eVar 0) (eC (.int 0)))) (tOf (eOp oGt (eOp oShr (eVar 0) (eVar 1)) (eC (.int 0))))))) (sRaise "NoNumber") sNx) (sRet (eCB (c1 oTuple) (aCons (eCall F_spread (aCons (eVar 0) (aCons (eVar 1) aNil))) aNil))))
/- slots of coded: 0=bits 1=code 2=many -/
noncomputable def F_coded : Fn := mkFn 2 3
  (sSeq (sDrop (eCall F_need_code (aCons (eVar 1) aNil))) (sSeq (sSet 2 (eCall F_width (aCons (eVar 1) aNil))) (sRet (eOp oAdd (eVar 0) (eCall F_bits_by (aCons (eCall F_divided (aCons (eOp oShl (eCall F_number_by (aCons (eVar 0) aNil)) (eVar 2)) (aCons (eVar 1) aNil))) (aCons (eVar 2) aNil)))))))
/- slots of stuffed: 0=bits 1=found 2=ones 3=bit -/
noncomputable def F_stuffed : Fn := mkFn 1 4
  (sSeq (sDrop (eCall F_need_bits (aCons (eVar 0) aNil))) (sSeq (sSet 1 (eLst aNil)) (sSeq (sSet 2 (eC (.int 0))) (sSeq (sFor (wSeq (eVar 0)) (gN 3) (sSeq (sDrop (eBL oAppend (eVar 1) (aCons (eVar 3) aNil))) (sSeq (sSet 2 (eIf (tOf (eOp oEq (eVar 3) (eC (.int 1)))) (eOp oAdd (eVar 2) (eC (.int 1))) (eC (.int 0)))) (sIf (tOf (eOp oEq (eVar 2) (eC (.int 5)))) (sSeq (sDrop (eBL oAppend (eVar 1) (aCons (eC (.int 0)) aNil))) (sSet 2 (eC (.int 0)))) sNx)))) (sRet (eCB (c1 oTuple) (aCons (eVar 1) aNil)))))))
/- slots of framed: 0=data 1=code 2=row -/
noncomputable def F_framed : Fn := mkFn 2 3
  (sSeq (sIf (tOf (eOp oEq (eVar 0) (eTup aNil))) (sRaise "NoData") sNx) (sSeq (sSet 2 (eCall F_bits_of (aCons (eVar 0) aNil))) (sRet (eOp oAdd (eOp oAdd (eC (.wt [.int 0, .int 1, .int 1, .int 1, .int 1, .int 1, .int 1, .int 0])) (eCall F_stuffed (aCons (eCall F_coded (aCons (eVar 2) (aCons (eVar 1) aNil))) aNil))) (eC (.wt [.int 0, .int 1, .int 1, .int 1, .int 1, .int 1, .int 1, .int 0]))))))
/- slots of _law_refused: 0=_law_state_here 1=_law_data_here 2=_law_code_here 3=_law_bad 4=_law_odd 5=_law_found 6=_law_at 7=_law_part 8=_law_spoilt -/
noncomputable def F_l_refused : Fn := mkFn 3 9
  (sSeq (sSet 3 (eOp oIx (eLst (aCons (eTup aNil) (aCons (eLst (aCons (eC (.int 1)) aNil)) (aCons (eTup (aCons (eC (.int 256)) aNil)) (aCons (eTup (aCons (eUn oNeg (eC (.int 1))) aNil)) (aCons (eTup (aCons (eC (.int 0)) (aCons (eC (.bl true)) aNil))) (aCons (eC .non) (aCons (eC (dS "a")) (aCons (eOp oMul (eTup (aCons (eC (.int 0)) aNil)) (eC (.int 1001))) (aCons (eTup (aCons (eTup (aCons (eC (.int 1)) aNil)) aNil)) (aCons (eTup (aCons (eC (.int 1)) (aCons (eC .non) aNil))) aNil))))))))))) (eCall F_l_next (aCons (eVar 0) (aCons (eC (.int 10)) aNil))))) (sSeq (sSet 4 (eOp oIx (eLst (aCons (eC (.int 1)) (aCons (eC (.int 2)) (aCons (eC (.int 131073)) (aCons (eC (.int 131072)) (aCons (eC (.int 0)) (aCons (eUn oNeg (eC (.int 3))) (aCons (eC (.bl true)) (aCons (eC .non) (aCons (eC (dS "3")) (aCons (eTup (aCons (eC (.int 3)) aNil)) aNil))))))))))) (eCall F_l_next (aCons (eVar 0) (aCons (eC (.int 10)) aNil))))) (sSeq (sSet 5 (eLst (aCons (eTried cts_WireError rest_l_tried (eCall F_framed (aCons (eVar 3) (aCons (eVar 2) aNil)))) aNil))) (sSeq (sDrop (eBL oAppend (eVar 5) (aCons (eTried cts_WireError rest_l_tried (eCall F_framed (aCons (eVar 3) (aCons (eVar 4) aNil)))) aNil))) (sSeq (sDrop (eBL oAppend (eVar 5) (aCons (eTried cts_WireError rest_l_tried (eCall F_framed (aCons (eVar 1) (aCons (eVar 4) aNil)))) aNil))) (sSeq (sDrop (eBL oAppend (eVar 5) (aCons (eTried cts_WireError rest_l_tried (eMake "Reader" F_Reader___init__ (aCons (eVar 4) aNil))) aNil))) (sSeq (sSet 6 (eCall F_l_next (aCons (eVar 0) (aCons (eCB (c1 oLen) (aCons (eVar 1) aNil)) aNil)))) (sSeq (sSet 7 (eOp oIx (eLst (aCons (eC (.int 256)) (aCons (eUn oNeg (eC (.int 1))) (aCons (eC (.bl true)) (aCons (eC (.bl false)) (aCons (eC .non) (aCons (eC (dS "a")) (aCons (eTup (aCons (eC (.int 1)) aNil)) (aCons (eOp oPow (eC (.int 10)) (eC (.int 9))) aNil))))))))) (eCall F_l_next (aCons (eVar 0) (aCons (eC (.int 8)) aNil))))) (sSeq (sSet 8 (eOp oAdd (eOp oAdd (eSl oSl (eVar 1) oNo (oSo (eVar 6))) (eTup (aCons (eVar 7) aNil))) (eSl oSl (eVar 1) (oSo (eOp oAdd (eVar 6) (eCall F_l_next (aCons (eVar 0) (aCons (eC (.int 2)) aNil))))) oNo))) (sSeq (sDrop (eBL oAppend (eVar 5) (aCons (eTried cts_WireError rest_l_tried (eCall F_framed (aCons (eVar 8) (aCons (eVar 2) aNil)))) aNil))) (sSeq (sDrop (eBL oAppend (eVar 5) (aCons (eTried cts_WireError rest_l_tried (eCall F_framed (aCons (eVar 8) (aCons (eVar 4) aNil)))) aNil))) (sRet (eOp oEq (eVar 5) (eLst (aCons (eLst (aCons (eC (dS "no")) (aCons (eC (.int 1)) aNil))) (aCons (eLst (aCons (eC (dS "no")) (aCons (eC (.int 1)) aNil))) (aCons (eLst (aCons (eC (dS "no")) (aCons (eC (.int 3)) aNil))) (aCons (eLst (aCons (eC (dS "no")) (aCons (eC (.int 3)) aNil))) (aCons (eLst (aCons (eC (dS "no")) (aCons (eC (.int 1)) aNil))) (aCons (eLst (aCons (eC (dS "no")) (aCons (eC (.int 1)) aNil))) aNil))))))))))))))))))))
/- slots of _law_same_row: 0=_law_found 1=_law_due 2=_law_one -/
noncomputable def F_l_same_row : Fn := mkFn 2 3
  (sSeq (sIf (tOo (tNo (tOf (eCB (c2 (oIsi os_ xs_ tb_)) (aCons (eVar 0) (aCons (eC (.ty "tuple")) aNil))))) (tOf (eOp oNe (eVar 0) (eVar 1)))) (sRet (eC (.bl false))) sNx) (sRet (eOp oEq (eCB (c1 oLen) (aCons (eLc (wSeq (eVar 0)) (gN 2) (tOo (tNo (tOf (eCB (c2 (oIsi os_ xs_ tb_)) (aCons (eVar 2) (aCons (eC (.ty "int")) aNil))))) (tOf (eCB (c2 (oIsi os_ xs_ tb_)) (aCons (eVar 2) (aCons (eC (.ty "bool")) aNil))))) (eVar 2) [2]) aNil)) (eC (.int 0)))))
/- slots of _law_state: 0=_law_cell 1=_law_k 2=_law_drawn -/
noncomputable def F_l_state : Fn := mkFn 2 3
  (sSeq (sSet 2 (eOp oMod (eOp oMul (eOp oAdd (eOp oAdd (eVar 0) (eOp oMul (eC (.int 7919)) (eVar 1))) (eC (.int 1))) (eC (.int 48271))) (eC (.int 2147483647)))) (sRet (eLst (aCons (eOp oMul (eVar 0) (eCB (c1 oIntT) (aCons (eOp oGe (eVar 0) (eOp oPow (eC (.int 10)) (eC (.int 18)))) aNil))) (aCons (eOp oMod (eOp oAdd (eOp oAdd (eOp oMul (eVar 2) (eVar 2)) (eOp oMul (eC (.int 7)) (eVar 2))) (eVar 1)) (eC (.int 2147483629))) aNil)))))
/- slots of _law_too_long: 0=_law_data_here 1=_law_code_here 2=_law_reader 3=_law_told -/
noncomputable def F_l_too_long : Fn := mkFn 2 4
  (sSeq (sSet 2 (eMake "Reader" F_Reader___init__ (aCons (eVar 1) aNil))) (sSeq (sSet 3 (eMeth "take" [("Reader", F_Reader_take)] (eVar 2) (aCons (eCall F_l_framed (aCons (eOp oAdd (eVar 0) (eTup (aCons (eC (.int 1)) aNil))) (aCons (eVar 1) aNil))) aNil))) (sRet (eAnd (eOp oEq (eVar 3) (eLst aNil)) (eOp oEq (eMeth "take" [("Reader", F_Reader_take)] (eVar 2) (aCons (eCall F_l_framed (aCons (eVar 0) (aCons (eVar 1) aNil))) aNil)) (eLst (aCons (eVar 0) aNil)))))))
/- slots of law: 0=_law_script 1=_law_k 2=_law_cell 3=_law_state_here 4=_law_code_here 5=_law_data_here 6=_law_byte 7=_law_more -/
noncomputable def F_law : Fn := mkFn 1 8
  (sSeq (sFor (wOf wkEA (eOp oAddS (eVar 0) (eLst (aCons (eC (.int 0)) aNil)))) (gT [(gN 1), (gN 2)]) (sSeq (sSet 3 (eCall0 F_l_state (aCons (eVar 2) (aCons (eOp oAdd (eC (.int 1)) (eVar 1)) aNil)))) (sSeq (sSet 4 (eCall0 F_l_code (aCons (eVar 3) aNil))) (sSeq (sSet 5 (eCall0 F_l_data (aCons (eVar 3) (aCons (eC (.int 7)) aNil)))) (sSeq (sIf (tAn (tOf (eOp oEq (eCall0 F_l_next (aCons (eVar 3) (aCons (eC (.int 16)) aNil))) (eC (.int 7)))) (tOf (eOp oEq (eVar 1) (eC (.int 0))))) (sSeq (sSet 5 (eOp oAdd (eVar 5) (eOp oMul (eTup (aCons (eC (.int 170)) aNil)) (eOp oSub (eC (.int 1000)) (eCB (c1 oLen) (aCons (eVar 5) aNil)))))) (sIf (tNo (tOf (eCall0 F_l_too_long (aCons (eVar 5) (aCons (eVar 4) aNil))))) (sRet (eC (.bl false))) sNx)) (sIf (tAn (tOf (eOp oEq (eVar 1) (eC (.int 0)))) (tOf (eOp oEq (eCall0 F_l_next (aCons (eVar 3) (aCons (eC (.int 8)) aNil))) (eC (.int 0))))) (sSeq (sSet 6 (eCall0 F_l_next (aCons (eVar 3) (aCons (eC (.int 256)) aNil)))) (sSeq (sSet 7 (eOp oIx (eLst (aCons (eC (.int 90)) (aCons (eC (.int 90)) (aCons (eC (.int 990)) aNil)))) (eCall0 F_l_next (aCons (eVar 3) (aCons (eC (.int 3)) aNil))))) (sSet 5 (eOp oAdd (eVar 5) (eOp oMul (eTup (aCons (eVar 6) aNil)) (eCall0 F_l_next (aCons (eVar 3) (aCons (eVar 7) aNil)))))))) sNx)) (sSeq (sIf (tNo (tOf (eCall0 F_l_same_row (aCons (eCall0 F_framed (aCons (eVar 5) (aCons (eVar 4) aNil))) (aCons (eCall0 F_l_framed (aCons (eVar 5) (aCons (eVar 4) aNil))) aNil))))) (sRet (eC (.bl false))) sNx) (sIf (tOo (tNo (tOf (eCall0 F_l_refused (aCons (eVar 3) (aCons (eVar 5) (aCons (eVar 4) aNil)))))) (tNo (tOf (eCall0 F_l_read_on (aCons (eVar 3) (aCons (eVar 5) (aCons (eVar 4) aNil))))))) (sRet (eC (.bl false))) sNx))))))) (sRet (eC (.bl true))))
end Kk
namespace Kk
open PySem L2 SM
local macro_rules
  | `(tactic| simp_arith [$xs,*] $[$loc]?) => `(tactic| simp (disch := (first | omega | assumption | (simp only [List.length_set, List.length_append, List.length_cons, List.length_nil, List.length_map, List.length_take, List.length_drop, List.length_reverse, List.length_replicate, List.length_range] <;> omega) | (intro; omega) | (simp only [List.all_cons, List.all_nil, z4v, z57, Option.isSome_some, Bool.and_true, Bool.and_self]; done) | decide)) only [z63, z46, z72, z3x, z3f, z3y, z8b, z2y, z0l, z6i, z3k, z6m, z59, eC_, zb7, z9n, z8z, z6q, z9l, z74, z3o, c1_, c2_, c3_, z7q, z6r, z8f, z9p, z7u, z9y, zaj, zb5, za1, zb1, za2, zb2, z7w, z7b, z08, z6x, zbb, z5e, zap, zae, z8s, zb0, z6l, z4c, z6h, z5k, z1p, za8, z9k, zb8, z31, z73, z4f, z5d, z3t, z75, z7x, z6d, zak, z92, z2i, z7t, gN_, z61, z26, z1e, z94, z76, z7o, z7i, z88, z53, z5o, z3h, z1g, z98, z9c, z8p, z6w, z56, z6u, z50, z65, z5j, z6s, z6n, z54, z4y, z8m, z85, z7a, z7f, z78, z3a, z3b, z4g, z6p, z5c, z7j, z79, z47, z3l, z83, z99, z4p, z0i, z5q, z1o, z1n, z0x, z1t, z0p, z14, z12, z1x, z10, z1j, z0a, z0q, z0m, z1m, z0d, z19, z03, z0f, z13, z0o, z0s, z06, z1c, z0h, z07, z0j, z0w, z01, z0v, z0n, z05, z17, z22, z2o, z25, z5p, z5t, z2d, z48, z8j, z1v, z8n, za5, z2j, z3e, z2x, z0r, z34, z1d, z62, z3d, z6y, z3g, z3v, z28, z7k, z44, z4o, z5m, z60, z1h, z4n, z42, zaf, z8c, z77, z8g, z4h, za3, z8o, z9o, z4t, z36, z30, zaa, zai, z9t, z4j, z3m, z4x, z3q, z1y, z8y, z9q, z9u, z5h, z43, z8i, zau, z41, z9x, z1w, za0, z2b, z9z, z2f, z2t, z16, z9i, z9j, zac, z5v, z27, zb6, z8t, z35, z4s, zaz, z7d, z4b, z32, z1b, z6k, zba, z2z, z0e, zaq, z1k, z0g, zav, z0k, zam, z2c, z4r, zar, z9r, zag, z5l, z9g, zb3, z9e, z3r, zbc, z39, zaw, z7c, zah, z7s, zal, z5y, zay, z5w, z3s, z00, z0b, z9m, z40, z8r, zab, z7m, z2u, z11, z7h, z7l, z95, z2n, z1a, z2w, z64, z87, z7p, z8h, z86, z8w, z5x, z91, z80, z8q, z8e, z2a, z1q, z2h, z7v, z8u, z3w, z1f, z5b, z4e, za9, z89, z4a, z57, z5r, z4v, za4, z9w, z8l, z2p, z7e, z20, z2s, z0u, z18, z09, z02, z2m, z1l, z24, z0y, z2q, z0z, z93, z6g, z4z, z6v, z0c, z04, c4_, z4u, za6, z5s, z33, z38, z6c, z4m, z2v, z1z, z9d, z3z, z7g, z8x, z2l, z70, z67, z4q, z3p, z21, z55, z3n, z3u, z2k, z23, z9v, z58, z4i, z49, z2r, z97, z5g, z5z, z6b, z6t, z37, z2e, z5u, z5n, z4d, z4w, z6e, z6j, z9h, z9b, z81, za7, z1s, z90, z68, z4l, z3i, zb4, zan, z5f, z8d, z6z, z8k, z52, z6f, z5i, z5a, z69, z45, z6a, z3j, z7r, z8v, z7z, z8a, zax, z3c, z9s, z0t, zas, z6o, z66, zao, z2g, z96, zb9, z9f, z1r, z82, z1i, z51, z71, z4k, z29, z7n, z9a, zad, z15, z7y, z84, z1u, zat, List.all_cons, List.all_nil, Bool.and_true, if_pos, if_neg, if_true, if_false, ite_true, ite_false, Bool.false_eq_true, Bool.true_eq_false, Bool.not_true, Bool.not_false, Bool.not_eq_true', decide_eq_true_eq, decide_eq_false_iff_not, Bool.not_eq_true, decide_true, decide_false, List.length_cons, List.length_nil, List.map_cons, List.map_nil, List.cons_append, List.nil_append, List.length_map, rep_nS, rep_n0, List.append_nil, List.mem_cons, List.mem_singleton, List.not_mem_nil, or_false, false_or, true_or, or_true, and_true, true_and, and_false, false_and, Option.isSome_some, Option.isSome_none, Option.isNone_none, Option.isNone_some, String.reduceEq, String.reduceNe, Nat.reduceAdd, Nat.reduceSub, Nat.reduceLT, Nat.reduceLeDiff, Nat.reduceMul, Int.reduceAdd, Int.reduceSub, Int.reduceMul, Int.reduceLT, Int.reduceLE, Int.reduceGT, Int.reduceEq, Int.reduceToNat, Int.reducePow, Int.reduceNeg, Nat.reduceEqDiff, eq_self, eq_self_iff_true, not_true_eq_false, not_false_eq_true, List.getElem?_cons_zero, List.getElem?_cons_succ, Option.bind_some, ne_eq, reduceCtorEq, Int.reduceDiv, Int.reduceMod, Bool.and_self, reduceIte, $xs,*] $[$loc]?)
local macro_rules
  | `(tactic| walk_at "fr!") => `(tactic| (repeat (first | exact Fr.refl | assumption | refine Fr.then_push ?_ | refine Fr.then_set ?_ (by first | exact Or.inr (Nat.le_refl _) | exact Or.inr (by omega) | (refine Or.inl ?_; simp; done) | (refine Or.inr ?_; simp; done)))))
/-! draws by two numbers (k20 k23) -/
def Drw (A : Hs) (i : Nat) : Prop := ∃ a b : Int, A[i]? = some (.lst [.int a, .int b])
theorem Drw.frame {A A1 : Hs} {i : Nat} {s : List Nat} (h : Drw A i) (f : Fr s A A1) (hi : i ∉ s) : Drw A1 i := by
  obtain ⟨a, b, h⟩ := h
  exact ⟨a, b, f.get h hi⟩
theorem Drw.lt {A : Hs} {i : Nat} (h : Drw A i) : i < A.length := by
  obtain ⟨a, b, h⟩ := h
  exact lt_of_get h
theorem Drw.pushed {A : Hs} {i : Nat} {x : O} (d : Drw A i) : Drw (A ++ [x]) i := d.frame (s := []) .push (by simp)
theorem state_ok {p q : Int} {A : Hs} : Rk (F_l_state [.int p, .int q] A) fun v A1 => v = .ref A.length ∧ Drw A1 A.length ∧ Fr [] A A1 := by
  unfold F_l_state
  simp_arith []
  exact ⟨⟨_, _, zab⟩, .push⟩
theorem next_ok {A : Hs} {i : Nat} {n : Int} (h : Drw A i) (hn : 0 < n) (hn2 : n < 18446744073709551616) : ∃ v A1, 0 ≤ v ∧ v < n ∧ F_l_next [.ref i, .int n] A = .ok (.int v) A1 ∧ Drw A1 i ∧ Fr [i] A A1 := by
  obtain ⟨a, b, h⟩ := h
  have hi := lt_of_get h
  unfold F_l_next
  by_cases q : 0 < a
  · refine ⟨a % n, A.set i (.lst [.int (a / n), .int b]), Int.emod_nonneg _ (by omega), Int.emod_lt_of_pos _ hn, ?_, ⟨_, _, z9m hi⟩, .set (by simp)⟩
    simp_arith [h, q, List.set_cons_zero]
  · obtain ⟨y, hy⟩ : ∃ y, y = (b * 69621 + 11) % 2147483629 := ⟨_, rfl⟩
    refine ⟨((y * y % 2147483587 * 40692 + y) % 2147483399) / 7 % n, A.set i (.lst [.int a, .int y]), Int.emod_nonneg _ (by omega), Int.emod_lt_of_pos _ hn, ?_, ⟨_, _, z9m hi⟩, .set (by simp)⟩
    simp_arith [h, q, List.set_cons_zero, List.set_cons_succ, ← hy]
theorem pick_i {ns : List Int} {v : Int} (h0 : 0 ≤ v) (h1 : v < ns.length) : ∃ x ∈ ns, atI (ns.map D.int) v = some (.int x) := by
  have : v.toNat < ns.length := by omega
  refine ⟨ns[v.toNat], List.getElem_mem this, ?_⟩
  rw [z64 h0, List.getElem?_map, List.getElem?_eq_getElem this]; rfl
theorem pick_d {ns : List D} {v : Int} (h0 : 0 ≤ v) (h1 : v < ns.length) : ∃ x ∈ ns, atI ns v = some x := by
  have : v.toNat < ns.length := by omega
  refine ⟨ns[v.toNat], List.getElem_mem this, ?_⟩
  rw [z64 h0, List.getElem?_eq_getElem this]

/-! texts of one-sign letters -/
theorem st1_dS {o : Str → D → Hs → RE D} {s : String} {b : E} {env : Sl} {A : Hs} : eSt1 o (eC (dS s)) b env A = (b env A).bind fun y A2 => o (fS s) y A2 := rfl
theorem wkA_str {z : Str} {A : Hs} : wkA A (.str z) = some ⟨signsOf z, tt⟩ := rfl
def sg (c : Nat) : D := .str ⟨#[c]⟩
theorem strs_sg : ∀ cs : List Nat, strsOf (cs.map sg) = some (cs.map fun c => (⟨#[c]⟩ : Str))
  | [] => rfl
  | c :: cs => by rw [List.map_cons]; show (strsOf (cs.map sg)).map _ = _; rw [strs_sg cs]; rfl
theorem join_sg : ∀ cs : List Nat, Txt.join (fS "") (cs.map fun c => (⟨#[c]⟩ : Str)) = ⟨cs.toArray⟩ := by
  intro cs
  cases cs with
  | nil => rfl
  | cons c cs =>
    have key : ∀ (cs : List Nat) (acc : Array Nat), (cs.map fun c => (⟨#[c]⟩ : Str)).foldl (fun acc p => acc ++ (fS "").cps ++ p.cps) acc = acc ++ cs.toArray := by
      intro cs
      induction cs with
      | nil => intro acc; simp
      | cons c cs ih =>
        intro acc
        rw [List.map_cons, List.foldl_cons, ih]
        have : (fS "").cps = #[] := rfl
        rw [this]
        simp
    have h2 := key cs #[c]
    show (⟨_⟩ : Str) = _
    have h3 : (((c :: cs).map fun c => (⟨#[c]⟩ : Str)).drop 1).foldl (fun acc p => acc ++ (fS "").cps ++ p.cps) ((((c :: cs).map fun c => (⟨#[c]⟩ : Str)).headD Str.empty).cps) = (c :: cs).toArray := by
      rw [List.map_cons, List.drop_succ_cons, List.drop_zero]
      show (cs.map fun c => (⟨#[c]⟩ : Str)).foldl (fun acc p => acc ++ (fS "").cps ++ p.cps) #[c] = _
      rw [h2]; simp
    exact congrArg Str.mk h3

theorem oShr_i {i j : Int} {A : Hs} (h : 0 ≤ j) : oShr (.int i) (.int j) A = .ok (.int (i / 2 ^ j.toNat)) A := by
  unfold oShr oII; simp only; rw [if_pos h]
theorem oAnd_i {i j : Int} {A : Hs} : oAnd (.int i) (.int j) A = .ok (.int (Builtin.bitAnd i j)) A := rfl
theorem oOr_i {i j : Int} {A : Hs} : oOr (.int i) (.int j) A = .ok (.int (Builtin.bitOr i j)) A := rfl

/-! stuffing, on bits and on signs -/
open DL (Bits)
open PySem.StrLaws (replL replL_nil replL_hit replL_miss)
def st : Nat → List Int → List Int
  | _, [] => []
  | n, b :: r => if b = 1 then (if n = 4 then 1 :: 0 :: st 0 r else 1 :: st (n + 1) r) else b :: st 0 r
def pl : Nat → List Int → Option (List Int)
  | n, [] => if n = 5 then none else some []
  | n, b :: r => if n = 5 then (if b = 1 then none else pl 0 r) else (pl (if b = 1 then n + 1 else 0) r).map (b :: ·)
theorem btl {b : Int} {l : List Int} (h : Bits (b :: l)) : Bits l := fun x hx => h x (List.mem_cons_of_mem _ hx)
theorem bhd {b : Int} {l : List Int} (h : Bits (b :: l)) : b = 0 ∨ b = 1 := h b List.mem_cons_self
theorem pl_st : ∀ {l : List Int}, Bits l → ∀ n, n ≤ 4 → pl n (st n l) = some l
  | [], _, n, hn => by
    unfold st pl
    rw [if_neg (by omega)]
  | b :: r, h, n, hn => by
    have ih := pl_st (btl h)
    rcases (bhd h) with rfl | rfl
    · rw [st, if_neg (by decide), pl, if_neg (by omega), if_neg (by decide), ih 0 (by omega)]; rfl
    · rw [st, if_pos rfl]
      by_cases c : n = 4
      · subst c
        rw [if_pos rfl, pl, if_neg (by decide), if_pos rfl, pl, if_pos rfl, if_neg (by decide), ih 0 (by omega)]; rfl
      · rw [if_neg c, pl, if_neg (by omega), if_pos rfl, ih (n + 1) (by omega)]; rfl
theorem st_pl : ∀ {l : List Int}, Bits l → ∀ n r, pl n l = some r → (n ≤ 4 → st n r = l) ∧ (n = 5 → ∃ l', l = 0 :: l' ∧ st 0 r = l')
  | [], _, n, r, e => by
    unfold pl at e
    by_cases c : n = 5
    · rw [if_pos c] at e; cases e
    · rw [if_neg c] at e; cases e
      exact ⟨fun _ => rfl, fun z => absurd z c⟩
  | b :: l, h, n, r, e => by
    have ih := st_pl (btl h)
    rw [pl] at e
    by_cases c : n = 5
    · rw [if_pos c] at e
      rcases (bhd h) with rfl | rfl
      · rw [if_neg (by decide)] at e
        exact ⟨fun z => by omega, fun _ => ⟨l, rfl, (ih 0 r e).1 (by omega)⟩⟩
      · rw [if_pos rfl] at e; cases e
    · rw [if_neg c] at e
      obtain ⟨r', hr, rfl⟩ := Option.map_eq_some_iff.mp e
      refine ⟨fun hn => ?_, fun z => absurd z c⟩
      rcases (bhd h) with rfl | rfl
      · rw [if_neg (by decide)] at hr
        show st n (0 :: r') = _
        rw [st, if_neg (by decide), (ih 0 r' hr).1 (by omega)]
      · rw [if_pos rfl] at hr
        show st n (1 :: r') = _
        rw [st, if_pos rfl]
        by_cases c4 : n = 4
        · subst c4
          obtain ⟨l', e1, e2⟩ := (ih 5 r' hr).2 rfl
          rw [if_pos rfl, e1, e2]
        · rw [if_neg c4, (ih (n + 1) r' hr).1 (by omega)]
theorem pl_iff {l r : List Int} (h : Bits l) : pl 0 l = some r ↔ st 0 r = l ∧ Bits r := by
  refine ⟨fun e => ⟨(st_pl h 0 r e).1 (by omega), ?_⟩, fun ⟨e, hr⟩ => by rw [← e]; exact pl_st hr 0 (by omega)⟩
  have key : ∀ {l : List Int}, Bits l → ∀ n r, pl n l = some r → Bits r := by
    intro l
    induction l with
    | nil =>
      intro _ n r e
      unfold pl at e
      split at e
      · cases e
      · cases e; exact DL.Bits.nil
    | cons b l ih =>
      intro h n r e
      rw [pl] at e
      split at e
      · split at e
        · cases e
        · exact ih (btl h) 0 r e
      · obtain ⟨r', hr, rfl⟩ := Option.map_eq_some_iff.mp e
        exact fun x hx => (List.mem_cons.mp hx).elim (fun q => q ▸ (bhd h)) (ih (btl h) _ r' hr x)
  exact key h 0 r e
theorem st_bits : ∀ {l : List Int}, Bits l → ∀ n, Bits (st n l)
  | [], _, n => DL.Bits.nil
  | b :: r, h, n => by
    have ih := st_bits (btl h)
    have c1 : ∀ {x : Int} {l : List Int}, (x = 0 ∨ x = 1) → Bits l → Bits (x :: l) := fun hx hl y hy => (List.mem_cons.mp hy).elim (fun q => q ▸ hx) (hl y)
    rw [st]
    split
    · split
      · exact c1 (.inr rfl) (c1 (.inl rfl) (ih 0))
      · exact c1 (.inr rfl) (ih _)
    · exact c1 (bhd h) (ih 0)
theorem st_len : ∀ (l : List Int) (n : Nat), (st n l).length ≤ 2 * l.length
  | [], n => Nat.le_refl _
  | b :: r, n => by
    rw [st]
    split
    · split
      · have := st_len r 0; simp only [List.length_cons]; omega
      · have := st_len r (n + 1); simp only [List.length_cons]; omega
    · have := st_len r 0; simp only [List.length_cons]; omega
/-- signs -/
def cps (l : List Int) : List Nat := l.map fun b => (48 + b).toNat
theorem repl_st : ∀ {l : List Int}, Bits l → ∀ n, n ≤ 4 → replL [49, 49, 49, 49, 49] [49, 49, 49, 49, 49, 48] (List.replicate n 49 ++ cps l) = List.replicate n 49 ++ cps (st n l)
  | [], _, n, hn => by
    rcases (by omega : n = 0 ∨ n = 1 ∨ n = 2 ∨ n = 3 ∨ n = 4) with rfl | rfl | rfl | rfl | rfl <;> decide
  | b :: r, h, n, hn => by
    have ih := repl_st (btl h)
    rcases (bhd h) with rfl | rfl
    · have h0 := ih 0 (by omega)
      simp only [List.replicate_zero, List.nil_append] at h0
      have e : cps (0 :: r) = 48 :: cps r := rfl
      have e2 : cps (st n (0 :: r)) = 48 :: cps (st 0 r) := by rw [st, if_neg (by decide)]; rfl
      rw [e, e2]
      rcases (by omega : n = 0 ∨ n = 1 ∨ n = 2 ∨ n = 3 ∨ n = 4) with rfl | rfl | rfl | rfl | rfl <;>
        simp only [List.replicate_succ, List.replicate_zero, List.nil_append, List.cons_append] <;>
        (repeat rw [replL_miss (by simp [List.take])]) <;> rw [h0]
    · by_cases c : n = 4
      · subst c
        have h0 := ih 0 (by omega)
        simp only [List.replicate_zero, List.nil_append] at h0
        have e : List.replicate 4 49 ++ cps (1 :: r) = 49 :: (49 :: 49 :: 49 :: 49 :: cps r) := rfl
        have e2 : cps (st 4 (1 :: r)) = 49 :: 48 :: cps (st 0 r) := by rw [st, if_pos rfl, if_pos rfl]; rfl
        rw [e, e2, replL_hit (by decide) (by simp)]
        simp only [List.length_cons, List.length_nil, List.drop_succ_cons, List.drop_zero]
        rw [h0]; rfl
      · have h1 := ih (n + 1) (by omega)
        have e2 : cps (st n (1 :: r)) = 49 :: cps (st (n + 1) r) := by rw [st, if_pos rfl, if_neg c]; rfl
        have e3 : ∀ X : List Nat, List.replicate (n + 1) 49 ++ X = List.replicate n 49 ++ 49 :: X := fun X => by
          rw [List.replicate_succ', List.append_assoc]; rfl
        rw [e3, e3] at h1
        rw [e2]
        exact h1
def rw_ (l : List Int) : D := .tup (l.map D.int)
/-! the law's own stuffing, by texts -/
open DL (Bits)
open PySem.StrLaws (replL replL_nil replL_hit replL_miss)
theorem oJoin_sg' {A : Hs} {i : Nat} {cs : List Nat} (h : A[i]? = some (.lst (cs.map sg))) (hl : cs.length ≤ 1000000) : oJoin (fS "") (.ref i) A = .ok (.str ⟨cs.toArray⟩) A := by
  unfold oJoin seqA
  rw [seqL_ref h]
  simp only [Option.bind_some, strs_sg]
  rw [join_sg, if_pos]
  have e : ((cs.map fun c => (⟨#[c]⟩ : Str)).map (·.length)).sum = cs.length := by
    clear h hl
    induction cs with
    | nil => rfl
    | cons c cs ih =>
      rw [List.map_cons, List.map_cons, List.sum_cons, ih, List.length_cons]
      show 1 + cs.length = _
      omega
  rw [e, List.length_map]
  show cs.length + cs.length * 0 ≤ 16777216
  omega
theorem i48 : PySem.intText? ⟨#[48]⟩ = some 0 := by decide +kernel
theorem i49 : PySem.intText? ⟨#[49]⟩ = some 1 := by decide +kernel
theorem rpl_cs {y z : Str} {cs : List Nat} {A : Hs} (hy : 1 ≤ y.length) (hz : z.length ≤ 6) (hl : cs.length ≤ 1000000) : rpl y z A (.str ⟨cs.toArray⟩) = .ok (.str ⟨(replL y.cps.toList z.cps.toList cs).toArray⟩) A := by
  have h1 : (⟨cs.toArray⟩ : Str).length = cs.length := rfl
  have e := PySem.StrLaws.replace_list (x := ⟨cs.toArray⟩) (z := z) hy
  have e2 : (Txt.replace ⟨cs.toArray⟩ y z) = (⟨(replL y.cps.toList z.cps.toList cs).toArray⟩ : Str) := by
    have : (Txt.replace ⟨cs.toArray⟩ y z).cps = (replL y.cps.toList z.cps.toList cs).toArray := by
      rw [← Array.toArray_toList (xs := (Txt.replace ⟨cs.toArray⟩ y z).cps), e]
    cases hq : Txt.replace ⟨cs.toArray⟩ y z with
    | mk a => rw [hq] at this; exact congrArg Str.mk this
  rw [← e2]
  refine if_pos ?_
  rw [h1]
  have : (cs.length + 1) * z.length ≤ (cs.length + 1) * 6 := Nat.mul_le_mul_left _ hz
  omega
def sgn (d : D) : D := match d with | .int i => .str ⟨#[(48 + i).toNat]⟩ | d => d
def itn (d : D) : D := match d with | .str z => .int ((z.cps.toList.headD 0 : Nat) - 48) | d => d
theorem str_bits {l : List Int} (h : Bits l) : (l.map D.int).map sgn = (cps l).map sg := by
  unfold cps
  rw [List.map_map, List.map_map]
  rfl
theorem int_cps {l : List Int} (h : Bits l) : ((cps l).map sg).map itn = l.map D.int := by
  unfold cps
  rw [List.map_map, List.map_map]
  refine List.map_congr_left fun b hb => ?_
  rcases h b hb with rfl | rfl <;> rfl
theorem oStr_bit {b : Int} {A : Hs} (h : b = 0 ∨ b = 1) : oStr (.int b) A = .ok (.str ⟨#[(48 + b).toNat]⟩) A := by
  rcases h with rfl | rfl <;> rfl
theorem oIntT_bit {b : Int} {A : Hs} (h : b = 0 ∨ b = 1) : oIntT (.str ⟨#[(48 + b).toNat]⟩) A = .ok (.int b) A := by
  rcases h with rfl | rfl
  · unfold oIntT
    show (if (1 : Nat) ≤ 640 then match PySem.intText? ⟨#[48]⟩ with | some n => RE.ok (D.int n) A | none => .stuck else .stuck) = _
    rw [if_pos (by decide), i48]
  · unfold oIntT
    show (if (1 : Nat) ≤ 640 then match PySem.intText? ⟨#[49]⟩ with | some n => RE.ok (D.int n) A | none => .stuck else .stuck) = _
    rw [if_pos (by decide), i49]
theorem signs_cs {cs : List Nat} : signsOf ⟨cs.toArray⟩ = cs.map sg := rfl
theorem cps_len {l : List Int} : (cps l).length = l.length := List.length_map _
theorem l_stuffed_ok {l : List Int} {A : Hs} (h : Bits l) (hl : l.length ≤ 100000) : ∃ A1, F_l_stuffed [rw_ l] A = .ok (rw_ (st 0 l)) A1 ∧ Fr [] A A1 := by
  suffices H : Rk (F_l_stuffed [rw_ l] A) fun v A1 => v = rw_ (st 0 l) ∧ Fr [] A A1 by
    obtain ⟨_, A1, e, rfl, f⟩ := H.ex; exact ⟨A1, e, f⟩
  have hs := st_bits h 0
  have hsl := st_len l 0
  unfold F_l_stuffed rw_
  simp_arith [st1_dS]
  rw [lc_go (fun _ => true) sgn trivial (by rw [List.length_map]; omega)]
  rotate_left
  · intro d hd
    obtain ⟨b, hb, rfl⟩ := List.mem_map.mp hd
    have e := fun A => oStr_bit (A := A) (h b hb)
    show Got _ _
    simp_arith [e]
    first | exact fun _ => rfl | exact fun _ => trivial
  rw [List.filter_eq_self.mpr (by simp), str_bits h]
  have e1 := oJoin_sg' (A := A ++ [.lst ((cps l).map sg)]) (i := A.length) (cs := cps l) zab (by rw [cps_len]; omega)
  have e2 := rpl_cs (y := fS "11111") (z := fS "111110") (A := A ++ [.lst ((cps l).map sg)]) (cs := cps l) (by decide) (by decide) (by rw [cps_len]; omega)
  have e3 := repl_st h 0 (by omega)
  simp only [List.replicate_zero, List.nil_append] at e3
  have e4 : replL (fS "11111").cps.toList (fS "111110").cps.toList (cps l) = cps (st 0 l) := e3
  rw [e4] at e2
  simp_arith [e1, e2, wkA_str, signs_cs]
  rw [lc_go (fun _ => true) itn trivial (by rw [List.length_map, cps_len]; omega)]
  rotate_left
  · intro d hd
    obtain ⟨b', hb', rfl⟩ := List.mem_map.mp hd
    obtain ⟨b, hb, rfl⟩ := List.mem_map.mp hb'
    have e := fun A => oIntT_bit (A := A) (hs b hb)
    unfold sg
    show Got _ _
    simp_arith [e]
    intro _
    rcases hs b hb with rfl | rfl <;> rfl
  rw [List.filter_eq_self.mpr (by simp), int_cps hs]
  simp_arith []
  walk_at "fr!"

/-! bits and codes, with wide bounds -/
open DL (bl dv Mu Bits gath gathA bitsN gN)
theorem oBits_n {n : Nat} {A : Hs} : oBits (.int (n : Int)) A = .ok (.int (bl n : Nat)) A := by
  show RE.ok (D.int ((Builtin.Int.intBits (n : Int) : Nat) : Int)) A = _
  rw [DL.intBits_bl]
theorem oXor_n {x y : Nat} {A : Hs} : oXor (.int (x : Int)) (.int (y : Int)) A = .ok (.int ((x ^^^ y : Nat) : Int)) A := by
  unfold oXor oII
  simp only
  rw [Bits.bitXor_pp (by omega) (by omega), Int.toNat_natCast, Int.toNat_natCast]
theorem oShl_n {x k : Nat} {A : Hs} (h : bl x + k ≤ 100000) : oShl (.int (x : Int)) (.int (k : Int)) A = .ok (.int ((x <<< k : Nat) : Int)) A := by
  unfold oShl oII
  simp only
  have : CShl (x : Int) (k : Int) := by
    unfold CShl
    rw [DL.intBits_bl]
    omega
  rw [if_pos this]
  simp only [Int.toNat_natCast, Nat.shiftLeft_eq, Int.natCast_mul, Int.natCast_pow]
  rfl
theorem oShl_1 {x : Nat} {A : Hs} (h : bl x ≤ 90000) : oShl (.int (x : Int)) (.int 1) A = .ok (.int ((x <<< 1 : Nat) : Int)) A := oShl_n (k := 1) (by omega)
theorem divided_ok {c n : Nat} {A : Hs} (hc : c ≠ 0) (hn : bl n ≤ 90000) (hb : bl c ≤ 1000) : F_divided [.int (n : Int), .int (c : Int)] A = .ok (.int (dv c n : Nat)) A := by
  unfold F_divided
  simp_arith [oBits_n]
  refine wh_go (fun k e B => ∃ x : Nat, k = bl x ∧ B = A ∧ e = [some (.int (x : Int)), some (.int (c : Int)), some (.int ((bl c : Nat) : Int))] ∧ dv c x = dv c n ∧ bl x ≤ 90000) (fun rs => finR (seqR rs _) = _) ⟨n, rfl, rfl, rfl, rfl, hn⟩ ?_
  rintro k e B ⟨x, rfl, rfl, rfl, hx, hx2⟩
  by_cases q : bl c ≤ bl x
  · have q1 : ((bl c : Nat) : Int) ≤ ((bl x : Nat) : Int) := by omega
    have q2 : ((bl x : Nat) : Int) - ((bl c : Nat) : Int) = ((bl x - bl c : Nat) : Int) := by omega
    simp_arith [oBits_n, q1, q2, oShl_n (x := c) (k := bl x - bl c) (by omega), oXor_n]
    have lt := DL.step_lt hc q
    refine ⟨_, lt, _, rfl, rfl, ?_, by omega⟩
    rw [DL.dv_xor hc, DL.dv_zero hc (Mu.one _), Nat.xor_zero, hx]
  · have q1 : ¬ ((bl c : Nat) : Int) ≤ ((bl x : Nat) : Int) := by omega
    simp_arith [oBits_n, q1]
    rw [← hx, DL.dv_small hc (by omega)]
structure Cn (c : Nat) : Prop where
  lo : 3 ≤ c
  hi : c ≤ 131071
  od : c % 2 = 1
theorem Cn.bl {c : Nat} (h : Cn c) : bl c ≤ 17 := DL.bl_le.mpr (by have := h.hi; omega)
theorem bl_two {c : Nat} (h : 3 ≤ c) : 2 ≤ bl c := by
  have := DL.bl_lt (n := c) (m := 2)
  rcases Nat.lt_or_ge (bl c) 2 with q | q
  · have := this.mp q
    omega
  · exact q
theorem need_code_ok {c : Nat} {A : Hs} (h : Cn c) : F_need_code [.int (c : Int)] A = .ok .non A := by
  have a : (3 : Int) ≤ (c : Int) := by have := h.lo; omega
  have b : (c : Int) ≤ 131071 := by have := h.hi; omega
  have d : ¬ (c : Int) % 2 = 0 := by have := h.od; omega
  unfold F_need_code
  simp_arith [a, b, d]
theorem is_whole_ok {p lo hi : Int} {A : Hs} : F_is_whole [.int p, .int lo, .int hi] A = .ok (.bl (decide (lo ≤ p) && decide (p ≤ hi))) A := by
  unfold F_is_whole
  by_cases h : lo ≤ p
  · simp_arith [h, Bool.true_and]
  · simp_arith [h, Bool.false_and]
theorem is_bits_ok {l : List Int} {A : Hs} (h : Bits l) (hl : l.length ≤ 100000) : ∃ A1, F_is_bits [rw_ l] A = .ok (.bl true) A1 ∧ Fr [] A A1 := by
  refine ⟨A ++ [.lst ((l.map D.int).map fun _ => .bl true)], ?_, .push⟩
  unfold F_is_bits rw_
  simp_arith []
  rw [lc_go (fun _ => true) (fun _ => .bl true) trivial (by rw [List.length_map]; omega)]
  rotate_left
  · intro d hd
    obtain ⟨b, hb, rfl⟩ := List.mem_map.mp hd
    have hb' := h b hb
    have a : (0 : Int) ≤ b := by omega
    have c : b ≤ (1 : Int) := by omega
    show Got _ _
    simp_arith [is_whole_ok, a, c]
    first | exact fun _ => rfl | exact fun _ => trivial | trivial
  rw [List.filter_eq_self.mpr (by simp)]
  have e : ((l.map D.int).map fun _ => D.bl true) = (l.map fun _ => true).map D.bl := by rw [List.map_map, List.map_map]; rfl
  have e2 : boolsOf ((l.map D.int).map fun _ => D.bl true) = some (l.map fun _ => true) := by rw [e, z00]
  simp_arith [e2]
  simp
theorem bl_small {n k : Nat} (h : n < 2 ^ k) : bl n ≤ k := DL.bl_le.mpr h
theorem gathered_ok {l : List Int} {A : Hs} (h : Bits l) (hl : l.length ≤ 80000) : F_gathered [rw_ l] A = .ok (.int (gN l : Nat)) A := by
  unfold F_gathered rw_
  simp_arith []
  refine for_go (R := fun rs => finR (seqR rs _) = _) (fun j e B => ∃ o, e = [some (.tup (l.map D.int)), some (.int (gN (l.take j) : Nat)), o] ∧ B = A) ⟨none, by rw [List.take_zero]; rfl, rfl⟩ (fun _ _ _ _ _ => trivial) ?_ ?_
  · rintro j _ _ d hd ⟨o, rfl, rfl⟩
    rw [List.getElem?_map] at hd
    obtain ⟨b, hb, rfl⟩ := Option.map_eq_some_iff.mp hd
    have hbb := h b (List.mem_of_getElem? hb)
    have ht : Bits (l.take j) := fun x hx => h x (List.mem_of_mem_take hx)
    have hlt := DL.gN_lt ht
    have hbl : bl (gN (l.take j)) ≤ 90000 := Nat.le_trans (bl_small hlt) (by rw [List.length_take]; omega)
    have key : Builtin.bitOr ((gN (l.take j) <<< 1 : Nat) : Int) b = ((gN (l.take (j + 1)) : Nat) : Int) := by
      have e1 : l.take (j + 1) = l.take j ++ [b] := by rw [List.take_succ, hb]; rfl
      have ht2 : Bits (l.take j ++ [b]) := ht.append fun x hx => by rw [List.mem_singleton] at hx; rw [hx]; exact hbb
      rw [e1, DL.gN_cast ht2, DL.gath_snoc, ← DL.gN_cast ht]
      have := DL.bitOr_bit (n := ((gN (l.take j) : Nat) : Int)) (by omega) hbb
      rw [← this]
      congr 1
      rw [Nat.shiftLeft_eq, Int.natCast_mul]
      rfl
    simp_arith [oShl_1 (x := gN (l.take j)) hbl, oOr_i, key]
    exact ⟨_, rfl⟩
  · rintro e _ ⟨o, rfl, rfl⟩
    simp_arith []
    rw [List.take_length]
theorem number_by_ok {l : List Int} {A : Hs} (h : Bits l) (hl : l.length ≤ 80000) : ∃ A1, F_number_by [rw_ l] A = .ok (.int (gN l : Nat)) A1 ∧ Fr [] A A1 := by
  obtain ⟨A1, e1, f1⟩ := is_bits_ok (A := A) h (by omega)
  obtain ⟨A2, e2, f2⟩ := is_bits_ok (A := A1) h (by omega)
  have e3 := gathered_ok (A := A2) h hl
  refine ⟨A2, ?_, f1.trans f2⟩
  unfold F_number_by F_number_of
  simp_arith [e1, e2, e3]
theorem width_ok {c : Nat} {A : Hs} (h : Cn c) : F_width [.int (c : Int)] A = .ok (.int ((bl c - 1 : Nat) : Int)) A := by
  have h2 := bl_two h.lo
  have e : ((bl c : Nat) : Int) - 1 = ((bl c - 1 : Nat) : Int) := by omega
  unfold F_width
  simp_arith [need_code_ok h, oBits_n, e]
theorem bitAnd1 {x : Int} : Builtin.bitAnd x 1 = x % 2 := DL.bitAnd1
theorem is_right_ok {c : Nat} {l : List Int} {A : Hs} (hc : Cn c) (h : Bits l) (hl : l.length ≤ 80000) : ∃ A1, F_is_right [rw_ l, .int (c : Int)] A = .ok (.bl (decide (dv c (gN l) = 0))) A1 ∧ Fr [] A A1 := by
  have lo := hc.lo
  have hb := hc.bl
  obtain ⟨A1, e1, f1⟩ := number_by_ok (A := A) h (by omega)
  have dk := divided_ok (A := A1) (c := c) (n := gN l) (by omega) (Nat.le_trans (bl_small (DL.gN_lt h)) (by omega)) (by omega)
  refine ⟨A1, ?_, f1⟩
  have e : decide (((dv c (gN l) : Nat) : Int) = 0) = decide (dv c (gN l) = 0) := decide_eq_decide.mpr (by omega)
  unfold F_is_right
  simp_arith [need_code_ok hc, e1, dk, e]
def cdd (c : Nat) (l : List Int) : List Int := l ++ bitsN ((dv c (gN l <<< (bl c - 1)) : Nat) : Int) (bl c - 1)
theorem cdd_bits {c : Nat} {l : List Int} (h : Bits l) : Bits (cdd c l) := h.append DL.bitsN_bits
theorem cdd_len {c : Nat} {l : List Int} : (cdd c l).length = l.length + (bl c - 1) := by unfold cdd; rw [List.length_append, DL.bitsN_len]
theorem cdd_dv {c : Nat} {l : List Int} (hc : 3 ≤ c) (h : Bits l) : dv c (gN (cdd c l)) = 0 := by
  have c0 : c ≠ 0 := by omega
  have lt := DL.bl_lt.mp (DL.dv_lt c0 (gN l <<< (bl c - 1)))
  unfold cdd
  rw [DL.gN_append h DL.bitsN_bits, DL.bitsN_len, DL.gN_bitsN lt.1, DL.dv_xor c0, DL.dv_small c0 (DL.dv_lt c0 _), Nat.xor_self]

/-! rows compared, the law's plain -/
open DL (bl dv Mu Bits gath gathA bitsN gN)
open PySem.StrLaws (replL replL_nil replL_hit replL_miss)
theorem py_ints {A : Hs} {n : Nat} : ∀ a : List Int, allSome ((a.map D.int).map (pyA A n)) = some (a.map PyData.int)
  | [] => rfl
  | b :: a => by
    rw [List.map_cons, List.map_cons]
    have e : pyA A n (.int b) = some (.int b) := by cases n <;> rfl
    rw [e]
    unfold allSome
    rw [py_ints a]; rfl
theorem eqv_ints : ∀ a b : List Int, PyData.eqvAll (a.map PyData.int) (b.map PyData.int) = decide (a = b)
  | [], [] => by simp [PyData.eqvAll]
  | [], b :: bs => by simp [PyData.eqvAll]
  | a :: as, [] => by simp [PyData.eqvAll]
  | a :: as, b :: bs => by
    rw [List.map_cons, List.map_cons, PyData.eqvAll, eqv_ints as bs, PyData.eqv]
    by_cases c : a = b <;> by_cases d : as = bs <;> simp [c, d]
theorem eqA_rows {a b : List Int} {A : Hs} : eqA A (rw_ a) (rw_ b) = some (decide (a = b)) := by
  unfold eqA rw_
  have e : ∀ a : List Int, pyA A 40 (.tup (a.map D.int)) = some (.tuple (a.map PyData.int)) := fun a => by
    show (allSome ((a.map D.int).map (pyA A 39))).map PyData.tuple = _
    rw [py_ints]; rfl
  rw [e, e]
  simp only [PyData.eqv, eqv_ints]
theorem oEq_rows {a b : List Int} {A : Hs} : oEq (rw_ a) (rw_ b) A = .ok (.bl (decide (a = b))) A := eqA_of eqA_rows
theorem oNe_rows {a b : List Int} {A : Hs} : oNe (rw_ a) (rw_ b) A = .ok (.bl (!decide (a = b))) A := neA_of eqA_rows
def flg : List Int := [0, 1, 1, 1, 1, 1, 1, 0]
theorem oEq_flag {a : List Int} {A : Hs} : oEq (rw_ a) (.wt [.int 0, .int 1, .int 1, .int 1, .int 1, .int 1, .int 1, .int 0]) A = .ok (.bl (decide (a = flg))) A := by
  refine eqA_of ?_
  unfold eqA rw_
  have e : pyA A 40 (.tup (a.map D.int)) = some (.tuple (a.map PyData.int)) := by
    show (allSome ((a.map D.int).map (pyA A 39))).map PyData.tuple = _
    rw [py_ints]; rfl
  have e2 : pyA A 40 (.wt (flg.map D.int)) = some (.tuple (flg.map PyData.int)) := by
    show (allSome ((flg.map D.int).map (pyA A 39))).map PyData.tuple = _
    rw [py_ints]; rfl
  have e3 : (D.wt [.int 0, .int 1, .int 1, .int 1, .int 1, .int 1, .int 1, .int 0]) = .wt (flg.map D.int) := rfl
  rw [e, e3, e2]
  simp only [PyData.eqv, eqv_ints]
def opD : Option (List Int) → D
  | none => .non
  | some r => rw_ r
/-! rows plain, data, rests -/
open DL (bl dv Mu Bits gath gathA bitsN gN dataOf bitsOf Bytes)
theorem need_bits_ok {l : List Int} {A : Hs} (h : Bits l) (hl : l.length ≤ 100000) : ∃ A1, F_need_bits [rw_ l] A = .ok .non A1 ∧ Fr [] A A1 := by
  obtain ⟨A1, e1, f1⟩ := is_bits_ok (A := A) h hl
  refine ⟨A1, ?_, f1⟩
  unfold F_need_bits
  simp_arith [e1]
theorem cut_neg {α : Type} {l : List α} {p : Nat} (hp : 0 < p) : cutD l none (some (-(p : Int))) = l.take (l.length - p) := by
  unfold cutD
  rw [HT.sIx_none]
  have : HT.sIx l.length l.length (some (-(p : Int))) = l.length - p := by
    unfold HT.sIx
    simp only
    split <;> omega
  rw [this]
  simp
theorem plain_ok {l : List Int} {A : Hs} (h : Bits l) (hl : l.length ≤ 50000) : ∃ A1, F_plain [rw_ l] A = .ok (opD (pl 0 l)) A1 ∧ Fr [] A A1 := by
  suffices H : Rk (F_plain [rw_ l] A) fun v A1 => v = opD (pl 0 l) ∧ Fr [] A A1 by
    obtain ⟨_, A1, e, rfl, f⟩ := H.ex; exact ⟨A1, e, f⟩
  obtain ⟨A1, e1, f1⟩ := need_bits_ok (A := A) h (by omega)
  have n1 := f1.le
  unfold rw_ at e1
  unfold F_plain rw_
  simp_arith [e1]
  refine for_go (R := fun rs => Rk (finR (seqR rs _)) _) (fun j e B => ∃ (fnd : List Int) (n : Nat) (o : Option D), e = [some (.tup (l.map D.int)), some (.ref A1.length), some (.int (n : Nat)), o] ∧ B[A1.length]? = some (.lst (fnd.map D.int)) ∧ Fr [] A B ∧ n ≤ 5 ∧ fnd.length ≤ j ∧ pl 0 l = (pl n (l.drop j)).map (fnd ++ ·))
    ⟨[], 0, none, rfl, zab, f1.then_push, by omega, Nat.le_refl _, by rw [List.drop_zero]; simp⟩ (fun _ _ _ _ _ => trivial) ?_ ?_
  · rintro j _ B d hd ⟨fnd, n, o, rfl, hB, fB, hn, hf, hp⟩
    have hj := lt_of_get hd
    rw [List.length_map] at hj
    rw [List.getElem?_map] at hd
    obtain ⟨b, hb, rfl⟩ := Option.map_eq_some_iff.mp hd
    have hbb := h b (List.mem_of_getElem? hb)
    have ed : l.drop j = b :: l.drop (j + 1) := by
      rw [List.drop_eq_getElem_cons hj]
      congr 1
      rw [List.getElem?_eq_getElem hj] at hb
      exact Option.some.inj hb
    rw [ed, pl] at hp
    have hBl := lt_of_get hB
    by_cases c : n = 5
    · subst c
      rw [if_pos rfl] at hp
      rcases hbb with rfl | rfl
      · rw [if_neg (by decide)] at hp
        simp_arith []
        exact ⟨fnd, 0, _, rfl, hB, fB, by omega, by omega, hp⟩
      · rw [if_pos rfl] at hp
        simp_arith []
        exact ⟨by rw [hp]; rfl, fB⟩
    · rw [if_neg c] at hp
      have c' : ¬ (n : Int) = 5 := by omega
      have hl2 : (fnd.map D.int).length + 1 ≤ 16000000 := by rw [List.length_map]; omega
      have fin : ∀ n' : Nat, n' ≤ 5 → pl 0 l = ((pl n' (l.drop (j + 1))).map (b :: ·)).map (fnd ++ ·) → pl 0 l = (pl n' (l.drop (j + 1))).map ((fnd ++ [b]) ++ ·) := fun n' _ e => by
        rw [e, Option.map_map]
        congr 1
        funext x
        simp
      rcases hbb with rfl | rfl
      · rw [if_neg (by decide)] at hp
        simp_arith [hB, c']
        exact ⟨fnd ++ [0], 0, _, rfl, by simp_arith [List.map_append], fB.then_set (.inr (by omega)), by omega, by rw [List.length_append, List.length_singleton]; omega, fin 0 (by omega) hp⟩
      · rw [if_pos rfl] at hp
        simp_arith [hB, c']
        exact ⟨fnd ++ [1], n + 1, _, rfl, by simp_arith [List.map_append], fB.then_set (.inr (by omega)), by omega, by rw [List.length_append, List.length_singleton]; omega, fin (n + 1) (by omega) hp⟩
  · rintro _ B ⟨fnd, n, o, rfl, hB, fB, hn, hf, hp⟩
    rw [List.length_map, List.drop_length, pl] at hp
    by_cases c : n = 5
    · subst c
      rw [if_pos rfl] at hp
      simp_arith []
      exact ⟨by rw [hp]; rfl, fB⟩
    · have c' : ¬ (n : Int) = 5 := by omega
      rw [if_neg c] at hp
      simp_arith [hB, c']
      exact ⟨by rw [hp]; simp [opD, rw_], fB⟩

open DL (bl dv Mu Bits gath gathA bitsN gN dataOf bitsOf Bytes)
theorem gath_le {l : List Int} (h : Bits l) : ((gN l : Nat) : Int) = gath l := DL.gN_cast h
noncomputable def retS : S := (sRet (eCB (c1 oTuple) (aCons (eLc (wAs rg3 (aCons (eC (.int 0)) (aCons (eCB (c1 oLen) (aCons (eVar 0) aNil)) (aCons (eC (.int 8)) aNil)))) (gN 1) tYe (eCall0 F_gathered (aCons (eSl oSl (eVar 0) (oSo (eVar 1)) (oSo (eOp oAdd (eVar 1) (eC (.int 8))))) aNil)) [1]) aNil)))
theorem dat_eq : F_data_of = mkFn 1 2 (sSeq (sIf (tOo (tNo (tOf (eCall F_is_bits (aCons (eVar 0) aNil)))) (tOo (tOf (eOp oGt (eCB (c1 oLen) (aCons (eVar 0) aNil)) (eOp oMul (eC (.int 1000)) (eC (.int 8))))) (tOf (eOp oNe (eOp oMod (eCB (c1 oLen) (aCons (eVar 0) aNil)) (eC (.int 8))) (eC (.int 0)))))) (sRaise "NoBits") sNx) retS) := rfl
theorem data_of_ok {l : List Int} {A : Hs} (h : Bits l) (h8 : l.length % 8 = 0) (hl : l.length ≤ 8000) : ∃ A1, F_data_of [rw_ l] A = .ok (rw_ (dataOf l)) A1 ∧ Fr [] A A1 := by
  obtain ⟨A1, e1, f1⟩ := is_bits_ok (A := A) h (by omega)
  refine ⟨A1 ++ [.lst ((dataOf l).map D.int)], ?_, f1.then_push⟩
  have c1 : ¬ (l.length : Int) > 8000 := by omega
  have c2 : (l.length : Int) % 8 = 0 := by omega
  unfold rw_ at e1
  unfold rw_
  have key : lcL (gN 1) tYe (eCall0 F_gathered (aCons (eSl oSl (eVar 0) (oSo (eVar 1)) (oSo (eOp oAdd (eVar 1) (eC (.int 8))))) aNil)) tt [some (.tup (l.map D.int)), none] (rgL 0 8 (l.length / 8)) [] A1 = .ok (((rgL 0 8 (l.length / 8)).filter fun _ => true).map fun d => match d with | .int i => .int (gath ((l.drop i.toNat).take 8)) | d => d) A1 := by
    refine lc_go _ _ trivial (by rw [rgL_len]; omega) fun d hd => ?_
    obtain ⟨i', hi, rfl⟩ := mem_rgL hd
    obtain ⟨i, hi0⟩ : ∃ i : Int, i = 0 + (i' : Nat) * 8 := ⟨_, rfl⟩
    rw [← hi0]
    have hb : Bits ((l.drop i.toNat).take 8) := fun x hx => h x (List.mem_of_mem_drop (List.mem_of_mem_take hx))
    have hi1 : 0 ≤ i := by omega
    have hi2 : 0 ≤ i + 8 := by omega
    have e2 := gathered_ok (A := A1) hb (by rw [List.length_take]; omega)
    have et : (i + 8).toNat - i.toNat = 8 := by omega
    unfold rw_ at e2
    rw [gath_le hb, List.map_take, List.map_drop] at e2
    show Got _ _
    simp_arith [et, e2]
    first | exact fun _ => rfl | exact fun _ => trivial
  have hr : ((rgL 0 8 (l.length / 8)).filter fun _ => true).map (fun d => match d with | .int i => D.int (gath ((l.drop i.toNat).take 8)) | d => d) = (dataOf l).map D.int := by
    rw [List.filter_eq_self.mpr (by simp)]
    unfold rgL dataOf
    rw [List.map_map, List.map_map]
    refine List.map_congr_left fun k hk => ?_
    simp only [Function.comp]
    have : (0 + (k : Int) * 8).toNat = 8 * k := by omega
    rw [this]
  rw [hr] at key
  have hcnt : cnt 0 (l.length : Int) 8 = l.length / 8 := by
    unfold cnt
    by_cases z : (0 : Int) < l.length
    · rw [if_pos z]; omega
    · rw [if_neg z]; omega
  obtain ⟨n, hn⟩ : ∃ n : Int, n = (l.length : Int) := ⟨_, rfl⟩
  rw [← hn] at c1 c2 hcnt
  have hn2 : (((l.map D.int).length : Nat) : Int) = n := by rw [List.length_map, hn]
  have em : ∀ B : Hs, oMod (.int n) (.int 8) B = .ok (.int 0) B := fun B => by rw [z54 (by decide), c2]
  have c3 : decide ((8000 : Int) < n) = false := decide_eq_false c1
  have n9 : n ≤ 9000 := by omega
  have n0 : 0 ≤ n := by omega
  generalize l.map D.int = L at *
  generalize l.length / 8 = m at *
  generalize (dataOf l).map D.int = Dt at *
  clear c1 c2 h8 hl hr hn h
  clear l
  have er : rg3 [D.int 0, D.int n, D.int 8] = some ⟨rgL 0 8 m, tt⟩ := by rw [z9t ⟨by decide, by decide, by omega, by omega, by decide, by decide⟩, hcnt]
  clear n9 n0 hcnt
  have e8 : ∀ B : Hs, oMul (.int 1000) (.int 8) B = .ok (.int 8000) B := fun B => z65 (by decide)
  have e2 : retS [some (.tup L), none] A1 = .rt (.tup Dt) (A1 ++ [.lst Dt]) := by
    unfold retS
    simp_arith [hn2, er, key, -List.length_map]
  rw [dat_eq]
  simp_arith [e1, hn2, c3, e8, -z65, -z5j, -z54, -List.length_map]
  rw [em]
  simp only [bind_ok, z5d, z7q, z79]
  simp only [decide_true, Bool.not_true, Bool.false_eq_true, if_false]
  rw [seq_nx, e2, z5o]

/-! the law's own rests, codes, frames -/
open DL (bl dv Mu Bits gath gathA bitsN gN dataOf bitsOf Bytes)
theorem xor_eq0' {x y : Nat} (h : x ^^^ y = 0) : x = y := by
  have : (x ^^^ y) ^^^ y = 0 ^^^ y := by rw [h]
  rwa [Nat.xor_assoc, Nat.xor_self, Nat.xor_zero, Nat.zero_xor] at this
theorem dv_step {c n b : Nat} (hc : 3 ≤ c) (hb : b < 2) : dv c (2 * n + b) = if 2 ^ (bl c - 1) ≤ 2 * dv c n + b then (2 * dv c n + b) ^^^ c else 2 * dv c n + b := by
  have c0 : c ≠ 0 := by omega
  have b2 := bl_two hc
  have e1 : ∀ m : Nat, 2 * m + b = m <<< 1 ^^^ b := fun m => by rw [DL.shl_xor (k := 1) (by omega)]; omega
  have rl := DL.bl_lt.mp (DL.dv_lt c0 n)
  obtain ⟨r, hr⟩ : ∃ r, r = dv c n := ⟨_, rfl⟩
  have e2 : dv c (n <<< 1) = dv c (r <<< 1) := by
    have m := (DL.dv_mu c0 n).shl 1
    rw [Nat.shiftLeft_xor_distrib, ← hr] at m
    have := DL.dv_zero c0 m
    rw [DL.dv_xor c0] at this
    exact xor_eq0' this
  have e3 : dv c (2 * n + b) = dv c (2 * r + b) := by rw [e1, e1, DL.dv_xor c0, DL.dv_xor c0, e2]
  rw [e3, ← hr]
  rw [← hr] at rl
  have hp : 2 ^ (bl c - 1 + 1) = 2 * 2 ^ (bl c - 1) := by rw [Nat.pow_succ]; omega
  by_cases q : 2 ^ (bl c - 1) ≤ 2 * r + b
  · rw [if_pos q]
    have h1 : 2 * r + b < 2 ^ (bl c - 1 + 1) := by omega
    have h2 := DL.bl_ge c0
    have h3 := DL.lt_bl c
    have h4 : bl c - 1 + 1 = bl c := by omega
    have h5 := DL.xor_top q h1 h2 (by rw [h4]; exact h3)
    have h6 : dv c ((2 * r + b) ^^^ c) = (2 * r + b) ^^^ c := DL.dv_small c0 (DL.bl_lt.mpr ⟨h5, by omega⟩)
    have h7 : dv c c = 0 := DL.dv_zero c0 (by have := Mu.one (c := c) 0; rwa [Nat.shiftLeft_zero] at this)
    rw [DL.dv_xor c0, h7, Nat.xor_zero] at h6
    exact h6
  · rw [if_neg q]
    exact DL.dv_small c0 (DL.bl_lt.mpr ⟨by omega, by omega⟩)
theorem gN_snoc {l : List Int} {b : Nat} (h : Bits l) (hb : b < 2) : gN (l ++ [(b : Int)]) = 2 * gN l + b := by
  have h2 : Bits [(b : Int)] := fun x hx => by rw [List.mem_singleton] at hx; omega
  have e := DL.gN_cast (h.append h2)
  rw [DL.gath_snoc, ← DL.gN_cast h] at e
  omega
theorem take_snoc {l : List Int} {j : Nat} {b : Int} (h : l[j]? = some b) : l.take (j + 1) = l.take j ++ [b] := by rw [List.take_succ, h]; rfl
theorem l_rest_ok {c : Nat} {l : List Int} {A : Hs} (hc : Cn c) (h : Bits l) (hl : l.length ≤ 80000) : F_l_rest [rw_ l, .int (c : Int)] A = .ok (.int (dv c (gN l) : Nat)) A := by
  have lo := hc.lo
  have c0 : c ≠ 0 := by omega
  have b2 := bl_two hc.lo
  have b17 := hc.bl
  have ew : ((bl c : Nat) : Int) - 1 = ((bl c - 1 : Nat) : Int) := by omega
  have d0 : dv c (gN []) = 0 := DL.dv_zero c0 Mu.zero
  unfold F_l_rest rw_
  simp_arith [oBits_n, ew]
  refine for_go (R := fun rs => finR (seqR rs _) = _) (fun j e B => ∃ o, e = [some (.tup (l.map D.int)), some (.int (c : Int)), some (.int ((bl c - 1 : Nat) : Int)), some (.int (dv c (gN (l.take j)) : Nat)), o] ∧ B = A) ⟨none, by rw [List.take_zero, d0]; rfl, rfl⟩ (fun _ _ _ _ _ => trivial) ?_ ?_
  · rintro j _ _ d hd ⟨o, rfl, rfl⟩
    rw [List.getElem?_map] at hd
    obtain ⟨b, hb, rfl⟩ := Option.map_eq_some_iff.mp hd
    have hbb := h b (List.mem_of_getElem? hb)
    obtain ⟨bn, hbn, hb2⟩ : ∃ bn : Nat, b = (bn : Int) ∧ bn < 2 := hbb.elim (fun e => ⟨0, e, by decide⟩) (fun e => ⟨1, e, by decide⟩)
    subst hbn
    have ht : Bits (l.take j) := fun x hx => h x (List.mem_of_mem_take hx)
    have es := dv_step (n := gN (l.take j)) lo hb2
    rw [← gN_snoc ht hb2, ← take_snoc hb] at es
    have rl := (DL.bl_lt.mp (DL.dv_lt c0 (gN (l.take j)))).1
    generalize dv c (gN (l.take j)) = r at *
    have ey : (2 : Int) * (r : Int) + (bn : Int) = ((2 * r + bn : Nat) : Int) := by push_cast; rfl
    have hp : (0 : Nat) < 2 ^ (bl c - 1) := Nat.pow_pos (by decide)
    have eq2 : ((2 * r + bn : Nat) : Int) / 2 ^ (bl c - 1) % 2 = (((2 * r + bn) / 2 ^ (bl c - 1) % 2 : Nat) : Int) := by push_cast; rfl
    by_cases q : 2 ^ (bl c - 1) ≤ 2 * r + bn
    · rw [if_pos q] at es
      have : (2 * r + bn) / 2 ^ (bl c - 1) = 1 := by
        rw [Nat.div_eq_iff hp]; omega
      rw [this] at eq2
      have eq3 : ((2 * r + bn : Nat) : Int) / 2 ^ (bl c - 1) % 2 = 1 := eq2
      simp_arith [ey, oShr_i, oAnd_i, bitAnd1, Int.toNat_natCast, eq3, oXor_n]
      exact ⟨_, by rw [es]⟩
    · rw [if_neg q] at es
      have : (2 * r + bn) / 2 ^ (bl c - 1) = 0 := Nat.div_eq_of_lt (by omega)
      rw [this] at eq2
      have eq3 : ((2 * r + bn : Nat) : Int) / 2 ^ (bl c - 1) % 2 = 0 := eq2
      simp_arith [ey, oShr_i, oAnd_i, bitAnd1, Int.toNat_natCast, eq3, oXor_n]
      exact ⟨_, by rw [es]⟩
  · rintro e _ ⟨o, rfl, rfl⟩
    simp_arith []
    rw [List.take_length]
theorem zeros_bits {k : Nat} : Bits (List.replicate k (0 : Int)) := fun b hb => .inl (List.eq_of_mem_replicate hb)
theorem flat_zeros : ∀ w : Nat, (List.replicate w [D.int 0]).flatten = (List.replicate w (0 : Int)).map D.int
  | 0 => rfl
  | w + 1 => by rw [List.replicate_succ, List.flatten_cons, flat_zeros w, List.replicate_succ]; rfl
theorem l_coded_ok {c : Nat} {l : List Int} {A : Hs} (hc : Cn c) (h : Bits l) (hl : l.length ≤ 50000) : ∃ A1, F_l_coded [rw_ l, .int (c : Int)] A = .ok (rw_ (cdd c l)) A1 ∧ Fr [] A A1 := by
  have b2 := bl_two hc.lo
  have b17 := hc.bl
  have lo := hc.lo
  obtain ⟨w, hw⟩ : ∃ w, w = bl c - 1 := ⟨_, rfl⟩
  have ew : ((bl c : Nat) : Int) - 1 = (w : Int) := by omega
  have er := l_rest_ok (A := A) hc (h.append (zeros_bits (k := w))) (by rw [List.length_append, List.length_replicate]; omega)
  have eg : gN (l ++ List.replicate w (0 : Int)) = gN l <<< w := by rw [DL.gN_append h zeros_bits, DL.gN_zeros, List.length_replicate, Nat.xor_zero]
  rw [eg] at er
  refine ⟨A ++ [.lst ((bitsN ((dv c (gN l <<< w) : Nat) : Int) w).map D.int)], ?_, .push⟩
  have ez : ∀ B, oMul (.tup [.int 0]) (.int (w : Int)) B = .ok (.tup ((List.replicate w (0 : Int)).map D.int)) B := fun B => by
    rw [z6s ⟨by decide, by omega, by omega⟩]
    rw [Int.toNat_natCast, flat_zeros]
  have el : (l.map D.int).length + ((List.replicate w (0 : Int)).map D.int).length ≤ 16000000 := by simp only [List.length_map, List.length_replicate]; omega
  have el2 : (l.map D.int).length + ((bitsN ((dv c (gN l <<< w) : Nat) : Int) w).map D.int).length ≤ 16000000 := by simp only [List.length_map, DL.bitsN_len]; omega
  have em : l.map D.int ++ (List.replicate w (0 : Int)).map D.int = (l ++ List.replicate w (0 : Int)).map D.int := by rw [List.map_append]
  obtain ⟨r, hr⟩ : ∃ r : Nat, r = dv c (gN l <<< w) := ⟨_, rfl⟩
  have key : lcL (SM.gN 4) tYe (eOp oAnd (eOp oShr (eVar 3) (eOp oSub (eOp oSub (eVar 2) (eC (.int 1))) (eVar 4))) (eC (.int 1))) tt [some (rw_ l), some (.int (c : Int)), some (.int (w : Int)), some (.int (r : Int)), none] (rgL 0 1 w) [] A = .ok ((bitsN (r : Int) w).map D.int) A := by
    rw [lc_go (fun _ => true) (fun d => match d with | .int k => .int ((r : Int) / 2 ^ (w - 1 - k.toNat) % 2) | _ => .non) trivial (by rw [rgL_len]; omega)]
    rotate_left
    · intro d hd
      obtain ⟨j, hj, rfl⟩ := mem_rgL hd
      have e1 : (w : Int) - 1 - (0 + (j : Int) * 1) = ((w - 1 - j : Nat) : Int) := by omega
      have e2 : (0 + (j : Int) * 1).toNat = j := by omega
      show Got _ _
      simp_arith [e1, oShr_i, oAnd_i, bitAnd1, Int.toNat_natCast, e2]
      first | exact fun _ => rfl | exact fun _ => trivial | trivial
    rw [List.filter_eq_self.mpr (by simp)]
    unfold rgL DL.bitsN
    rw [List.map_map, List.map_map]
    congr 1
    refine List.map_congr_left fun k hk => ?_
    simp only [Function.comp]
    have : (0 + (k : Int) * 1).toNat = k := by omega
    rw [this]
  unfold rw_ at er key
  rw [← em] at er
  unfold F_l_coded rw_ cdd
  rw [← hr] at er el2 ⊢
  rw [← hw, ← hr]
  simp_arith [oBits_n, ew, ez, -z6s, el, er, Int.toNat_natCast, key, el2, List.map_append]

/-! frames -/
open DL (bl dv Mu Bits gath gathA bitsN dataOf bitsOf Bytes)
def fr (c : Nat) (s : List Int) : Option (List Int) := match pl 0 s with
  | none => none
  | some row => if (bl c - 1 + 8 ≤ row.length ∧ row.length ≤ bl c - 1 + 8000 ∧ (row.length - (bl c - 1)) % 8 = 0) ∧ dv c (DL.gN row) = 0 then some (dataOf (row.take (row.length - (bl c - 1)))) else none

theorem flg_bits : Bits flg := by
  intro b hb
  unfold flg at hb
  simp at hb
  omega

/-! what is drawn -/
open DL (Bits bitsOf Bytes)
theorem code_ok {A : Hs} {i : Nat} (d : Drw A i) : Rk (F_l_code [.ref i] A) fun v A1 => ∃ c : Nat, v = .int (c : Int) ∧ Cn c ∧ Drw A1 i ∧ Fr [i] A A1 := by
  have nA := d.lt
  obtain ⟨v1, B, a1, b1, e1, d1, f1⟩ := next_ok (n := 4) d (by decide) (by decide)
  have cn : ∀ x : Int, 3 ≤ x ∧ x ≤ 131071 ∧ x % 2 = 1 → ∃ c : Nat, D.int x = .int (c : Int) ∧ Cn c := fun x h => ⟨x.toNat, by rw [Int.toNat_of_nonneg (by omega)], by omega, by omega, by omega⟩
  unfold F_l_code
  by_cases q0 : v1 = 0
  · have d1' := d1.pushed (x := .lst ([3, 5, 7, 11, 19, 25, 263, 69665, 131071, 65537].map D.int))
    obtain ⟨v2, C, a2, b2, e2, d2, f2⟩ := next_ok (n := 10) d1' (by decide) (by decide)
    have nB := d1.lt
    have g2 : C[B.length]? = some (.lst ([3, 5, 7, 11, 19, 25, 263, 69665, 131071, 65537].map D.int)) := f2.get zab (by simp; omega)
    obtain ⟨x, hx, c1⟩ := pick_i (ns := [3, 5, 7, 11, 19, 25, 263, 69665, 131071, 65537]) a2 b2
    simp only [List.map_cons, List.map_nil] at c1 g2 e2
    simp_arith [e1, q0, e2, g2, c1, -z64]
    have h : ∀ x ∈ [(3 : Int), 5, 7, 11, 19, 25, 263, 69665, 131071, 65537], 3 ≤ x ∧ x ≤ 131071 ∧ x % 2 = 1 := by decide
    obtain ⟨c, hc1, hc2⟩ := cn x (h x hx)
    exact ⟨c, hc1, hc2, d2, f1.trans (Fr.push.trans f2)⟩
  · by_cases q1 : v1 = 1
    · obtain ⟨v2, C, a2, b2, e2, d2, f2⟩ := next_ok (n := 30) d1 (by decide) (by decide)
      simp_arith [e1, q0, q1, e2]
      obtain ⟨c, hc1, hc2⟩ := cn (3 + 2 * v2) (by omega)
      exact ⟨c, hc1, hc2, d2, f1.trans f2⟩
    · obtain ⟨v2, C, a2, b2, e2, d2, f2⟩ := next_ok (n := 65535) d1 (by decide) (by decide)
      simp_arith [e1, q0, q1, e2]
      obtain ⟨c, hc1, hc2⟩ := cn (3 + 2 * v2) (by omega)
      exact ⟨c, hc1, hc2, d2, f1.trans f2⟩
/-! data and parts drawn -/
open DL (Bits bitsOf Bytes)
theorem l_data_ok {A : Hs} {i : Nat} {most : Int} (d : Drw A i) (hm : 1 ≤ most ∧ most ≤ 10) : Rk (F_l_data [.ref i, .int most] A) fun v A1 => ∃ l : List Int, v = rw_ l ∧ Bytes l ∧ 1 ≤ l.length ∧ l.length ≤ 10 ∧ Drw A1 i ∧ Fr [i] A A1 := by
  have nA := d.lt
  obtain ⟨v1, B, a1, b1, e1, d1, f1⟩ := next_ok (n := most) (d.pushed (x := .lst [])) (by omega) (by omega)
  have g1 : B[A.length]? = some (.lst []) := f1.get zab (by simp; omega)
  unfold F_l_data
  simp_arith [e1]
  refine for_go (R := fun rs => Rk (finR (seqR rs _)) _) (fun j e C => ∃ (l : List Int) (o : Option D), e = [some (.ref i), some (.int most), some (.ref A.length), o] ∧ C[A.length]? = some (.lst (l.map D.int)) ∧ Bytes l ∧ l.length = j ∧ Drw C i ∧ Fr [i] A C) ⟨[], none, rfl, g1, (fun b hb => by cases hb), rfl, d1, Fr.push.trans f1⟩ (fun _ _ _ _ _ => trivial) ?_ ?_
  · rintro j _ C d hd ⟨l, o, rfl, hC, hb, hl, dC, fC⟩
    obtain ⟨rfl, hj⟩ := rgL_get hd
    obtain ⟨v2, C1, a2, b2, e2, d2, f2⟩ := next_ok (n := 256) dC (by decide) (by decide)
    have nC1 := d2.lt
    obtain ⟨v3, C2, a3, b3, e3, d3, f3⟩ := next_ok (n := 5) (d2.pushed (x := .lst ([v2, 255, 126, 0, 248].map D.int))) (by decide) (by decide)
    have g2 : C2[C1.length]? = some (.lst ([v2, 255, 126, 0, 248].map D.int)) := f3.get zab (by simp; omega)
    obtain ⟨x, hx, c1⟩ := pick_i (ns := [v2, 255, 126, 0, 248]) a3 b3
    have hxb : 0 ≤ x ∧ x ≤ 255 := by simp at hx; omega
    have hC2 : C2[A.length]? = some (.lst (l.map D.int)) := f3.get (get_push (f2.get hC (by simp; omega))) (by simp; omega)
    have nC2 := lt_of_get hC2
    have hll : (l.map D.int).length + 1 ≤ 16000000 := by rw [List.length_map]; omega
    simp only [List.map_cons, List.map_nil] at c1 g2 e3
    simp_arith [hC, e2, e3, g2, c1, -z64, hC2]
    refine ⟨l ++ [x], _, rfl, by simp_arith [List.map_append], fun b hb' => ?_, by rw [List.length_append, hl]; rfl, d3.frame (s := [A.length]) (.set (by simp)) (by simp; omega), ((fC.trans f2).trans (Fr.push.trans f3)).then_set (.inr (Nat.le_refl _))⟩
    rcases List.mem_append.mp hb' with z | z
    · exact hb b z
    · rw [List.mem_singleton] at z; rw [z]; exact hxb
  · rintro _ C ⟨l, o, rfl, hC, hb, hl, dC, fC⟩
    rw [rgL_len] at hl
    simp_arith [hC]
    exact ⟨l, rfl, hb, by omega, by omega, dC, fC⟩

/-! parts of the stream -/
open DL (Bits bitsOf Bytes)
theorem cut_negL {α : Type} {l : List α} {p : Nat} (hp : 0 < p) : cutD l (some (-(p : Int))) none = l.drop (l.length - p) := by
  unfold cutD
  have : HT.sIx l.length 0 (some (-(p : Int))) = l.length - p := by
    unfold HT.sIx
    simp only
    split <;> omega
  rw [this, HT.sIx_none]
  rw [List.take_of_length_le (by rw [List.length_drop]; omega)]
theorem btake {l : List Int} {n : Nat} (h : Bits l) : Bits (l.take n) := fun x hx => h x (List.mem_of_mem_take hx)
theorem bdrop {l : List Int} {n : Nat} (h : Bits l) : Bits (l.drop n) := fun x hx => h x (List.mem_of_mem_drop hx)
theorem rmap_take {l : List Int} {n : Nat} : (l.map D.int).take n = (l.take n).map D.int := by rw [List.map_take]
theorem rmap_drop {l : List Int} {n : Nat} : (l.map D.int).drop n = (l.drop n).map D.int := by rw [List.map_drop]

/-! what a reader tells of what it has read -/
open DL (Bits bitsOf Bytes)
/-- whether a flag ends with x -/
def fl (x : List Int) : Bool := decide (x.drop (x.length - 8) = flg)
/-- the places at which flags end -/
def En (x : List Int) : List Nat := (List.range x.length).filter fun n => fl (x.take (n + 1))
/-- what stands behind the last flag -/
def sn (x : List Int) : Option (List Int) := (En x).getLast?.map fun e => x.drop (e + 1)
/-- what is told with the last bit of x -/
def nw (c : Nat) (x : List Int) : Option (List Int) := if fl x then (match sn x.dropLast with
  | none => none
  | some s => if s.length < 7 then none else fr c (s.take (s.length - 7))) else none
theorem En_snoc {x : List Int} {b : Int} : En (x ++ [b]) = En x ++ (if fl (x ++ [b]) then [x.length] else []) := by
  unfold En
  rw [List.length_append, List.length_singleton, List.range_succ, List.filter_append]
  congr 1
  · refine List.filter_congr fun n hn => ?_
    have := List.mem_range.mp hn
    rw [List.take_append_of_le_length (by omega)]
  · rw [List.filter_cons, List.filter_nil, List.take_of_length_le (by rw [List.length_append, List.length_singleton]; omega)]
theorem En_lt {x : List Int} {n : Nat} (h : n ∈ En x) : n < x.length := List.mem_range.mp (List.mem_filter.mp h).1
theorem sn_snoc {x : List Int} {b : Int} : sn (x ++ [b]) = if fl (x ++ [b]) then some [] else (sn x).map (· ++ [b]) := by
  unfold sn
  rw [En_snoc]
  by_cases q : fl (x ++ [b]) = true
  · rw [if_pos q, if_pos q, List.getLast?_append]
    simp
  · rw [if_neg q, if_neg q, List.append_nil, Option.map_map]
    cases e : (En x).getLast? with
    | none => rfl
    | some n =>
      have := En_lt (List.mem_of_getLast? e)
      simp only [Option.map_some, Function.comp]
      rw [List.drop_append_of_le_length (by omega)]
theorem fm_congr {α β : Type} {f g : α → Option β} : ∀ {l : List α}, (∀ a ∈ l, f a = g a) → l.filterMap f = l.filterMap g
  | [], _ => rfl
  | a :: l, h => by rw [List.filterMap_cons, List.filterMap_cons, h a List.mem_cons_self, fm_congr fun b hb => h b (List.mem_cons_of_mem _ hb)]
/-- all that is told -/
def Tl (c : Nat) (x : List Int) : List (Nat × List Int) := (List.range x.length).filterMap fun n => (nw c (x.take (n + 1))).map fun d => (n, d)
theorem Tl_snoc {c : Nat} {x : List Int} {b : Int} : Tl c (x ++ [b]) = Tl c x ++ ((nw c (x ++ [b])).map fun d => (x.length, d)).toList := by
  unfold Tl
  rw [List.length_append, List.length_singleton, List.range_succ, List.filterMap_append]
  congr 1
  · refine fm_congr fun n hn => ?_
    have := List.mem_range.mp hn
    rw [List.take_append_of_le_length (by omega)]
  · rw [List.filterMap_cons, List.filterMap_nil, List.take_of_length_le (by rw [List.length_append, List.length_singleton]; omega)]
    cases nw c (x ++ [b]) <;> rfl

/-! the Reader -/
open DL (bl dv Bits bitsOf Bytes dataOf)
def rfs (c : Nat) (lat : List Int) (s : D) : List (String × D) := [("check_bits", .int ((bl c - 1 : Nat) : Int)), ("divisor", .int (c : Int)), ("latest", rw_ lat), ("since_flag", s)]
theorem lat_snoc {x : List Int} {b : Int} : (x.drop (x.length - 8)).drop ((x.drop (x.length - 8)).length - 7) ++ [b] = (x ++ [b]).drop ((x ++ [b]).length - 8) := by
  rw [List.drop_drop, List.length_drop, List.length_append, List.length_singleton, List.drop_append_of_le_length (by omega)]
  congr 2
  omega
theorem oLen_wt {l : List D} {A : Hs} : oLen (.wt l) A = .ok (.int l.length) A := rfl
theorem frame_none {A : Hs} {r c : Nat} {lat : List Int} (o : A[r]? = some (.obj "Reader" (rfs c lat .non))) : F_Reader_frame_there [.ref r] A = .ok .non A := by
  unfold F_Reader_frame_there
  simp_arith [o, rfs]
theorem frame_some {A : Hs} {r c k : Nat} {lat l : List Int} (hc : Cn c) (o : A[r]? = some (.obj "Reader" (rfs c lat (.ref k)))) (hk : A[k]? = some (.lst (l.map D.int))) (hb : Bits l) (hl : l.length ≤ 30000) :
    ∃ A1, F_Reader_frame_there [.ref r] A = .ok (opD (if l.length < 8 then none else fr c (l.take (l.length - 8)))) A1 ∧ Fr [] A A1 := by
  by_cases q8 : l.length < 8
  · rw [if_pos q8]
    have q8' : (l.length : Int) < 8 := by omega
    refine ⟨A, ?_, .refl⟩
    unfold F_Reader_frame_there
    simp_arith [o, rfs, hk, oLen_wt, q8']
    rfl
  · rw [if_neg q8]
    have q8' : ¬ (l.length : Int) < 8 := by omega
    have hsb : Bits (l.take (l.length - 8)) := btake hb
    have hsl : (l.take (l.length - 8)).length ≤ 30000 := by rw [List.length_take]; omega
    have ch : cutD (l.map D.int) none (some (-((8 : Nat) : Int))) = (l.take (l.length - 8)).map D.int := by
      have := cut_neg (l := l.map D.int) (p := 8) (by decide)
      rw [List.length_map, rmap_take] at this; exact this
    generalize l.take (l.length - 8) = s at *
    have b2 := bl_two hc.lo
    have b17 := hc.bl
    obtain ⟨w, hw⟩ : ∃ w, w = bl c - 1 := ⟨_, rfl⟩
    obtain ⟨A1, e1, f1⟩ := plain_ok (A := A ++ [.lst (s.map D.int)]) hsb (by omega)
    have o1 : A1[r]? = some (.obj "Reader" (rfs c lat (.ref k))) := f1.get (get_push o) (by simp)
    unfold fr
    rw [← hw]
    unfold rfs at o o1
    rw [← hw] at o o1
    cases q : pl 0 s with
    | none =>
      rw [q] at e1
      have e1' : F_plain [.tup (s.map D.int)] (A ++ [.lst (s.map D.int)]) = .ok .non A1 := e1
      refine ⟨A1, ?_, Fr.push.trans f1⟩
      unfold F_Reader_frame_there
      simp_arith [o, hk, oLen_wt, q8', ch, e1']
      rfl
    | some row =>
      rw [q] at e1
      obtain ⟨q1, q2⟩ := (pl_iff hsb).mp q
      have e1' : F_plain [.tup (s.map D.int)] (A ++ [.lst (s.map D.int)]) = .ok (.tup (row.map D.int)) A1 := e1
      have hrl : row.length ≤ s.length := by
        rw [← q1]
        have : ∀ (l : List Int) (n : Nat), l.length ≤ (st n l).length := by
          intro l
          induction l with
          | nil => intro n; exact Nat.zero_le _
          | cons b l ih =>
            intro n
            rw [st]
            split
            · split
              · have := ih 0; simp only [List.length_cons]; omega
              · have := ih (n + 1); simp only [List.length_cons]; omega
            · have := ih 0; simp only [List.length_cons]; omega
        exact this row 0
      obtain ⟨A2, e2, f2⟩ := is_right_ok (A := A1) hc q2 (by omega)
      unfold rw_ at e2
      simp only
      by_cases k1 : w + 8 ≤ row.length ∧ row.length ≤ w + 8000 ∧ (row.length - w) % 8 = 0
      · have a1 : ¬ (row.length : Int) - (w : Int) < 8 := by omega
        have a2 : ¬ (8000 : Int) < (row.length : Int) - (w : Int) := by omega
        have a3 : ¬ 0 < ((row.length : Int) - (w : Int)) % 8 := by omega
        by_cases k2 : dv c (DL.gN row) = 0
        · rw [if_pos ⟨k1, k2⟩]
          obtain ⟨A3, e3, f3⟩ := data_of_ok (A := A2) (btake (n := row.length - w) q2) (by rw [List.length_take, Nat.min_eq_left (by omega)]; exact k1.2.2) (by rw [List.length_take]; omega)
          have a4 : (0 : Int) ≤ (row.length : Int) - (w : Int) := by omega
          have a5 : ((row.length : Int) - (w : Int)).toNat = row.length - w := by omega
          refine ⟨A3, ?_, ((Fr.push.trans f1).trans f2).trans f3⟩
          unfold rw_ at e3
          obtain ⟨Dt, hDt⟩ : ∃ Dt, Dt = dataOf (row.take (row.length - w)) := ⟨_, rfl⟩
          rw [← hDt] at e3 ⊢
          have e9 : opD (some Dt) = .tup (Dt.map D.int) := rfl
          rw [e9]
          rw [decide_eq_true k2] at e2
          clear k1 hDt
          unfold F_Reader_frame_there
          simp_arith [o, o1, hk, oLen_wt, q8', ch, e1', a1, a2, a3, e2, a5, rmap_take, e3]
        · rw [if_neg fun z => k2 z.2]
          rw [decide_eq_false k2] at e2
          refine ⟨A2, ?_, (Fr.push.trans f1).trans f2⟩
          clear k1
          unfold F_Reader_frame_there
          simp_arith [o, o1, hk, oLen_wt, q8', ch, e1', a1, a2, a3, e2]
          rfl
      · rw [if_neg fun z => k1 z.1]
        refine ⟨A1, ?_, Fr.push.trans f1⟩
        by_cases a1 : (row.length : Int) - (w : Int) < 8
        · clear k1
          unfold F_Reader_frame_there
          simp_arith [o, o1, hk, oLen_wt, q8', ch, e1', a1]
          rfl
        · by_cases a2 : (8000 : Int) < (row.length : Int) - (w : Int)
          · clear k1
            unfold F_Reader_frame_there
            simp_arith [o, o1, hk, oLen_wt, q8', ch, e1', a1, a2]
            rfl
          · have a3 : 0 < ((row.length : Int) - (w : Int)) % 8 := by omega
            clear k1
            unfold F_Reader_frame_there
            simp_arith [o, o1, hk, oLen_wt, q8', ch, e1', a1, a2, a3]
            rfl

/-! Reader.take -/
open DL (bl dv Bits bitsOf Bytes)
def sv : Option Nat → D
  | none => .non
  | some k => .ref k
def lt_ (A : Hs) : Option Nat → Option (List Int) → Prop
  | none, none => True
  | some k, some l => A[k]? = some (.lst (l.map D.int))
  | _, _ => False
/-- a Reader at r: its latest bits, where its bits since a flag stand, what they are -/
structure IsR (A : Hs) (r c : Nat) (lat : List Int) (s : Option Nat) (so : Option (List Int)) : Prop where
  o : A[r]? = some (.obj "Reader" (rfs c lat (sv s)))
  l : lt_ A s so
theorem IsR.frame {A A1 : Hs} {r c : Nat} {lat : List Int} {s : Option Nat} {so : Option (List Int)} {t : List Nat} (h : IsR A r c lat s so) (f : Fr t A A1) (hr : r ∉ t) (hs : ∀ k, s = some k → k ∉ t) : IsR A1 r c lat s so := by
  refine ⟨f.get h.o hr, ?_⟩
  have hl := h.l
  cases s with
  | none => cases so <;> exact hl
  | some k =>
    cases so with
    | none => exact hl
    | some l => exact f.get (u := .lst (l.map D.int)) hl (hs k rfl)
def lat (x : List Int) : List Int := x.drop (x.length - 8)
theorem reader_ok {c : Nat} {A : Hs} (hc : Cn c) : Rk (make "Reader" F_Reader___init__ [.int (c : Int)] A) fun v A1 => v = .ref A.length ∧ IsR A1 A.length c (lat []) none (sn []) ∧ Fr [] A A1 := by
  refine Rk.make ?_
  have e := fun B => width_ok (A := B) hc
  unfold F_Reader___init__
  simp_arith [e]
  refine ⟨⟨?_, trivial⟩, by walk_at "fr!"⟩
  simp_arith [rfs]
  rfl
def tn (c : Nat) : Option (List Int) → Option (List Int)
  | none => none
  | some l => if l.length < 8 then none else fr c (l.take (l.length - 8))
theorem nw_snoc {c : Nat} {x : List Int} {b : Int} : nw c (x ++ [b]) = if fl (x ++ [b]) then tn c ((sn x).map (· ++ [b])) else none := by
  unfold nw
  rw [List.dropLast_concat]
  by_cases q : fl (x ++ [b]) = true
  · rw [if_pos q, if_pos q]
    cases sn x with
    | none => rfl
    | some s =>
      show (if s.length < 7 then none else fr c (s.take (s.length - 7))) = if (s ++ [b]).length < 8 then none else fr c ((s ++ [b]).take ((s ++ [b]).length - 8))
      rw [List.length_append, List.length_singleton]
      by_cases q2 : s.length < 7
      · rw [if_pos q2, if_pos (by omega)]
      · rw [if_neg q2, if_neg (by omega), List.take_append_of_le_length (by omega)]
        congr 2
  · rw [if_neg q, if_neg q]
theorem fth_ok {A : Hs} {r c : Nat} {lat : List Int} {s : Option Nat} {so : Option (List Int)} (hc : Cn c) (h : IsR A r c lat s so) (hb : ∀ l, so = some l → Bits l ∧ l.length ≤ 30000) :
    ∃ A1, F_Reader_frame_there [.ref r] A = .ok (opD (tn c so)) A1 ∧ Fr [] A A1 := by
  have hl := h.l
  have ho := h.o
  cases s with
  | none =>
    cases so with
    | none => exact ⟨A, frame_none ho, .refl⟩
    | some l => exact hl.elim
  | some k =>
    cases so with
    | none => exact hl.elim
    | some l => exact frame_some hc ho hl (hb l rfl).1 (hb l rfl).2
noncomputable def tkF : S := (sIf (tOf (eOp oEq (eFld ["Reader"] "latest" (eVar 0)) (eC (.wt [.int 0, .int 1, .int 1, .int 1, .int 1, .int 1, .int 1, .int 0])))) (sSeq (sSet 4 (eMeth "frame_there" [("Reader", F_Reader_frame_there)] (eVar 0) aNil)) (sSeq (sIf (tOf (eOp oIsNot (eVar 4) (eC .non))) (sDrop (eBL oAppend (eVar 2) (aCons (eVar 4) aNil))) sNx) (sFl ["Reader"] "since_flag" (eVar 0) (eLst aNil)))) sNx)
theorem tk_eq : F_Reader_take = mkFn 2 5 (sSeq (sDrop (eCall F_need_bits (aCons (eVar 1) aNil))) (sSeq (sSet 2 (eLst aNil)) (sSeq (sFor (wSeq (eVar 1)) (gN 3) (sSeq (sFl ["Reader"] "latest" (eVar 0) (eOp oAdd (eSl oSl (eFld ["Reader"] "latest" (eVar 0)) (oSo (eUn oNeg (eC (.int 7)))) oNo) (eTup (aCons (eVar 3) aNil)))) (sSeq (sIf (tOf (eOp oIsNot (eFld ["Reader"] "since_flag" (eVar 0)) (eC .non))) (sDrop (eBL oAppend (eFld ["Reader"] "since_flag" (eVar 0)) (aCons (eVar 3) aNil))) sNx) tkF))) (sRet (eVar 2))))) := rfl
theorem tkF_ok {B : Hs} {r c q : Nat} {y : List Int} {s : Option Nat} {so : Option (List Int)} {L : List D} {P bb o4 : Option D} (hc : Cn c) (h : IsR B r c (lat y) s so) (hb : ∀ l, so = some l → Bits l ∧ l.length ≤ 30000) (hq : B[q]? = some (.lst L)) (hL : L.length ≤ 100000) (hqs : s ≠ some q) :
    Trn (fun e B' => ∃ o4' s', e = [some (.ref r), P, some (.ref q), bb, o4'] ∧ IsR B' r c (lat y) s' (if fl y then some [] else so) ∧ (s' = s ∨ ∃ k, s' = some k ∧ B.length ≤ k) ∧ B'[q]? = some (.lst (L ++ (if fl y then tn c so else none).toList.map rw_)) ∧ Fr [r, q] B B') (fun _ => False) (tkF [some (.ref r), P, some (.ref q), bb, o4] B) := by
  have ho := h.o
  have ef := oEq_flag (a := lat y) (A := B)
  have efl : decide (lat y = flg) = fl y := rfl
  rw [efl] at ef
  unfold rfs at ho
  have hlt := lt_of_get ho
  have hqt := lt_of_get hq
  have hrq : r ≠ q := by rintro rfl; rw [hq] at ho; cases ho
  cases q1 : fl y with
  | false =>
    rw [q1] at ef
    unfold tkF
    simp_arith [ho, ef]
    exact ⟨_, s, rfl, h, .inl rfl, by simp only [Option.toList]; rw [List.map_nil, List.append_nil]; exact hq, .refl⟩
  | true =>
    rw [q1] at ef
    obtain ⟨A1, e1, f1⟩ := fth_ok hc h hb
    have ho1 := f1.get ho (by simp)
    have hq1 := f1.get hq (by simp)
    have n1 := f1.le
    cases q2 : tn c so with
    | none =>
      rw [q2] at e1
      have e1' : F_Reader_frame_there [.ref r] B = .ok .non A1 := e1
      unfold tkF
      simp_arith [ho, ef, e1', ho1]
      have nr := lt_of_get ho1
      refine ⟨_, some A1.length, rfl, ⟨?_, ?_⟩, .inr ⟨_, rfl, n1⟩, ?_, ((f1.mono (by simp)).then_push).then_set (.inl (by simp))⟩
      · unfold rfs sv
        exact z9m (by rw [List.length_append]; omega)
      · show _ = some (O.lst [])
        rw [z40 (by omega)]
        exact zab
      · simp only [Option.toList]
        rw [List.map_nil, List.append_nil]
        exact hq1
    | some d =>
      rw [q2] at e1
      have e1' : F_Reader_frame_there [.ref r] B = .ok (.tup (d.map D.int)) A1 := e1
      unfold tkF
      simp_arith [ho, ef, e1', ho1, hq1]
      have nr := lt_of_get ho1
      have nq := lt_of_get hq1
      refine ⟨_, some A1.length, rfl, ⟨?_, ?_⟩, .inr ⟨_, rfl, n1⟩, ?_, (((f1.mono (by simp)).then_set (.inl (by simp))).then_push).then_set (.inl (by simp))⟩
      · unfold rfs sv
        exact z9m (by rw [List.length_append, List.length_set]; omega)
      · show _ = some (O.lst [])
        rw [z40 (by omega)]
        exact z7m (by rw [List.length_set])
      · rfl
theorem Trn.imp {J J2 : Sl → Hs → Prop} {R : RS → Prop} {r : RS} (h : Trn J (fun _ => False) r) (k : ∀ e A, J e A → J2 e A) : Trn J2 R r := by
  cases r with
  | nx e A => exact k e A h
  | ct e A => exact k e A h
  | rt d A => exact h.elim
  | bk e A => exact h.elim
  | exc C e A => exact h.elim
  | stuck => exact h.elim
theorem fl_lat {x : List Int} {b : Int} : (lat x).drop ((lat x).length - 7) ++ [b] = lat (x ++ [b]) := lat_snoc
theorem take_ok {A : Hs} {r c : Nat} {x p : List Int} {s : Option Nat} (hc : Cn c) (h : IsR A r c (lat x) s (sn x)) (hb : Bits x) (hp : Bits p) (hl : x.length + p.length ≤ 30000) :
    Rk (F_Reader_take [.ref r, rw_ p] A) fun v A1 => ∃ q s' L, v = .ref q ∧ A.length ≤ q ∧ IsR A1 r c (lat (x ++ p)) s' (sn (x ++ p)) ∧ (s' = s ∨ ∃ k, s' = some k ∧ A.length ≤ k) ∧ s' ≠ some q ∧ Tl c (x ++ p) = Tl c x ++ L ∧ A1[q]? = some (.lst (L.map fun z => rw_ z.2)) ∧ Fr (r :: s.toList) A A1 := by
  obtain ⟨A1, e1, f1⟩ := need_bits_ok (A := A) hp (by omega)
  have n1 := f1.le
  have hrA := lt_of_get h.o
  have hsA : ∀ k, s = some k → k < A.length := by
    rintro k rfl
    have hl := h.l
    cases e : sn x with
    | none => rw [e] at hl; exact hl.elim
    | some l => rw [e] at hl; exact lt_of_get (u := .lst (l.map D.int)) hl
  unfold rw_ at e1
  have er : rw_ p = .tup (p.map D.int) := rfl
  rw [tk_eq, er]
  simp_arith [e1]
  refine for_go (R := fun rs => Rk (finR (seqR rs _)) _) (fun j e B => ∃ L s' o3 o4, e = [some (.ref r), some (.tup (p.map D.int)), some (.ref A1.length), o3, o4] ∧ IsR B r c (lat (x ++ p.take j)) s' (sn (x ++ p.take j)) ∧ (s' = s ∨ ∃ k, s' = some k ∧ A.length ≤ k) ∧ s' ≠ some A1.length ∧ Tl c (x ++ p.take j) = Tl c x ++ L ∧ B[A1.length]? = some (.lst (L.map fun z => rw_ z.2)) ∧ L.length ≤ j ∧ Fr (r :: s.toList) A B)
    ⟨[], s, none, none, rfl, ?_, .inl rfl, ?_, ?_, zab, Nat.le_refl _, (f1.mono (by simp)).then_push⟩ (fun _ _ _ _ _ => trivial) ?_ ?_
  · rw [List.take_zero, List.append_nil]
    exact h.frame (f1.then_push) (by simp) (by simp)
  · intro e
    have := hsA _ e
    omega
  · rw [List.take_zero, List.append_nil, List.append_nil]
  · rintro j _ B d hd ⟨L, s', o3, o4, rfl, hI, hs', hne, hT, hB, hLl, fB⟩
    have hj := lt_of_get hd
    rw [List.length_map] at hj
    rw [List.getElem?_map] at hd
    obtain ⟨b, hbj, rfl⟩ := Option.map_eq_some_iff.mp hd
    have hbb := hp b (List.mem_of_getElem? hbj)
    have ey : x ++ p.take (j + 1) = (x ++ p.take j) ++ [b] := by rw [take_snoc hbj, List.append_assoc]
    have hyb : Bits (x ++ p.take j) := hb.append (btake hp)
    have hyl : (x ++ p.take j).length ≤ 29999 := by rw [List.length_append, List.length_take]; omega
    rw [ey]
    generalize x ++ p.take j = y at *
    have hrB := lt_of_get hI.o
    have hqB := lt_of_get hB
    have ho := hI.o
    have hlen8 : (lat y).length ≤ 8 := by unfold lat; rw [List.length_drop]; omega
    have hlt := congrArg (List.map D.int) (fl_lat (x := y) (b := b))
    rw [List.map_append, List.map_cons, List.map_nil] at hlt
    have cl : cutD ((lat y).map D.int) (some (-7)) none = ((lat y).drop ((lat y).length - 7)).map D.int := by
      have := cut_negL (l := (lat y).map D.int) (p := 7) (by decide)
      rw [List.length_map, rmap_drop] at this; exact this
    have hdl : ((lat y).drop ((lat y).length - 7)).length ≤ 8 := by rw [List.length_drop]; omega
    generalize (lat y).drop ((lat y).length - 7) = dl at *
    have hsb : ∀ l, (sn y).map (· ++ [b]) = some l → Bits l ∧ l.length ≤ 30000 := by
      intro l e
      obtain ⟨l', e', rfl⟩ := Option.map_eq_some_iff.mp e
      unfold sn at e'
      obtain ⟨n, _, rfl⟩ := Option.map_eq_some_iff.mp e'
      refine ⟨(bdrop hyb).append fun z hz => by rw [List.mem_singleton] at hz; rw [hz]; exact hbb, ?_⟩
      rw [List.length_append, List.length_singleton, List.length_drop]; omega
    have fin : ∀ (s2 : Option Nat) (B2 : Hs), (s2 = s') → IsR B2 r c (lat (y ++ [b])) s2 ((sn y).map (· ++ [b])) → B2[A1.length]? = some (.lst (L.map fun z => rw_ z.2)) → Fr (r :: s.toList) A B2 → Trn (fun e B => ∃ L s' o3 o4, e = [some (.ref r), some (.tup (p.map D.int)), some (.ref A1.length), o3, o4] ∧ IsR B r c (lat (y ++ [b])) s' (sn (y ++ [b])) ∧ (s' = s ∨ ∃ k, s' = some k ∧ A.length ≤ k) ∧ s' ≠ some A1.length ∧ Tl c (y ++ [b]) = Tl c x ++ L ∧ B[A1.length]? = some (.lst (L.map fun z => rw_ z.2)) ∧ L.length ≤ j + 1 ∧ Fr (r :: s.toList) A B) (fun rs => Rk (finR (seqR rs (sRet (eVar 2)))) fun v A1 => ∃ q s' L, v = .ref q ∧ A.length ≤ q ∧ IsR A1 r c (lat (x ++ p)) s' (sn (x ++ p)) ∧ (s' = s ∨ ∃ k, s' = some k ∧ A.length ≤ k) ∧ s' ≠ some q ∧ Tl c (x ++ p) = Tl c x ++ L ∧ A1[q]? = some (.lst (L.map fun z => rw_ z.2)) ∧ Fr (r :: s.toList) A A1) (tkF [some (.ref r), some (.tup (p.map D.int)), some (.ref A1.length), some (.int b), o4] B2) := by
      rintro s2 B2 rfl h2 hB2 fB2
      have nB2 := fB2.le
      have hq2 := lt_of_get hB2
      refine Trn.imp (tkF_ok (P := some (.tup (p.map D.int))) (bb := some (.int b)) (o4 := o4) hc h2 hsb hB2 (by rw [List.length_map]; omega) hne) ?_
      rintro _ B3 ⟨o4', s3, rfl, h3, hs3, hq3, f3⟩
      have en : (if fl (y ++ [b]) = true then tn c ((sn y).map (· ++ [b])) else none) = nw c (y ++ [b]) := nw_snoc.symm
      have es : (if fl (y ++ [b]) = true then some [] else (sn y).map (· ++ [b])) = sn (y ++ [b]) := sn_snoc.symm
      rw [en] at hq3
      rw [es] at h3
      refine ⟨L ++ ((nw c (y ++ [b])).map fun d => (y.length, d)).toList, s3, _, o4', rfl, h3, ?_, ?_, by rw [Tl_snoc, hT, List.append_assoc], ?_, ?_, ?_⟩
      · rcases hs3 with rfl | ⟨k, rfl, hk⟩
        · exact hs'
        · exact .inr ⟨k, rfl, by omega⟩
      · rcases hs3 with rfl | ⟨k, rfl, hk⟩
        · exact hne
        · intro z; cases z; omega
      · rw [hq3, List.map_append]
        cases nw c (y ++ [b]) <;> rfl
      · rw [List.length_append]
        cases nw c (y ++ [b]) with
        | none => show L.length + 0 ≤ _; omega
        | some d => show L.length + 1 ≤ _; omega
      · refine ⟨by have := fB2.1; have := f3.1; omega, fun i hi hn => ?_⟩
        rw [f3.2 i (by omega) (by simp at hn ⊢; omega), fB2.2 i hi hn]
    have hl := hI.l
    cases s' with
    | none =>
      cases e2 : sn y with
      | some l => rw [e2] at hl; exact hl.elim
      | none =>
        rw [e2] at fin
        unfold rfs sv rw_ at ho
        simp_arith [ho, cl, hlt]
        refine fin none _ rfl ⟨?_, trivial⟩ ?_ (fB.then_set (.inl List.mem_cons_self))
        · unfold rfs sv
          exact z9m hrB
        · rw [z40 (by omega)]; exact hB
    | some k =>
      cases e2 : sn y with
      | none => rw [e2] at hl; exact hl.elim
      | some l =>
        rw [e2] at fin hl
        have hkB : B[k]? = some (.lst (l.map D.int)) := hl
        unfold rfs sv rw_ at ho
        have hrk : r ≠ k := by rintro rfl; rw [hkB] at ho; cases ho
        have hkq : k ≠ A1.length := by rintro rfl; exact hne rfl
        have nk := lt_of_get hkB
        have hll : (l.map D.int).length + 1 ≤ 16000000 := by
          have := (hsb (l ++ [b]) (by rw [e2]; rfl)).2
          rw [List.length_append, List.length_singleton] at this
          rw [List.length_map]; omega
        simp_arith [ho, cl, hlt, hkB]
        refine fin (some k) _ rfl ⟨?_, ?_⟩ ?_ ((fB.then_set (.inl List.mem_cons_self)).then_set ?_)
        · unfold rfs sv
          rw [z40 (Ne.symm hrk)]
          exact z9m hrB
        · show _ = some (O.lst ((l ++ [b]).map D.int))
          rw [z9m (by rw [List.length_set]; omega), List.map_append]
          rfl
        · rw [z40 hkq, z40 (by omega)]; exact hB
        · rcases hs' with h | ⟨k', h, hk'⟩
          · rw [← h]; exact .inl (by simp)
          · cases h; exact .inr hk'
  · rintro _ B ⟨L, s', o3, o4, rfl, hI, hs', hne, hT, hB, hLl, fB⟩
    rw [List.length_map, List.take_length] at hI hT
    simp_arith []
    exact ⟨A1.length, s', L, rfl, n1, hI, hs', hne, hT, hB, fB⟩

/-! the law's own frames -/
open DL (bl dv Bits bitsOf Bytes)
/-! rows compared by the law -/
open DL (bl dv Bits bitsOf Bytes)
theorem same_row_ok {A : Hs} {l : List Int} (hl : l.length ≤ 30000) : F_l_same_row [rw_ l, rw_ l] A = .ok (.bl true) (A ++ [.lst []]) := by
  have e := oNe_rows (a := l) (b := l) (A := A)
  rw [decide_eq_true rfl] at e
  unfold rw_ at e
  unfold F_l_same_row rw_
  simp_arith [e]
  rw [lc_go (fun _ => false) (fun d => d) trivial (by rw [List.length_map]; omega)]
  rotate_left
  · intro d hd
    obtain ⟨b, hb, rfl⟩ := List.mem_map.mp hd
    show Got _ _
    simp_arith []
    first | exact fun z => by cases z | trivial
  have ef : ((l.map D.int).filter fun _ => false) = [] := List.filter_eq_nil_iff.mpr (by simp)
  rw [ef]
  simp_arith []
  rfl
/-! what is told last -/
theorem Tl_nil {c : Nat} : Tl c [] = [] := rfl
theorem Tl_app {c : Nat} : ∀ (y x : List Int), ∃ L, Tl c (x ++ y) = Tl c x ++ L ∧ ∀ z ∈ L, x.length ≤ z.1
  | [], x => ⟨[], by rw [List.append_nil, List.append_nil], by simp⟩
  | b :: y, x => by
    obtain ⟨L, e1, e2⟩ := Tl_app y (x ++ [b])
    rw [List.append_assoc, Tl_snoc] at e1
    refine ⟨((nw c (x ++ [b])).map fun d => (x.length, d)).toList ++ L, by rw [← List.append_assoc]; exact e1, ?_⟩
    intro z hz
    rcases List.mem_append.mp hz with h | h
    · cases q : nw c (x ++ [b]) with
      | none => rw [q] at h; cases h
      | some d =>
        rw [q] at h
        have : z = (x.length, d) := by simpa using h
        rw [this]; exact Nat.le_refl _
    · have := e2 z h
      rw [List.length_append] at this; omega
theorem Tl_lt {c : Nat} {x : List Int} {z : Nat × List Int} (h : z ∈ Tl c x) : z.1 < x.length := by
  unfold Tl at h
  obtain ⟨n, hn, e⟩ := List.mem_filterMap.mp h
  obtain ⟨d, _, rfl⟩ := Option.map_eq_some_iff.mp e
  exact List.mem_range.mp hn
/-- ones at the end -/
def on_ : Nat → List Int → Nat
  | n, [] => n
  | n, b :: r => on_ (if b = 1 then n + 1 else 0) r
theorem on_app : ∀ (x y : List Int) (n : Nat), on_ n (x ++ y) = on_ (on_ n x) y
  | [], _, _ => rfl
  | b :: x, y, n => by
    show on_ (if b = 1 then n + 1 else 0) (x ++ y) = _
    rw [on_app x y]; rfl
theorem on_fl {x : List Int} (h : fl x = true) : on_ 0 x.dropLast = 6 := by
  unfold fl at h
  have h := of_decide_eq_true h
  have e : x = x.take (x.length - 8) ++ flg := by rw [← h, List.take_append_drop]
  rw [e]
  have : (x.take (x.length - 8) ++ flg).dropLast = x.take (x.length - 8) ++ [0, 1, 1, 1, 1, 1, 1] := by
    rw [List.dropLast_append_of_ne_nil (by decide)]; rfl
  rw [this, on_app]
  rfl
theorem on_st : ∀ {l : List Int}, Bits l → ∀ n, n ≤ 4 → ∀ t, on_ n ((st n l).take t) ≤ 5
  | [], _, n, hn, t => by
    show on_ n (([] : List Int).take t) ≤ 5
    rw [List.take_nil]
    show n ≤ 5
    omega
  | b :: r, h, n, hn, 0 => by
    show n ≤ 5
    omega
  | b :: r, h, n, hn, t + 1 => by
    rw [st]
    rcases (bhd h) with rfl | rfl
    · rw [if_neg (by decide)]
      exact on_st (btl h) 0 (by omega) t
    · rw [if_pos rfl]
      by_cases c : n = 4
      · subst c
        rw [if_pos rfl]
        cases t with
        | zero => exact Nat.le_refl 5
        | succ t => exact on_st (btl h) 0 (by omega) t
      · rw [if_neg c]
        exact on_st (btl h) (n + 1) (by omega) t
theorem fl_end {x : List Int} : fl (x ++ flg) = true := by
  unfold fl
  rw [List.length_append]
  have l8 : flg.length = 8 := rfl
  rw [l8, Nat.add_sub_cancel, List.drop_left]
  rfl
theorem no_fl {Y l : List Int} (h : Bits l) {t : Nat} (ht : t < (st 0 l).length + 7) : fl (Y ++ flg ++ (st 0 l ++ flg).take (t + 1)) = false := by
  rw [Bool.eq_false_iff]
  intro hf
  have h6 := on_fl hf
  have l8 : flg.length = 8 := rfl
  have hne : (st 0 l ++ flg).take (t + 1) ≠ [] := by
    intro z
    have := congrArg List.length z
    rw [List.length_take, List.length_append, l8] at this
    simp at this
  rw [List.dropLast_append_of_ne_nil hne, List.dropLast_eq_take, List.length_take, List.length_append, l8, List.take_take, on_app, on_app] at h6
  have e1 : min (min (t + 1) ((st 0 l).length + 8) - 1) (t + 1) = t := by omega
  rw [e1] at h6
  have e0 : ∀ n, on_ n flg = 0 := fun n => rfl
  rw [e0, List.take_append, on_app] at h6
  have h5 := on_st h 0 (by omega) t
  obtain ⟨j, hj⟩ : ∃ j, j = t - (st 0 l).length := ⟨_, rfl⟩
  rw [← hj] at h6
  have hj7 : j ≤ 6 := by omega
  rcases (by omega : j = 0 ∨ j = 1 ∨ j = 2 ∨ j = 3 ∨ j = 4 ∨ j = 5 ∨ j = 6) with q | q | q | q | q | q | q <;> subst q <;> simp [flg, on_] at h6 <;> omega
theorem sn_in {Y l : List Int} (h : Bits l) : ∀ t, t ≤ (st 0 l).length + 7 → sn (Y ++ flg ++ (st 0 l ++ flg).take t) = some ((st 0 l ++ flg).take t)
  | 0, _ => by
    rw [List.take_zero, List.append_nil]
    have e : Y ++ flg = (Y ++ [0, 1, 1, 1, 1, 1, 1]) ++ [0] := by rw [List.append_assoc]; rfl
    have hf := fl_end (x := Y)
    rw [e] at hf ⊢
    rw [sn_snoc, if_pos hf]
  | t + 1, ht => by
    have ih := sn_in (Y := Y) h t (by omega)
    have hf := no_fl (Y := Y) h (t := t) (by omega)
    have l8 : flg.length = 8 := rfl
    obtain ⟨b, hb⟩ : ∃ b, (st 0 l ++ flg)[t]? = some b := ⟨_, List.getElem?_eq_getElem (by rw [List.length_append]; omega)⟩
    have e : (st 0 l ++ flg).take (t + 1) = (st 0 l ++ flg).take t ++ [b] := by rw [List.take_succ, hb]; rfl
    rw [e, ← List.append_assoc] at hf ⊢
    rw [sn_snoc, hf, ih]
    rfl
/-! the program's own framed -/
open DL (bl dv Mu Bits gath gathA bitsN gN bitsOf Bytes)
theorem bits_by_ok {n w : Nat} {A : Hs} (h : n < 2 ^ w) (hw : w ≤ 1000) : ∃ A1, F_bits_by [.int (n : Int), .int (w : Int)] A = .ok (rw_ (bitsN (n : Int) w)) A1 ∧ Fr [] A A1 := by
  have hz : ((n : Int) / 2 ^ w) = 0 := by
    have : (n : Int) < 2 ^ w := by exact_mod_cast h
    exact Int.ediv_eq_zero_of_lt (by omega) this
  have n0 : ¬ (n : Int) < 0 := by omega
  refine ⟨A ++ [.lst ((bitsN (n : Int) w).map D.int)], ?_, .push⟩
  have sp : F_spread [.int (n : Int), .int (w : Int)] A = .ok (.ref A.length) (A ++ [.lst ((bitsN (n : Int) w).map D.int)]) := by
    unfold F_spread
    simp_arith []
    rw [lc_go (fun _ => true) (fun d => match d with | .int k => .int ((n : Int) / 2 ^ (w - 1 - k.toNat) % 2) | _ => .non) trivial (by rw [rgL_len]; omega)]
    rotate_left
    · intro d hd
      obtain ⟨j, hj, rfl⟩ := mem_rgL hd
      have e1 : (w : Int) - 1 - (0 + (j : Int) * 1) = ((w - 1 - j : Nat) : Int) := by omega
      have e2 : (0 + (j : Int) * 1).toNat = j := by omega
      show Got _ _
      simp_arith [e1, oShr_i, oAnd_i, bitAnd1, Int.toNat_natCast, e2]
      first | exact fun _ => rfl | exact fun _ => trivial | trivial
    rw [List.filter_eq_self.mpr (by simp)]
    have : (rgL 0 1 (w : Int).toNat).map (fun d => match d with | .int k => D.int ((n : Int) / 2 ^ (w - 1 - k.toNat) % 2) | _ => .non) = (bitsN (n : Int) w).map D.int := by
      unfold rgL DL.bitsN
      rw [List.map_map, List.map_map, Int.toNat_natCast]
      refine List.map_congr_left fun k hk => ?_
      simp only [Function.comp]
      have : (0 + (k : Int) * 1).toNat = k := by omega
      rw [this]
    rw [this]
    simp_arith []
  unfold F_bits_by rw_
  simp_arith [n0, oShr_i, Int.toNat_natCast, hz, sp, zab]
theorem coded_ok {c : Nat} {l : List Int} {A : Hs} (hc : Cn c) (h : Bits l) (hl : l.length ≤ 9000) : ∃ A1, F_coded [rw_ l, .int (c : Int)] A = .ok (rw_ (cdd c l)) A1 ∧ Fr [] A A1 := by
  have lo := hc.lo
  have hb := hc.bl
  have c0 : c ≠ 0 := by omega
  obtain ⟨A1, e1, f1⟩ := number_by_ok (A := A) h (by omega)
  have hlt : gN l < 2 ^ l.length := DL.gN_lt h
  have b1 : bl (gN l) ≤ l.length := bl_small hlt
  have hlt2 : gN l <<< (bl c - 1) < 2 ^ (l.length + (bl c - 1)) := by
    rw [Nat.shiftLeft_eq, Nat.pow_add]
    exact Nat.mul_lt_mul_of_pos_right hlt (Nat.pow_pos (by decide))
  have dk := divided_ok (A := A1) (c := c) (n := gN l <<< (bl c - 1)) c0 (Nat.le_trans (bl_small hlt2) (by omega)) (by omega)
  have lt := DL.bl_lt.mp (DL.dv_lt c0 (gN l <<< (bl c - 1)))
  obtain ⟨A2, e2, f2⟩ := bits_by_ok (A := A1) lt.1 (by omega)
  refine ⟨A2, ?_, f1.trans f2⟩
  have sh := oShl_n (x := gN l) (k := bl c - 1) (A := A1) (by omega)
  unfold F_coded
  simp_arith [need_code_ok hc, width_ok hc, e1, sh, dk, e2]
  unfold rw_ cdd
  have len : ((l.map D.int).length + ((bitsN ((dv c (gN l <<< (bl c - 1)) : Nat) : Int) (bl c - 1)).map D.int).length) ≤ 16000000 := by rw [List.length_map, List.length_map, DL.bitsN_len]; omega
  simp_arith [len, List.map_append]
theorem is_data_ok {ds : List Int} {A : Hs} (h : ∀ b ∈ ds, 0 ≤ b ∧ b ≤ 255) (hl : ds.length ≤ 1000) : ∃ A1, F_is_data [.tup (ds.map D.int)] A = .ok (.bl true) A1 ∧ Fr [] A A1 := by
  have key : lcL (gN 1) tYe (eCall0 F_is_whole (aCons (eVar 1) (aCons (eC (.int 0)) (aCons (eC (.int 255)) aNil)))) tt [some (.tup (ds.map D.int)), none] (ds.map D.int) [] A = .ok (((ds.map D.int).filter fun _ => true).map fun _ => D.bl true) A := by
    refine lc_go _ _ trivial (by simp; omega) fun d hd => ?_
    obtain ⟨b, hb, rfl⟩ := List.mem_map.mp hd
    have := h b hb
    simp_arith [is_whole_ok]
    simp [this.1, this.2]
  refine ⟨_, ?_, .push (u := .lst (ds.map fun _ => .bl true))⟩
  have e : ∀ l : List Int, boolsOf (l.map fun _ => D.bl true) = some (l.map fun _ => true) := fun l => by
    have := z00 (l.map fun _ => true)
    rwa [List.map_map] at this
  have e2 : ((ds.map D.int).filter fun _ => true).map (fun _ => D.bl true) = ds.map fun _ => D.bl true := by
    rw [List.filter_eq_self.mpr (by simp), List.map_map]; rfl
  rw [e2] at key
  unfold F_is_data
  simp_arith [key, e]
  simp

theorem spread8 {b : Int} {A : Hs} : F_spread [.int b, .int 8] A = .ok (.ref A.length) (A ++ [.lst ((bitsN b 8).map D.int)]) := by
  unfold F_spread
  simp_arith []
  rw [lc_go (fun _ => true) (fun d => match d with | .int k => .int (b / 2 ^ (8 - 1 - k.toNat) % 2) | _ => .non) trivial (by rw [rgL_len]; decide)]
  rotate_left
  · intro d hd
    obtain ⟨j, hj, rfl⟩ := mem_rgL hd
    have e1 : (8 : Int) - 1 - (0 + (j : Int) * 1) = ((8 - 1 - j : Nat) : Int) := by omega
    have e1' : (7 : Int) - (0 + (j : Int) * 1) = ((8 - 1 - j : Nat) : Int) := by omega
    have e2 : (0 + (j : Int) * 1).toNat = j := by omega
    show Got _ _
    simp_arith [e1, e1', oShr_i, oAnd_i, bitAnd1, Int.toNat_natCast, e2]
    first | exact fun _ => rfl | exact fun _ => trivial | trivial
  rw [List.filter_eq_self.mpr (by simp)]
  have : (rgL 0 1 8).map (fun d => match d with | .int k => D.int (b / 2 ^ (8 - 1 - k.toNat) % 2) | _ => .non) = (bitsN b 8).map D.int := by
    unfold rgL DL.bitsN
    rw [List.map_map, List.map_map]
    refine List.map_congr_left fun k hk => ?_
    simp only [Function.comp]
    have : (0 + (k : Int) * 1).toNat = k := by omega
    rw [this]
  rw [this]
  simp_arith []
theorem oIAdd_l {A : Hs} {i j : Nat} {l k : List D} (h : A[i]? = some (.lst l)) (g : A[j]? = some (.lst k)) (hl : l.length + k.length ≤ 16000000) : oIAdd (.ref i) (.ref j) A = .ok (.ref i) (A.set i (.lst (l ++ k))) := by
  unfold oIAdd
  simp only [h, g]
  rw [if_pos (z08 hl)]
theorem bits_of_ok {ds : List Int} {A : Hs} (hb : Bytes ds) (hl : ds.length ≤ 1000) : ∃ A1, F_bits_of [rw_ ds] A = .ok (rw_ (bitsOf ds)) A1 ∧ Fr [] A A1 := by
  suffices H : Rk (F_bits_of [rw_ ds] A) fun v A1 => v = rw_ (bitsOf ds) ∧ Fr [] A A1 by
    obtain ⟨_, A1, e, rfl, f⟩ := H.ex; exact ⟨A1, e, f⟩
  obtain ⟨A1, e1, f1⟩ := is_data_ok (A := A) hb (by omega)
  unfold F_bits_of rw_
  simp_arith [e1]
  refine for_go (R := fun rs => Rk (finR (seqR rs _)) _) (fun j e B => ∃ o, e = [some (.tup (ds.map D.int)), some (.ref A1.length), o] ∧ B[A1.length]? = some (.lst ((bitsOf (ds.take j)).map D.int)) ∧ Fr [] A B) ⟨none, rfl, by rw [List.take_zero]; exact zab, f1.then_push⟩ (fun _ _ _ _ _ => trivial) ?_ ?_
  · rintro j _ B d hd ⟨o, rfl, hB, fB⟩
    have n1 := f1.le
    rw [List.getElem?_map] at hd
    obtain ⟨b, hbj, rfl⟩ := Option.map_eq_some_iff.mp hd
    have hl2 := DL.bitsOf_len (ds.take j)
    rw [List.length_take] at hl2
    have hll : ((bitsOf (ds.take j)).map D.int).length + ((bitsN b 8).map D.int).length ≤ 16000000 := by rw [List.length_map, List.length_map, DL.bitsN_len]; omega
    have nB := lt_of_get hB
    have nA := lt_of_get hB
    have ei := oIAdd_l (A := B ++ [.lst ((bitsN b 8).map D.int)]) (get_push hB) zab hll
    simp_arith [spread8, hB, ei]
    refine ⟨_, rfl, ?_, fB.then_push.then_set (.inr (by omega))⟩
    rw [take_snoc hbj, DL.bitsOf_append, List.map_append]
    congr 3
  · rintro _ B ⟨o, rfl, hB, fB⟩
    rw [List.length_map, List.take_length] at hB
    simp_arith [hB]
    exact fB
theorem stuffed_ok {l : List Int} {A : Hs} (h : Bits l) (hl : l.length ≤ 20000) : ∃ A1, F_stuffed [rw_ l] A = .ok (rw_ (st 0 l)) A1 ∧ Fr [] A A1 := by
  suffices H : Rk (F_stuffed [rw_ l] A) fun v A1 => v = rw_ (st 0 l) ∧ Fr [] A A1 by
    obtain ⟨_, A1, e, rfl, f⟩ := H.ex; exact ⟨A1, e, f⟩
  obtain ⟨A1, e1, f1⟩ := need_bits_ok (A := A) h (by omega)
  have n1 := f1.le
  unfold rw_ at e1
  unfold F_stuffed rw_
  simp_arith [e1]
  refine for_go (R := fun rs => Rk (finR (seqR rs _)) _) (fun j e B => ∃ (fnd : List Int) (n : Nat) (o : Option D), e = [some (.tup (l.map D.int)), some (.ref A1.length), some (.int (n : Nat)), o] ∧ B[A1.length]? = some (.lst (fnd.map D.int)) ∧ Fr [] A B ∧ n ≤ 4 ∧ fnd.length ≤ 2 * j ∧ st 0 l = fnd ++ st n (l.drop j))
    ⟨[], 0, none, rfl, zab, f1.then_push, by omega, Nat.zero_le _, by rw [List.drop_zero]; rfl⟩ (fun _ _ _ _ _ => trivial) ?_ ?_
  · rintro j _ B d hd ⟨fnd, n, o, rfl, hB, fB, hn, hf, hp⟩
    have hj := lt_of_get hd
    rw [List.length_map] at hj
    rw [List.getElem?_map] at hd
    obtain ⟨b, hb, rfl⟩ := Option.map_eq_some_iff.mp hd
    have hbb := h b (List.mem_of_getElem? hb)
    have ed : l.drop j = b :: l.drop (j + 1) := by
      rw [List.drop_eq_getElem_cons hj]
      congr 1
      rw [List.getElem?_eq_getElem hj] at hb
      exact Option.some.inj hb
    rw [ed, st] at hp
    have hBl := lt_of_get hB
    have hl2 : (fnd.map D.int).length + 1 ≤ 16000000 := by rw [List.length_map]; omega
    rcases hbb with rfl | rfl
    · rw [if_neg (by decide)] at hp
      simp_arith [hB]
      refine ⟨fnd ++ [0], 0, _, rfl, by simp_arith [List.map_append], fB.then_set (.inr (by omega)), by omega, by rw [List.length_append, List.length_singleton]; omega, by rw [hp, List.append_assoc]; rfl⟩
    · rw [if_pos rfl] at hp
      by_cases c : n = 4
      · subst c
        rw [if_pos rfl] at hp
        have hl3 : (fnd.map D.int ++ [D.int 1]).length + 1 ≤ 16000000 := by rw [List.length_append, List.length_map, List.length_singleton]; omega
        simp_arith [hB]
        exact ⟨fnd ++ [1] ++ [0], 0, _, rfl, by simp_arith [List.map_append], fB.then_set (.inr (by omega)), by omega, by simp only [List.length_append, List.length_singleton]; omega, by rw [hp, List.append_assoc, List.append_assoc]; rfl⟩
      · rw [if_neg c] at hp
        have c' : ¬ (n : Int) + 1 = 5 := by omega
        simp_arith [hB, c']
        exact ⟨fnd ++ [1], n + 1, _, rfl, by simp_arith [List.map_append], fB.then_set (.inr (by omega)), by omega, by rw [List.length_append, List.length_singleton]; omega, by rw [hp, List.append_assoc]; rfl⟩
  · rintro _ B ⟨fnd, n, o, rfl, hB, fB, hn, hf, hp⟩
    rw [List.length_map, List.drop_length, st, List.append_nil] at hp
    simp_arith [hB]
    exact ⟨by rw [hp], fB⟩
theorem framed_ok {c : Nat} {ds : List Int} {A : Hs} (hc : Cn c) (hb : Bytes ds) (h1 : 1 ≤ ds.length) (hl : ds.length ≤ 1000) : ∃ A1, F_framed [rw_ ds, .int (c : Int)] A = .ok (rw_ (flg ++ st 0 (cdd c (bitsOf ds)) ++ flg)) A1 ∧ Fr [] A A1 := by
  have b17 := hc.bl
  have hbb := DL.bitsOf_bits ds
  have hbl := DL.bitsOf_len ds
  have hcl := cdd_len (c := c) (l := bitsOf ds)
  have hsl := st_len (cdd c (bitsOf ds)) 0
  have hne : ds ≠ [] := by rintro rfl; simp at h1
  obtain ⟨A1, e1, f1⟩ := bits_of_ok (A := A) hb (by omega)
  obtain ⟨A2, e2, f2⟩ := coded_ok (A := A1) hc hbb (by omega)
  obtain ⟨A3, e3, f3⟩ := stuffed_ok (A := A2) (cdd_bits (c := c) hbb) (by omega)
  refine ⟨A3, ?_, (f1.trans f2).trans f3⟩
  have e0 : oEq (rw_ ds) (.tup []) A = .ok (.bl false) A := by
    have := oEq_rows (a := ds) (b := []) (A := A)
    rw [decide_eq_false hne] at this
    exact this
  have hsn : st 0 (cdd c (bitsOf ds)) ≠ [] := by
    intro z
    have h3 := DL.bitsOf_len ds
    rcases hq : cdd c (bitsOf ds) with _ | ⟨b, r⟩
    · rw [hq] at hcl; simp at hcl; omega
    · rw [hq, st] at z
      split at z
      · split at z <;> cases z
      · cases z
  generalize st 0 (cdd c (bitsOf ds)) = S at *
  have a1 : oAdd (.wt [.int 0, .int 1, .int 1, .int 1, .int 1, .int 1, .int 1, .int 0]) (.tup (S.map D.int)) A3 = .ok (.tup ((flg ++ S).map D.int)) A3 := by
    have e : (S.map D.int).isEmpty = false := by
      cases S with
      | nil => exact absurd rfl hsn
      | cons b S => rfl
    unfold oAdd
    simp only
    rw [if_pos ⟨by simp, z08 (by rw [List.length_map]; simp; omega)⟩, e, List.map_append]
    rfl
  have a2 : oAdd (.tup ((flg ++ S).map D.int)) (.wt [.int 0, .int 1, .int 1, .int 1, .int 1, .int 1, .int 1, .int 0]) A3 = .ok (.tup ((flg ++ S ++ flg).map D.int)) A3 := by
    have e : ((flg ++ S).map D.int).isEmpty = false := rfl
    unfold oAdd
    simp only
    rw [if_pos ⟨by simp, z08 (by rw [List.length_map, List.length_append]; simp [flg]; omega)⟩, e, List.map_append (l₁ := flg ++ S)]
    rfl
  unfold F_framed
  unfold rw_ at *
  simp_arith [e0, e1, e2, e3, a1, a2]

/-! the law's own frames, with wide bounds -/
open DL (bl dv Mu Bits gath gathA bitsN gN bitsOf Bytes)
theorem l_of_bytes_ok {ds : List Int} {A : Hs} (hl : ds.length ≤ 2000) : ∃ A1, F_l_of_bytes [rw_ ds] A = .ok (rw_ (bitsOf ds)) A1 ∧ Fr [] A A1 := by
  suffices H : Rk (F_l_of_bytes [rw_ ds] A) fun v A1 => v = rw_ (bitsOf ds) ∧ Fr [] A A1 by
    obtain ⟨_, A1, e, rfl, f⟩ := H.ex; exact ⟨A1, e, f⟩
  unfold F_l_of_bytes rw_
  simp_arith []
  refine for_go (R := fun rs => Rk (finR (seqR rs _)) _) (fun j e B => ∃ o2 o3, e = [some (.tup (ds.map D.int)), some (.ref A.length), o2, o3] ∧ B[A.length]? = some (.lst ((bitsOf (ds.take j)).map D.int)) ∧ Fr [] A B) ⟨none, none, rfl, zab, .push⟩ (fun _ _ _ _ _ => trivial) ?_ ?_
  · rintro j _ B d hd ⟨o2, o3, rfl, hB, fB⟩
    have hj := lt_of_get hd
    rw [List.length_map] at hj
    rw [List.getElem?_map] at hd
    obtain ⟨b, hb, rfl⟩ := Option.map_eq_some_iff.mp hd
    have hBl := lt_of_get hB
    have e8 : rgL 0 1 (8 : Int).toNat = rgL 0 1 8 := rfl
    have key : lcL (SM.gN 3) tYe (eOp oAnd (eOp oShr (eVar 2) (eOp oSub (eC (.int 7)) (eVar 3))) (eC (.int 1))) tt [some (.tup (ds.map D.int)), some (.ref A.length), some (.int b), none] (rgL 0 1 8) [] B = .ok ((bitsN b 8).map D.int) B := by
      rw [lc_go (fun _ => true) (fun d => match d with | .int k => .int (b / 2 ^ (8 - 1 - k.toNat) % 2) | _ => .non) trivial (by rw [rgL_len]; omega)]
      rotate_left
      · intro d hd
        obtain ⟨i, hi, rfl⟩ := mem_rgL hd
        have e1 : (7 : Int) - (0 + (i : Int) * 1) = ((8 - 1 - i : Nat) : Int) := by omega
        have e2 : (0 + (i : Int) * 1).toNat = i := by omega
        show Got _ _
        simp_arith [e1, oShr_i, oAnd_i, bitAnd1, Int.toNat_natCast, e2]
        first | exact fun _ => rfl | exact fun _ => trivial | trivial
      rw [List.filter_eq_self.mpr (by simp)]
      unfold rgL DL.bitsN
      rw [List.map_map, List.map_map]
      congr 1
      all_goals
        refine List.map_congr_left fun k hk => ?_
        simp only [Function.comp]
        have : (0 + (k : Int) * 1).toNat = k := by omega
        rw [this]
    have hlen : ((bitsOf (ds.take j)).map D.int).length + ((bitsN b 8).map D.int).length ≤ 16000000 := by
      rw [List.length_map, List.length_map, DL.bitsOf_len, DL.bitsN_len, List.length_take]; omega
    have es : bitsOf (ds.take (j + 1)) = bitsOf (ds.take j) ++ bitsN b 8 := by
      rw [take_snoc hb, DL.bitsOf_append]
      congr 1
      all_goals (unfold bitsOf; simp)
    simp_arith [hB, e8, key]
    refine ⟨_, _, rfl, ?_, (fB.then_push).then_set (.inr (Nat.le_refl _))⟩
    rw [es]
    simp_arith [List.map_append]
  · rintro _ B ⟨o2, o3, rfl, hB, fB⟩
    simp_arith [hB]
    exact ⟨by rw [List.take_length], fB⟩

theorem l_framed_ok {c : Nat} {ds : List Int} {A : Hs} (hc : Cn c) (hl : ds.length ≤ 2000) : ∃ A1, F_l_framed [rw_ ds, .int (c : Int)] A = .ok (rw_ (flg ++ st 0 (cdd c (bitsOf ds)) ++ flg)) A1 ∧ Fr [] A A1 := by
  have b17 := hc.bl
  have hb := DL.bitsOf_bits ds
  have hbl := DL.bitsOf_len ds
  have hcl := cdd_len (c := c) (l := bitsOf ds)
  obtain ⟨A1, e1, f1⟩ := l_of_bytes_ok (ds := ds) (A := A) (by omega)
  obtain ⟨A2, e2, f2⟩ := l_coded_ok (A := A1) hc hb (by omega)
  obtain ⟨A3, e3, f3⟩ := l_stuffed_ok (A := A2) (cdd_bits (c := c) hb) (by omega)
  have hsl := st_len (cdd c (bitsOf ds)) 0
  obtain ⟨S, hS⟩ : ∃ S, S = st 0 (cdd c (bitsOf ds)) := ⟨_, rfl⟩
  rw [← hS] at e3 hsl ⊢
  have ef : [D.int 0, .int 1, .int 1, .int 1, .int 1, .int 1, .int 1, .int 0] = flg.map D.int := rfl
  have l8 : (flg.map D.int).length = 8 := rfl
  have h1 : (flg.map D.int).length + (S.map D.int).length ≤ 16000000 := by rw [l8, List.length_map]; omega
  have h2 : (flg.map D.int ++ S.map D.int).length + (flg.map D.int).length ≤ 16000000 := by rw [List.length_append, l8, List.length_map]; omega
  refine ⟨A3, ?_, (f1.trans f2).trans f3⟩
  unfold rw_ at e1 e2 e3
  unfold F_l_framed rw_
  simp_arith [ef, e1, e2, e3, h1, h2]
  simp only [List.map_append]

/-! exactly what is told -/
open DL (bl dv Bits bitsOf Bytes dataOf)
theorem Tl_in {c : Nat} {Y l : List Int} (h : Bits l) : ∀ t, t ≤ (st 0 l).length + 7 → Tl c (Y ++ flg ++ (st 0 l ++ flg).take t) = Tl c (Y ++ flg)
  | 0, _ => by rw [List.take_zero, List.append_nil]
  | t + 1, ht => by
    have ih := Tl_in (c := c) (Y := Y) h t (by omega)
    have hf := no_fl (Y := Y) h (t := t) (by omega)
    have l8 : flg.length = 8 := rfl
    obtain ⟨b, hb⟩ : ∃ b, (st 0 l ++ flg)[t]? = some b := ⟨_, List.getElem?_eq_getElem (by rw [List.length_append]; omega)⟩
    have e : (st 0 l ++ flg).take (t + 1) = (st 0 l ++ flg).take t ++ [b] := by rw [List.take_succ, hb]; rfl
    rw [e, ← List.append_assoc] at hf ⊢
    rw [Tl_snoc, nw_snoc, hf, ih]
    simp
theorem Tl_mid {c : Nat} {Y l : List Int} (h : Bits l) : Tl c (Y ++ (flg ++ st 0 l ++ flg)) = Tl c (Y ++ flg) ++ ((fr c (st 0 l)).map fun d => (Y.length + (flg ++ st 0 l ++ flg).length - 1, d)).toList := by
  have hsn := sn_in (Y := Y) h ((st 0 l).length + 7) (Nat.le_refl _)
  have hTl := Tl_in (c := c) (Y := Y) h ((st 0 l).length + 7) (Nat.le_refl _)
  have l8 : flg.length = 8 := rfl
  generalize st 0 l = S at *
  have e7 : (S ++ flg).take (S.length + 7) = S ++ [0, 1, 1, 1, 1, 1, 1] := by
    rw [List.take_append, Nat.add_sub_cancel_left, List.take_of_length_le (by omega)]; rfl
  rw [e7] at hsn hTl
  have ex : Y ++ (flg ++ S ++ flg) = (Y ++ flg ++ (S ++ [0, 1, 1, 1, 1, 1, 1])) ++ [0] := by
    simp [flg]
  have hf : fl (Y ++ (flg ++ S ++ flg)) = true := by
    have := fl_end (x := Y ++ flg ++ S)
    simpa using this
  rw [ex] at hf
  rw [ex, Tl_snoc, nw_snoc, if_pos hf, hsn, hTl]
  congr 1
  have e2 : tn c ((some (S ++ [0, 1, 1, 1, 1, 1, 1])).map (· ++ [0])) = fr c S := by
    show (if (S ++ [0, 1, 1, 1, 1, 1, 1] ++ [0]).length < 8 then none else fr c ((S ++ [0, 1, 1, 1, 1, 1, 1] ++ [0]).take ((S ++ [0, 1, 1, 1, 1, 1, 1] ++ [0]).length - 8))) = _
    have e3 : S ++ [0, 1, 1, 1, 1, 1, 1] ++ [0] = S ++ flg := by rw [List.append_assoc]; rfl
    rw [e3, List.length_append, l8, if_neg (by omega), Nat.add_sub_cancel, List.take_left]
  rw [e2]
  simp only [List.length_append, l8, List.length_cons, List.length_nil]
  have e4 : Y.length + 8 + (S.length + (0 + 1 + 1 + 1 + 1 + 1 + 1 + 1)) = Y.length + (8 + S.length + 8) - 1 := by omega
  rw [e4]
theorem fr_nil {c : Nat} : fr c [] = none := by
  unfold fr
  show (if _ then _ else _) = _
  rw [if_neg]
  rintro ⟨h, _⟩
  have := h.1
  simp at this
theorem Tl_ff {c : Nat} {Z : List Int} : Tl c (Z ++ flg ++ flg) = Tl c (Z ++ flg) := by
  have := Tl_mid (c := c) (Y := Z) (l := []) DL.Bits.nil
  have e : st 0 ([] : List Int) = [] := rfl
  rw [e, fr_nil, List.append_nil, ← List.append_assoc] at this
  rw [this]
  simp
theorem Tl_f {c : Nat} : Tl c flg = [] := rfl
theorem fr_ok {c : Nat} {ds : List Int} (hc : Cn c) (hd : Bytes ds) (h1 : 1 ≤ ds.length) (h9 : ds.length ≤ 1000) : fr c (st 0 (cdd c (bitsOf ds))) = some ds := by
  have hcb := cdd_bits (c := c) (DL.bitsOf_bits ds)
  have hS := pl_st hcb 0 (by omega)
  have hcl := cdd_len (c := c) (l := bitsOf ds)
  have hdv := cdd_dv hc.lo (DL.bitsOf_bits ds)
  have h3 := DL.bitsOf_len ds
  have htk : (cdd c (bitsOf ds)).take ((cdd c (bitsOf ds)).length - (bl c - 1)) = bitsOf ds := by
    rw [hcl, Nat.add_sub_cancel]
    unfold cdd
    rw [List.take_left]
  unfold fr
  rw [hS]
  show (if _ then _ else _) = _
  rw [if_pos ⟨⟨by omega, by omega, by omega⟩, hdv⟩, htk, DL.dataOf_bitsOf hd]
/-- a framed row -/
def fd (c : Nat) (ds : List Int) : List Int := flg ++ st 0 (cdd c (bitsOf ds)) ++ flg
theorem fd_bits {c : Nat} {ds : List Int} : Bits (fd c ds) := (flg_bits.append (st_bits (cdd_bits (c := c) (DL.bitsOf_bits ds)) 0)).append flg_bits
theorem told_next {c : Nat} {Z ds : List Int} (hc : Cn c) (hd : Bytes ds) (h1 : 1 ≤ ds.length) (h9 : ds.length ≤ 1000) : ∃ n, Tl c (Z ++ flg ++ fd c ds) = Tl c (Z ++ flg) ++ [(n, ds)] := by
  have := Tl_mid (c := c) (Y := Z ++ flg) (cdd_bits (c := c) (DL.bitsOf_bits ds))
  rw [fr_ok hc hd h1 h9, Tl_ff] at this
  exact ⟨_, this⟩
/-! refusals -/
open DL (bl dv Mu Bits gath gathA bitsN gN dataOf bitsOf Bytes)
/-- what is_whole is asked of -/
def Kd : D → Prop
  | .int _ => True
  | .bl _ => True
  | .non => True
  | .str _ => True
  | .tup _ => True
  | _ => False
def wb : D → Bool
  | .int i => decide (0 ≤ i) && decide (i ≤ 1)
  | _ => false
theorem is_whole_d {d : D} {A : Hs} (h : Kd d) : F_is_whole [d, .int 0, .int 1] A = .ok (.bl (wb d)) A := by
  cases d with
  | int i => exact is_whole_ok
  | bl b => unfold F_is_whole; simp_arith []; rfl
  | non => unfold F_is_whole; simp_arith []; rfl
  | str x => unfold F_is_whole; simp_arith []; rfl
  | tup l => unfold F_is_whole; simp_arith []; rfl
  | _ => exact h.elim
theorem is_bits_d {ds : List D} {A : Hs} (h : ∀ d ∈ ds, Kd d) (hl : ds.length ≤ 100000) : ∃ A1, F_is_bits [.tup ds] A = .ok (.bl (ds.all wb)) A1 ∧ Fr [] A A1 := by
  refine ⟨A ++ [.lst (ds.map fun d => .bl (wb d))], ?_, .push⟩
  unfold F_is_bits
  simp_arith []
  rw [lc_go (fun _ => true) (fun d => .bl (wb d)) trivial (by omega)]
  rotate_left
  · intro d hd
    have e := fun A => is_whole_d (A := A) (h d hd)
    show Got _ _
    simp_arith [e]
    first | exact fun _ => rfl | exact fun _ => trivial | trivial
  rw [List.filter_eq_self.mpr (by simp)]
  have e : (ds.map fun d => D.bl (wb d)) = (ds.map wb).map D.bl := by rw [List.map_map]; rfl
  have e2 : boolsOf (ds.map fun d => D.bl (wb d)) = some (ds.map wb) := by rw [e, z00]
  simp_arith [e2]
  rw [List.all_map]
  rfl
/-- refused as no bits -/
def Bad (A : Hs) (d : D) : Prop := ∃ A1, F_need_bits [d] A = .exc "NoBits" A1 ∧ Fr [] A A1
theorem bad_tup {ds : List D} {A : Hs} (h : ∀ d ∈ ds, Kd d) (hl : ds.length ≤ 100000) (hw : ds.all wb = false) : Bad A (.tup ds) := by
  obtain ⟨A1, e1, f1⟩ := is_bits_d (A := A) h hl
  rw [hw] at e1
  refine ⟨A1, ?_, f1⟩
  unfold F_need_bits
  simp_arith [e1]
theorem bad_none {A : Hs} : Bad A .non := ⟨A, by unfold F_need_bits F_is_bits; simp_arith [], .refl⟩
theorem bad_str {A : Hs} {x : Str} : Bad A (.str x) := ⟨A, by unfold F_need_bits F_is_bits; simp_arith [], .refl⟩
theorem isi_lst {A : Hs} {i : Nat} {l : List D} (h : A[i]? = some (.lst l)) : oIsi os_ xs_ tb_ (.ref i) (.ty "tuple") A = .ok (.bl false) A := by
  unfold oIsi isiD kdOf
  simp only [h]
  rfl
theorem bad_lst {A : Hs} {i : Nat} {l : List D} (h : A[i]? = some (.lst l)) : Bad A (.ref i) := ⟨A, by unfold F_need_bits F_is_bits; simp_arith [isi_lst h], .refl⟩
theorem oMul_0 {A : Hs} {r : Nat} {d : D} (h : A[r]? = some (.lst [d])) : oMul (.ref r) (.int 0) A = .ok (.ref A.length) (A ++ [.lst []]) := by
  unfold oMul
  simp only [h]
  rfl
/-- what is told of a thing that is refused -/

theorem kinds_bits {A : Hs} : ∃ A1 r, F_l_kinds [.exc "NoBits"] A = .ok (.ref r) A1 ∧ A1[r]? = some (.lst [.int 0]) ∧ Fr [] A A1 := by
  have h1 : oIsi os_ xs_ tb_ (.exc "NoBits") (.nm "NoBits") = fun A => .ok (.bl true) A := rfl
  have h2 : oIsi os_ xs_ tb_ (.exc "NoBits") (.nm "NoData") = fun A => .ok (.bl false) A := rfl
  have h3 : oIsi os_ xs_ tb_ (.exc "NoBits") (.nm "NoNumber") = fun A => .ok (.bl false) A := rfl
  have h4 : oIsi os_ xs_ tb_ (.exc "NoBits") (.nm "NoCode") = fun A => .ok (.bl false) A := rfl
  have h5 : oIsi os_ xs_ tb_ (.exc "NoBits") (.nm "NoPacket") = fun A => .ok (.bl false) A := rfl
  have h6 : oIsi os_ xs_ tb_ (.exc "NoBits") (.nm "NoTick") = fun A => .ok (.bl false) A := rfl
  have h7 : oIsi os_ xs_ tb_ (.exc "NoBits") (.nm "NoText") = fun A => .ok (.bl false) A := rfl
  have h8 : oIsi os_ xs_ tb_ (.exc "NoBits") (.nm "NoPlace") = fun A => .ok (.bl false) A := rfl
  have h9 : oIsi os_ xs_ tb_ (.exc "NoBits") (.ty "ValueError") = fun A => .ok (.bl true) A := rfl
  suffices H : Rk (F_l_kinds [.exc "NoBits"] A) fun v A1 => ∃ r, v = .ref r ∧ A1[r]? = some (.lst [.int 0]) ∧ Fr [] A A1 by
    obtain ⟨_, A1, e, r, rfl, h, f⟩ := H.ex; exact ⟨A1, r, e, h, f⟩
  unfold F_l_kinds
  simp_arith [h1, h2, h3, h4, h5, h6, h7, h8, h9]
  have key : ∀ B : Hs, B[A.length + 1 + 1]? = some (.lst [D.bl true, D.bl false, D.bl false, D.bl false, D.bl false, D.bl false, D.bl false, D.bl false]) →
      lcL (SM.gN 2) (tOf (eOp oIx (eVar 1) (eVar 2))) (eVar 2) tt [some (.exc "NoBits"), some (.ref (A.length + 1 + 1)), none] (rgL 0 1 8) [] B = .ok [.int 0] B := fun B hB => by
    rw [lc_go (fun d => match d with | .int i => decide (i = 0) | _ => false) id trivial (by rw [rgL_len]; decide)]
    · rfl
    · intro d hd
      obtain ⟨j, hj, rfl⟩ := mem_rgL hd
      rcases (by omega : j = 0 ∨ j = 1 ∨ j = 2 ∨ j = 3 ∨ j = 4 ∨ j = 5 ∨ j = 6 ∨ j = 7) with rfl | rfl | rfl | rfl | rfl | rfl | rfl | rfl <;>
        (show Got _ _; simp_arith [hB]; first | exact ⟨rfl, rfl, fun _ => rfl⟩ | exact ⟨rfl, rfl, fun z => nomatch z⟩)
  have g1 : ((A ++ [O.lst [D.bl true, D.bl false, D.bl false, D.bl false]] ++ [O.lst [D.bl false, D.bl false, D.bl false, D.bl false]] ++ [O.lst [D.bl true, D.bl false, D.bl false, D.bl false, D.bl false, D.bl false, D.bl false, D.bl false]] : Hs))[A.length + 1 + 1]? = some (.lst [D.bl true, D.bl false, D.bl false, D.bl false, D.bl false, D.bl false, D.bl false, D.bl false]) := by
    rw [List.getElem?_append_right (by simp)]
    simp
  rw [key _ g1]
  simp_arith []
  generalize hB : (A ++ [O.lst [D.bl true, D.bl false, D.bl false, D.bl false]] ++ [O.lst [D.bl false, D.bl false, D.bl false, D.bl false]] ++ [O.lst [D.bl true, D.bl false, D.bl false, D.bl false, D.bl false, D.bl false, D.bl false, D.bl false]] : Hs) = B
  have hBl : B.length = A.length + 1 + 1 + 1 := by rw [← hB]; simp
  have fB : Fr [] A B := by rw [← hB]; exact ((Fr.push.trans Fr.push).trans Fr.push)
  rw [← hBl]
  have e1 := oMul_0 (A := B ++ [O.lst [D.int 0]] ++ [O.lst [D.int 8]]) (r := B.length + 1) (d := .int 8) (by rw [List.getElem?_append_right (by simp)]; simp)
  have g2 : (B ++ [O.lst [D.int 0]] ++ [O.lst [D.int 8]] ++ [O.lst []] : Hs)[B.length]? = some (.lst [.int 0]) := get_push (get_push zab)
  have g3 : (B ++ [O.lst [D.int 0]] ++ [O.lst [D.int 8]] ++ [O.lst []] : Hs)[B.length + 1 + 1]? = some (.lst []) := by rw [List.getElem?_append_right (by simp)]; simp
  simp_arith [e1, g2, g3]
  refine ⟨_, rfl, ?_, fB.trans ((Fr.push.trans Fr.push).trans (Fr.push.trans Fr.push))⟩
  rw [List.getElem?_append_right (by simp)]
  simp
theorem tr_bits {A : Hs} : ∃ A2 q, trK cts_WireError rest_l_tried (.exc "NoBits" A) = .ok (.ref q) A2 ∧ A2[q]? = some (.lst [dS "no", .int 0]) ∧ Fr [] A A2 := by
  obtain ⟨A1, r, e1, h1, f1⟩ := kinds_bits (A := A ++ [.lst [dS "no"]])
  have n1 := f1.le
  rw [List.length_append, List.length_singleton] at n1
  have hA : A1[A.length]? = some (.lst [dS "no"]) := f1.get zab (by simp)
  have hr := lt_of_get h1
  rw [z3x (by decide)]
  unfold rest_l_tried
  simp_arith [e1, hA, h1]
  exact ⟨_, _, rfl, zab, (Fr.push.trans f1).then_push⟩
theorem kinds_data {A : Hs} : ∃ A1 r, F_l_kinds [.exc "NoData"] A = .ok (.ref r) A1 ∧ A1[r]? = some (.lst [.int 1]) ∧ Fr [] A A1 := by
  have h1 : oIsi os_ xs_ tb_ (.exc "NoData") (.nm "NoBits") = fun A => .ok (.bl false) A := rfl
  have h2 : oIsi os_ xs_ tb_ (.exc "NoData") (.nm "NoData") = fun A => .ok (.bl true) A := rfl
  have h3 : oIsi os_ xs_ tb_ (.exc "NoData") (.nm "NoNumber") = fun A => .ok (.bl false) A := rfl
  have h4 : oIsi os_ xs_ tb_ (.exc "NoData") (.nm "NoCode") = fun A => .ok (.bl false) A := rfl
  have h5 : oIsi os_ xs_ tb_ (.exc "NoData") (.nm "NoPacket") = fun A => .ok (.bl false) A := rfl
  have h6 : oIsi os_ xs_ tb_ (.exc "NoData") (.nm "NoTick") = fun A => .ok (.bl false) A := rfl
  have h7 : oIsi os_ xs_ tb_ (.exc "NoData") (.nm "NoText") = fun A => .ok (.bl false) A := rfl
  have h8 : oIsi os_ xs_ tb_ (.exc "NoData") (.nm "NoPlace") = fun A => .ok (.bl false) A := rfl
  have h9 : oIsi os_ xs_ tb_ (.exc "NoData") (.ty "ValueError") = fun A => .ok (.bl true) A := rfl
  suffices H : Rk (F_l_kinds [.exc "NoData"] A) fun v A1 => ∃ r, v = .ref r ∧ A1[r]? = some (.lst [.int 1]) ∧ Fr [] A A1 by
    obtain ⟨_, A1, e, r, rfl, h, f⟩ := H.ex; exact ⟨A1, r, e, h, f⟩
  unfold F_l_kinds
  simp_arith [h1, h2, h3, h4, h5, h6, h7, h8, h9]
  have key : ∀ B : Hs, B[A.length + 1 + 1]? = some (.lst [D.bl false, D.bl true, D.bl false, D.bl false, D.bl false, D.bl false, D.bl false, D.bl false]) →
      lcL (SM.gN 2) (tOf (eOp oIx (eVar 1) (eVar 2))) (eVar 2) tt [some (.exc "NoData"), some (.ref (A.length + 1 + 1)), none] (rgL 0 1 8) [] B = .ok [.int 1] B := fun B hB => by
    rw [lc_go (fun d => match d with | .int i => decide (i = 1) | _ => false) id trivial (by rw [rgL_len]; decide)]
    · rfl
    · intro d hd
      obtain ⟨j, hj, rfl⟩ := mem_rgL hd
      rcases (by omega : j = 0 ∨ j = 1 ∨ j = 2 ∨ j = 3 ∨ j = 4 ∨ j = 5 ∨ j = 6 ∨ j = 7) with rfl | rfl | rfl | rfl | rfl | rfl | rfl | rfl <;>
        (show Got _ _; simp_arith [hB]; first | exact ⟨rfl, rfl, fun _ => rfl⟩ | exact ⟨rfl, rfl, fun z => nomatch z⟩)
  have g1 : ((A ++ [O.lst [D.bl false, D.bl true, D.bl false, D.bl false]] ++ [O.lst [D.bl false, D.bl false, D.bl false, D.bl false]] ++ [O.lst [D.bl false, D.bl true, D.bl false, D.bl false, D.bl false, D.bl false, D.bl false, D.bl false]] : Hs))[A.length + 1 + 1]? = some (.lst [D.bl false, D.bl true, D.bl false, D.bl false, D.bl false, D.bl false, D.bl false, D.bl false]) := by
    rw [List.getElem?_append_right (by simp)]
    simp
  rw [key _ g1]
  simp_arith []
  generalize hB : (A ++ [O.lst [D.bl false, D.bl true, D.bl false, D.bl false]] ++ [O.lst [D.bl false, D.bl false, D.bl false, D.bl false]] ++ [O.lst [D.bl false, D.bl true, D.bl false, D.bl false, D.bl false, D.bl false, D.bl false, D.bl false]] : Hs) = B
  have hBl : B.length = A.length + 1 + 1 + 1 := by rw [← hB]; simp
  have fB : Fr [] A B := by rw [← hB]; exact ((Fr.push.trans Fr.push).trans Fr.push)
  rw [← hBl]
  have e1 := oMul_0 (A := B ++ [O.lst [D.int 1]] ++ [O.lst [D.int 8]]) (r := B.length + 1) (d := .int 8) (by rw [List.getElem?_append_right (by simp)]; simp)
  have g2 : (B ++ [O.lst [D.int 1]] ++ [O.lst [D.int 8]] ++ [O.lst []] : Hs)[B.length]? = some (.lst [.int 1]) := get_push (get_push zab)
  have g3 : (B ++ [O.lst [D.int 1]] ++ [O.lst [D.int 8]] ++ [O.lst []] : Hs)[B.length + 1 + 1]? = some (.lst []) := by rw [List.getElem?_append_right (by simp)]; simp
  simp_arith [e1, g2, g3]
  refine ⟨_, rfl, ?_, fB.trans ((Fr.push.trans Fr.push).trans (Fr.push.trans Fr.push))⟩
  rw [List.getElem?_append_right (by simp)]
  simp
theorem tr_data {A : Hs} : ∃ A2 q, trK cts_WireError rest_l_tried (.exc "NoData" A) = .ok (.ref q) A2 ∧ A2[q]? = some (.lst [dS "no", .int 1]) ∧ Fr [] A A2 := by
  obtain ⟨A1, r, e1, h1, f1⟩ := kinds_data (A := A ++ [.lst [dS "no"]])
  have n1 := f1.le
  rw [List.length_append, List.length_singleton] at n1
  have hA : A1[A.length]? = some (.lst [dS "no"]) := f1.get zab (by simp)
  have hr := lt_of_get h1
  rw [z3x (by decide)]
  unfold rest_l_tried
  simp_arith [e1, hA, h1]
  exact ⟨_, _, rfl, zab, (Fr.push.trans f1).then_push⟩
theorem kinds_code {A : Hs} : ∃ A1 r, F_l_kinds [.exc "NoCode"] A = .ok (.ref r) A1 ∧ A1[r]? = some (.lst [.int 3]) ∧ Fr [] A A1 := by
  have h1 : oIsi os_ xs_ tb_ (.exc "NoCode") (.nm "NoBits") = fun A => .ok (.bl false) A := rfl
  have h2 : oIsi os_ xs_ tb_ (.exc "NoCode") (.nm "NoData") = fun A => .ok (.bl false) A := rfl
  have h3 : oIsi os_ xs_ tb_ (.exc "NoCode") (.nm "NoNumber") = fun A => .ok (.bl false) A := rfl
  have h4 : oIsi os_ xs_ tb_ (.exc "NoCode") (.nm "NoCode") = fun A => .ok (.bl true) A := rfl
  have h5 : oIsi os_ xs_ tb_ (.exc "NoCode") (.nm "NoPacket") = fun A => .ok (.bl false) A := rfl
  have h6 : oIsi os_ xs_ tb_ (.exc "NoCode") (.nm "NoTick") = fun A => .ok (.bl false) A := rfl
  have h7 : oIsi os_ xs_ tb_ (.exc "NoCode") (.nm "NoText") = fun A => .ok (.bl false) A := rfl
  have h8 : oIsi os_ xs_ tb_ (.exc "NoCode") (.nm "NoPlace") = fun A => .ok (.bl false) A := rfl
  have h9 : oIsi os_ xs_ tb_ (.exc "NoCode") (.ty "ValueError") = fun A => .ok (.bl true) A := rfl
  suffices H : Rk (F_l_kinds [.exc "NoCode"] A) fun v A1 => ∃ r, v = .ref r ∧ A1[r]? = some (.lst [.int 3]) ∧ Fr [] A A1 by
    obtain ⟨_, A1, e, r, rfl, h, f⟩ := H.ex; exact ⟨A1, r, e, h, f⟩
  unfold F_l_kinds
  simp_arith [h1, h2, h3, h4, h5, h6, h7, h8, h9]
  have key : ∀ B : Hs, B[A.length + 1 + 1]? = some (.lst [D.bl false, D.bl false, D.bl false, D.bl true, D.bl false, D.bl false, D.bl false, D.bl false]) →
      lcL (SM.gN 2) (tOf (eOp oIx (eVar 1) (eVar 2))) (eVar 2) tt [some (.exc "NoCode"), some (.ref (A.length + 1 + 1)), none] (rgL 0 1 8) [] B = .ok [.int 3] B := fun B hB => by
    rw [lc_go (fun d => match d with | .int i => decide (i = 3) | _ => false) id trivial (by rw [rgL_len]; decide)]
    · rfl
    · intro d hd
      obtain ⟨j, hj, rfl⟩ := mem_rgL hd
      rcases (by omega : j = 0 ∨ j = 1 ∨ j = 2 ∨ j = 3 ∨ j = 4 ∨ j = 5 ∨ j = 6 ∨ j = 7) with rfl | rfl | rfl | rfl | rfl | rfl | rfl | rfl <;>
        (show Got _ _; simp_arith [hB]; first | exact ⟨rfl, rfl, fun _ => rfl⟩ | exact ⟨rfl, rfl, fun z => nomatch z⟩)
  have g1 : ((A ++ [O.lst [D.bl false, D.bl false, D.bl false, D.bl true]] ++ [O.lst [D.bl false, D.bl false, D.bl false, D.bl false]] ++ [O.lst [D.bl false, D.bl false, D.bl false, D.bl true, D.bl false, D.bl false, D.bl false, D.bl false]] : Hs))[A.length + 1 + 1]? = some (.lst [D.bl false, D.bl false, D.bl false, D.bl true, D.bl false, D.bl false, D.bl false, D.bl false]) := by
    rw [List.getElem?_append_right (by simp)]
    simp
  rw [key _ g1]
  simp_arith []
  generalize hB : (A ++ [O.lst [D.bl false, D.bl false, D.bl false, D.bl true]] ++ [O.lst [D.bl false, D.bl false, D.bl false, D.bl false]] ++ [O.lst [D.bl false, D.bl false, D.bl false, D.bl true, D.bl false, D.bl false, D.bl false, D.bl false]] : Hs) = B
  have hBl : B.length = A.length + 1 + 1 + 1 := by rw [← hB]; simp
  have fB : Fr [] A B := by rw [← hB]; exact ((Fr.push.trans Fr.push).trans Fr.push)
  rw [← hBl]
  have e1 := oMul_0 (A := B ++ [O.lst [D.int 3]] ++ [O.lst [D.int 8]]) (r := B.length + 1) (d := .int 8) (by rw [List.getElem?_append_right (by simp)]; simp)
  have g2 : (B ++ [O.lst [D.int 3]] ++ [O.lst [D.int 8]] ++ [O.lst []] : Hs)[B.length]? = some (.lst [.int 3]) := get_push (get_push zab)
  have g3 : (B ++ [O.lst [D.int 3]] ++ [O.lst [D.int 8]] ++ [O.lst []] : Hs)[B.length + 1 + 1]? = some (.lst []) := by rw [List.getElem?_append_right (by simp)]; simp
  simp_arith [e1, g2, g3]
  refine ⟨_, rfl, ?_, fB.trans ((Fr.push.trans Fr.push).trans (Fr.push.trans Fr.push))⟩
  rw [List.getElem?_append_right (by simp)]
  simp
theorem tr_code {A : Hs} : ∃ A2 q, trK cts_WireError rest_l_tried (.exc "NoCode" A) = .ok (.ref q) A2 ∧ A2[q]? = some (.lst [dS "no", .int 3]) ∧ Fr [] A A2 := by
  obtain ⟨A1, r, e1, h1, f1⟩ := kinds_code (A := A ++ [.lst [dS "no"]])
  have n1 := f1.le
  rw [List.length_append, List.length_singleton] at n1
  have hA : A1[A.length]? = some (.lst [dS "no"]) := f1.get zab (by simp)
  have hr := lt_of_get h1
  rw [z3x (by decide)]
  unfold rest_l_tried
  simp_arith [e1, hA, h1]
  exact ⟨_, _, rfl, zab, (Fr.push.trans f1).then_push⟩
/-! lists of refusals told -/
theorem getp {A : Hs} {u : O} {i : Nat} (h : i = A.length) : (A ++ [u])[i]? = some u := by subst h; exact zab
abbrev no_ (n : Int) : O := .lst [dS "no", .int n]
inductive Nos (A : Hs) : List Nat → List Int → Prop
  | nil : Nos A [] []
  | cons {q : Nat} {qs : List Nat} {n : Int} {ns : List Int} : A[q]? = some (no_ n) → Nos A qs ns → Nos A (q :: qs) (n :: ns)
theorem Nos.imp {A B : Hs} {qs : List Nat} {ns : List Int} (k : ∀ (q : Nat) (n : Int), A[q]? = some (no_ n) → B[q]? = some (no_ n)) (h : Nos A qs ns) : Nos B qs ns := by
  induction h with
  | nil => exact .nil
  | cons h _ ih => exact .cons (k _ _ h) ih
theorem Nos.snoc {A : Hs} {q : Nat} {n : Int} {qs : List Nat} {ns : List Int} (g : A[q]? = some (no_ n)) (h : Nos A qs ns) : Nos A (qs ++ [q]) (ns ++ [n]) := by
  induction h with
  | nil => exact .cons g .nil
  | cons h _ ih => exact .cons h ih
structure Acc (A : Hs) (L : Nat) (qs : List Nat) (ns : List Int) : Prop where
  l : A[L]? = some (.lst (qs.map D.ref))
  n : Nos A qs ns
theorem no_ne {A : Hs} {q L : Nat} {n : Int} {qs : List Nat} (h : A[q]? = some (no_ n)) (k : A[L]? = some (.lst (qs.map D.ref))) : q ≠ L := by
  rintro rfl
  rw [h] at k
  cases qs with
  | nil => cases k
  | cons a r => cases k
theorem Acc.frame {A B : Hs} {L : Nat} {qs : List Nat} {ns : List Int} (h : Acc A L qs ns) (f : Fr [] A B) : Acc B L qs ns := ⟨f.get h.l (by simp), h.n.imp fun q n g => f.get g (by simp)⟩
theorem Acc.app {A B : Hs} {L q : Nat} {qs : List Nat} {ns : List Int} {n : Int} (h : Acc A L qs ns) (f : Fr [] A B) (g : B[q]? = some (no_ n)) : Acc (B.set L (.lst (qs.map D.ref ++ [.ref q]))) L (qs ++ [q]) (ns ++ [n]) := by
  have h' := h.frame f
  refine ⟨by rw [List.map_append]; exact z9m (lt_of_get h'.l), ?_⟩
  have keep : ∀ q n, B[q]? = some (no_ n) → (B.set L (.lst (qs.map D.ref ++ [.ref q])))[q]? = some (no_ n) := fun q n g => by rw [z40 (no_ne g h'.l).symm]; exact g
  refine Nos.snoc ?_ (h'.n.imp fun q n g => ?_)
  · rw [z40 (no_ne g h'.l).symm]; exact g
  · rw [z40 (no_ne g h'.l).symm]; exact g
theorem Nos.py {A : Hs} {qs : List Nat} {ns : List Int} (h : Nos A qs ns) : allSome ((qs.map D.ref).map (pyA A 39)) = some (ns.map fun n => PyData.list [.str (fS "no"), .int n]) := by
  induction h with
  | nil => rfl
  | @cons q qs n ns h _ ih =>
    have e : pyA A 39 (.ref q) = some (.list [.str (fS "no"), .int n]) := by rw [py_lst h]; rfl
    rw [List.map_cons, List.map_cons, e]
    unfold allSome
    rw [ih]
    rfl
theorem nos_plain : ∀ ns : List Int, PyData.plainAll (ns.map fun n => PyData.list [.str (fS "no"), .int n]) = true
  | [] => rfl
  | n :: ns => by
    rw [List.map_cons, PyData.plainAll, nos_plain ns]
    rfl
theorem Acc.eq {A : Hs} {L M : Nat} {qs rs : List Nat} {ns : List Int} (h : Acc A L qs ns) (k : Acc A M rs ns) : oEq (.ref L) (.ref M) A = .ok (.bl true) A := by
  refine eqA_of (eqA_same (P := .list (ns.map fun n => PyData.list [.str (fS "no"), .int n])) (by rw [PyData.plain]; exact nos_plain ns) ?_ ?_)
  · rw [py_lst h.l, h.n.py]; rfl
  · rw [py_lst k.l, k.n.py]; rfl

/-! what is refused -/
open DL (bl dv Mu Bits gath gathA bitsN gN bitsOf Bytes)
def wd8 : D → Bool
  | .int i => decide (0 ≤ i) && decide (i ≤ 255)
  | _ => false
theorem is_whole_8 {d : D} {A : Hs} (h : Kd d) : F_is_whole [d, .int 0, .int 255] A = .ok (.bl (wd8 d)) A := by
  cases d with
  | int i => exact is_whole_ok
  | bl b => unfold F_is_whole; simp_arith []; rfl
  | non => unfold F_is_whole; simp_arith []; rfl
  | str x => unfold F_is_whole; simp_arith []; rfl
  | tup l => unfold F_is_whole; simp_arith []; rfl
  | _ => exact h.elim
theorem is_data_d {ds : List D} {A : Hs} (h : ∀ d ∈ ds, Kd d) (hl : ds.length ≤ 1000) : ∃ A1, F_is_data [.tup ds] A = .ok (.bl (ds.all wd8)) A1 ∧ Fr [] A A1 := by
  refine ⟨A ++ [.lst (ds.map fun d => .bl (wd8 d))], ?_, .push⟩
  have hl' : ¬ (1000 : Int) < (ds.length : Int) := by omega
  unfold F_is_data
  simp_arith [hl']
  rw [lc_go (fun _ => true) (fun d => .bl (wd8 d)) trivial (by omega)]
  rotate_left
  · intro d hd
    have e := fun A => is_whole_8 (A := A) (h d hd)
    show Got _ _
    simp_arith [e]
    first | exact fun _ => rfl | exact fun _ => trivial | trivial
  rw [List.filter_eq_self.mpr (by simp)]
  have e : (ds.map fun d => D.bl (wd8 d)) = (ds.map wd8).map D.bl := by rw [List.map_map]; rfl
  have e2 : boolsOf (ds.map fun d => D.bl (wd8 d)) = some (ds.map wd8) := by rw [e, z00]
  simp_arith [e2]
  rw [List.all_map]
  rfl
def BadD (A : Hs) (d : D) : Prop := ∃ A1, F_bits_of [d] A = .exc "NoData" A1 ∧ Fr [] A A1
theorem badD_tup {ds : List D} {A : Hs} (h : ∀ d ∈ ds, Kd d) (hl : ds.length ≤ 1000) (hw : ds.all wd8 = false) : BadD A (.tup ds) := by
  obtain ⟨A1, e1, f1⟩ := is_data_d (A := A) h hl
  rw [hw] at e1
  refine ⟨A1, ?_, f1⟩
  unfold F_bits_of
  simp_arith [e1]
theorem badD_long {ds : List D} {A : Hs} (hl : 1000 < ds.length) : BadD A (.tup ds) := by
  have hl' : (1000 : Int) < (ds.length : Int) := by omega
  exact ⟨A, by unfold F_bits_of F_is_data; simp_arith [hl'], .refl⟩
theorem badD_none {A : Hs} : BadD A .non := ⟨A, by unfold F_bits_of F_is_data; simp_arith [], .refl⟩
theorem badD_str {A : Hs} {x : Str} : BadD A (.str x) := ⟨A, by unfold F_bits_of F_is_data; simp_arith [], .refl⟩
theorem badD_lst {A : Hs} {i : Nat} {l : List D} (h : A[i]? = some (.lst l)) : BadD A (.ref i) := ⟨A, by unfold F_bits_of F_is_data; simp_arith [isi_lst h], .refl⟩
theorem ne_nil_tup {x : D} {l : List D} {A : Hs} (h : (x :: l).all (pd 39) = true) : oEq (.tup (x :: l)) (.tup []) A = .ok (.bl false) A := by
  obtain ⟨ps, _, h2⟩ := pd_all h
  have hl := allSome_len (h2 A)
  refine eqA_of (b := false) ?_
  unfold eqA
  have e1 : pyA A 40 (.tup (x :: l)) = some (.tuple ps) := by rw [pyA, h2 A]; rfl
  have e2 : pyA A 40 (.tup []) = some (.tuple []) := rfl
  rw [e1, e2]
  cases ps with
  | nil => simp at hl
  | cons p ps => rfl
theorem fr_bad {d cd : D} {A : Hs} (h : BadD A d) (he : oEq d (.tup []) A = .ok (.bl false) A) : ∃ A1, F_framed [d, cd] A = .exc "NoData" A1 ∧ Fr [] A A1 := by
  obtain ⟨A1, e1, f1⟩ := h
  refine ⟨A1, ?_, f1⟩
  unfold F_framed
  simp_arith [he, e1]
def bads (r : Nat) (zs : List D) : List D := [.tup [], .ref r, .tup [.int 256], .tup [.int (-1)], .tup [.int 0, .bl true], .non, dS "a", .tup zs, .tup [.tup [.int 1]], .tup [.int 1, .non]]
theorem bads_fr {r : Nat} {d cd : D} {A : Hs} (h : A[r]? = some (.lst [.int 1])) (hd : d ∈ bads r ((List.replicate 1001 (0 : Int)).map D.int)) : ∃ A1, F_framed [d, cd] A = .exc "NoData" A1 ∧ Fr [] A A1 := by
  unfold bads at hd
  simp only [List.mem_cons, List.not_mem_nil, or_false] at hd
  rcases hd with rfl | rfl | rfl | rfl | rfl | rfl | rfl | rfl | rfl | rfl
  · refine ⟨A, ?_, .refl⟩
    have e : oEq (.tup []) (.tup []) A = .ok (.bl true) A := oEq_pd rfl
    unfold F_framed
    simp_arith [e]
  · refine fr_bad (badD_lst h) (eqA_of (b := false) ?_)
    unfold eqA
    rw [py_lst h]
    rfl
  · exact fr_bad (badD_tup (by simp [Kd]) (by decide) rfl) (ne_nil_tup rfl)
  · exact fr_bad (badD_tup (by simp [Kd]) (by decide) rfl) (ne_nil_tup rfl)
  · exact fr_bad (badD_tup (by simp [Kd]) (by decide) rfl) (ne_nil_tup rfl)
  · exact fr_bad badD_none (eqA_of (b := false) rfl)
  · exact fr_bad badD_str (eqA_of (b := false) rfl)
  · refine fr_bad (badD_long (by rw [List.length_map, List.length_replicate]; decide)) ?_
    have := oEq_rows (a := List.replicate 1001 (0 : Int)) (b := []) (A := A)
    rw [decide_eq_false (by intro z; have := congrArg List.length z; rw [List.length_replicate] at this; cases this)] at this
    exact this
  · exact fr_bad (badD_tup (by simp [Kd]) (by decide) rfl) (ne_nil_tup rfl)
  · exact fr_bad (badD_tup (by simp [Kd]) (by decide) rfl) (ne_nil_tup rfl)
def oddc : List D := [.int 1, .int 2, .int 131073, .int 131072, .int 0, .int (-3), .bl true, .non, dS "3", .tup [.int 3]]
theorem odd_code {d : D} {A : Hs} (h : d ∈ oddc) : F_need_code [d] A = .exc "NoCode" A := by
  unfold oddc at h
  simp only [List.mem_cons, List.not_mem_nil, or_false] at h
  rcases h with rfl | rfl | rfl | rfl | rfl | rfl | rfl | rfl | rfl | rfl <;> (unfold F_need_code; simp_arith [])
theorem odd_fr {ds : List Int} {d : D} {A : Hs} (hb : Bytes ds) (h1 : 1 ≤ ds.length) (hl : ds.length ≤ 1000) (h : d ∈ oddc) : ∃ A1, F_framed [rw_ ds, d] A = .exc "NoCode" A1 ∧ Fr [] A A1 := by
  obtain ⟨A1, e1, f1⟩ := bits_of_ok (A := A) hb hl
  have hne : ds ≠ [] := by rintro rfl; simp at h1
  have e0 : oEq (rw_ ds) (.tup []) A = .ok (.bl false) A := by
    have := oEq_rows (a := ds) (b := []) (A := A)
    rw [decide_eq_false hne] at this
    exact this
  have e2 : F_coded [rw_ (bitsOf ds), d] A1 = .exc "NoCode" A1 := by
    unfold F_coded
    simp_arith [odd_code h]
  refine ⟨A1, ?_, f1⟩
  unfold F_framed
  simp_arith [e0, e1, e2]
theorem odd_rd {d : D} {A : Hs} (h : d ∈ oddc) : ∃ A1, make "Reader" F_Reader___init__ [d] A = .exc "NoCode" A1 ∧ Fr [] A A1 := by
  refine ⟨A ++ [.obj "Reader" []], ?_, .push⟩
  have e : ∀ B, F_width [d] B = .exc "NoCode" B := fun B => by
    unfold F_width
    simp_arith [odd_code h]
  have e2 : F_Reader___init__ [.ref A.length, d] (A ++ [.obj "Reader" []]) = .exc "NoCode" (A ++ [.obj "Reader" []]) := by
    unfold F_Reader___init__
    simp_arith [e]
  unfold make
  rw [e2]
def parts : List D := [.int 256, .int (-1), .bl true, .bl false, .non, dS "a", .tup [.int 1], .int 1000000000]
theorem parts_k {d : D} (h : d ∈ parts) : Kd d ∧ wd8 d = false ∧ pd 39 d = true := by
  unfold parts at h
  simp only [List.mem_cons, List.not_mem_nil, or_false] at h
  rcases h with rfl | rfl | rfl | rfl | rfl | rfl | rfl | rfl <;> exact ⟨trivial, rfl, rfl⟩
theorem spoilt_fr {ds : List Int} {x cd : D} {a b : Nat} {A : Hs} (hx : x ∈ parts) (hl : ds.length ≤ 1000) (hab : a ≤ b) (ha : a < ds.length) : ∃ A1, F_framed [.tup (List.take a (ds.map D.int) ++ [x] ++ List.drop b (ds.map D.int)), cd] A = .exc "NoData" A1 ∧ Fr [] A A1 := by
  obtain ⟨k1, k2, k3⟩ := parts_k hx
  obtain ⟨es, hes⟩ : ∃ es, es = List.take a (List.map D.int ds) ++ [x] ++ List.drop b (List.map D.int ds) := ⟨_, rfl⟩
  have hdk : ∀ d ∈ es, (∃ n : Int, d = .int n) ∨ d = x := fun d hd => by
    rw [hes] at hd
    rcases List.mem_append.mp hd with hd | hd
    · rcases List.mem_append.mp hd with hd | hd
      · obtain ⟨b, _, rfl⟩ := List.mem_map.mp (List.mem_of_mem_take hd); exact .inl ⟨_, rfl⟩
      · rw [List.mem_singleton] at hd; exact .inr hd
    · obtain ⟨b, _, rfl⟩ := List.mem_map.mp (List.mem_of_mem_drop hd); exact .inl ⟨_, rfl⟩
  have hn : es ≠ [] := by rw [hes]; simp
  have hlen : es.length ≤ 1001 := by rw [hes]; simp only [List.length_append, List.length_take, List.length_drop, List.length_map, List.length_singleton]; omega
  have hw : es.all wd8 = false := by rw [hes]; simp [k2]
  have hp : es.all (pd 39) = true := by
    rw [List.all_eq_true]
    intro d hd
    rcases hdk d hd with ⟨n, rfl⟩ | rfl
    · exact pd_int
    · exact k3
  rw [← hes]
  refine fr_bad ?_ ?_
  · by_cases q : es.length ≤ 1000
    · exact badD_tup (fun d hd => by
        rcases hdk d hd with ⟨n, rfl⟩ | rfl
        · trivial
        · exact k1) q hw
    · exact badD_long (by omega)
  · cases es with
    | nil => exact absurd rfl hn
    | cons y es => exact ne_nil_tup hp
theorem Acc.frameD {A B : Hs} {L i : Nat} {qs : List Nat} {ns : List Int} (h : Acc A L qs ns) (d : Drw A i) (f : Fr [i] A B) (hL : L ≠ i) : Acc B L qs ns := ⟨f.get h.l (by rw [List.mem_singleton]; exact hL), h.n.imp fun q n g => f.get g (by
  rw [List.mem_singleton]
  rintro rfl
  obtain ⟨a, b, z⟩ := d
  rw [g] at z
  cases z)⟩
theorem tr_of {C : String} {n : Int} (tr : ∀ A : Hs, ∃ A2 q, trK cts_WireError rest_l_tried (.exc C A) = .ok (.ref q) A2 ∧ A2[q]? = some (no_ n) ∧ Fr [] A A2) {r : RE D} {A : Hs} (h : ∃ A1, r = .exc C A1 ∧ Fr [] A A1) : ∃ A2 q, trK cts_WireError rest_l_tried r = .ok (.ref q) A2 ∧ A2[q]? = some (no_ n) ∧ Fr [] A A2 := by
  obtain ⟨A1, rfl, f1⟩ := h
  obtain ⟨A2, q, e, g, f2⟩ := tr A1
  exact ⟨A2, q, e, g, f1.trans f2⟩
theorem refused_ok {A : Hs} {i c : Nat} {ds : List Int} (dr : Drw A i) (hb : Bytes ds) (h1 : 1 ≤ ds.length) (hl : ds.length ≤ 1000) : Rk (F_l_refused [.ref i, rw_ ds, .int (c : Int)] A) fun v A1 => v = .bl true ∧ Drw A1 i ∧ Fr [i] A A1 := by
  have nA := dr.lt
  obtain ⟨zs, hz⟩ : ∃ zs, zs = (List.replicate 1001 (0 : Int)).map D.int := ⟨_, rfl⟩
  have emul : ∀ B, oMul (.tup [D.int 0]) (.int 1001) B = .ok (.tup zs) B := fun B => by
    rw [z6s (by decide), hz, ← flat_zeros]
    rfl
  have d0 : Drw (A ++ [.lst [.int 1]] ++ [.lst (bads A.length zs)]) i := dr.pushed.pushed
  obtain ⟨v1, B1, a1, b1, e1, d1, f1⟩ := next_ok (n := 10) d0 (by decide) (by decide)
  have g1 : B1[A.length + 1]? = some (.lst (bads A.length zs)) := f1.get (getp (by simp)) (by rw [List.mem_singleton]; omega)
  have r1 : B1[A.length]? = some (.lst [.int 1]) := f1.get (get_push zab) (by rw [List.mem_singleton]; omega)
  obtain ⟨bd, hbd, p1⟩ := pick_d (ns := bads A.length zs) a1 b1
  have n1 := d1.lt
  obtain ⟨v2, B2, a2, b2, e2, d2, f2⟩ := next_ok (n := 10) (d1.pushed (x := .lst oddc)) (by decide) (by decide)
  have g2 : B2[B1.length]? = some (.lst oddc) := f2.get zab (by rw [List.mem_singleton]; omega)
  have r2 : B2[A.length]? = some (.lst [.int 1]) := f2.get (get_push r1) (by rw [List.mem_singleton]; omega)
  obtain ⟨od, hod, p2⟩ := pick_d (ns := oddc) a2 b2
  rw [hz] at hbd
  obtain ⟨T1, q1, t1, m1, w1⟩ := tr_of (fun A => tr_data (A := A)) (bads_fr (cd := .int (c : Int)) r2 hbd)
  obtain ⟨L, hL⟩ : ∃ L, L = T1.length := ⟨_, rfl⟩
  have s1 : Acc (T1 ++ [.lst [.ref q1]]) L [q1] [1] := ⟨by rw [hL]; exact zab, .cons (get_push m1) .nil⟩
  have u1 : Fr [] B2 (T1 ++ [.lst [.ref q1]]) := w1.then_push
  obtain ⟨T2, q2, t2, m2, w2⟩ := tr_of (fun A => tr_data (A := A)) (bads_fr (cd := od) (u1.get r2 (by simp)) hbd)
  have s2 : Acc (T2.set L (.lst [.ref q1, .ref q2])) L [q1, q2] [1, 1] := s1.app w2 m2
  have l2 := (s1.frame w2).l
  obtain ⟨T3, q3, t3, m3, w3⟩ := tr_of (fun A => tr_code (A := A)) (odd_fr (A := T2.set L (.lst [.ref q1, .ref q2])) hb h1 hl hod)
  have s3 : Acc (T3.set L (.lst [.ref q1, .ref q2, .ref q3])) L [q1, q2, q3] [1, 1, 3] := s2.app w3 m3
  have l3 := (s2.frame w3).l
  obtain ⟨T4, q4, t4, m4, w4⟩ := tr_of (fun A => tr_code (A := A)) (odd_rd (A := T3.set L (.lst [.ref q1, .ref q2, .ref q3])) hod)
  have s4 : Acc (T4.set L (.lst [.ref q1, .ref q2, .ref q3, .ref q4])) L [q1, q2, q3, q4] [1, 1, 3, 3] := s3.app w4 m4
  have l4 := (s3.frame w4).l
  have nT1 := w1.le
  have n2 := d2.lt
  have hLi : L ≠ i := by omega
  have setf : ∀ (T : Hs) o, Fr [L] T (T.set L o) := fun T o => .set (by simp)
  have d3 : Drw (T1 ++ [.lst [.ref q1]]) i := d2.frame u1 (by simp)
  have d4 : Drw (T2.set L (.lst [.ref q1, .ref q2])) i := (d3.frame w2 (by simp)).frame (setf _ _) (by rw [List.mem_singleton]; omega)
  have d5 : Drw (T3.set L (.lst [.ref q1, .ref q2, .ref q3])) i := (d4.frame w3 (by simp)).frame (setf _ _) (by rw [List.mem_singleton]; omega)
  have d6 : Drw (T4.set L (.lst [.ref q1, .ref q2, .ref q3, .ref q4])) i := (d5.frame w4 (by simp)).frame (setf _ _) (by rw [List.mem_singleton]; omega)
  obtain ⟨v5, B5, a5, b5, e5, d7, f5⟩ := next_ok (n := (ds.length : Int)) d6 (by omega) (by omega)
  have s5 := s4.frameD d6 f5 hLi
  obtain ⟨v6, B6, a6, b6, e6, d8, f6⟩ := next_ok (n := 8) (d7.pushed (x := .lst parts)) (by decide) (by decide)
  have n5 := d7.lt
  have g6 : B6[B5.length]? = some (.lst parts) := f6.get zab (by rw [List.mem_singleton]; omega)
  have s6 := (s5.frame (.push (u := .lst parts))).frameD d7.pushed f6 hLi
  obtain ⟨x, hx, p6⟩ := pick_d (ns := parts) a6 b6
  obtain ⟨v7, B7, a7, b7, e7, d9, f7⟩ := next_ok (n := 2) d8 (by decide) (by decide)
  have s7 := s6.frameD d8 f7 hLi
  obtain ⟨T5, q5, t5, m5, w5⟩ := tr_of (fun A => tr_data (A := A)) (spoilt_fr (cd := .int (c : Int)) (a := v5.toNat) (b := (v5 + v7).toNat) (A := B7) hx hl (by omega) (by omega))
  have s8 : Acc (T5.set L (.lst [.ref q1, .ref q2, .ref q3, .ref q4, .ref q5])) L [q1, q2, q3, q4, q5] [1, 1, 3, 3, 1] := s7.app w5 m5
  have l5 := (s7.frame w5).l
  obtain ⟨T6, q6, t6, m6, w6⟩ := tr_of (fun A => tr_data (A := A)) (spoilt_fr (cd := od) (a := v5.toNat) (b := (v5 + v7).toNat) (A := T5.set L (.lst [.ref q1, .ref q2, .ref q3, .ref q4, .ref q5])) hx hl (by omega) (by omega))
  have s9 : Acc (T6.set L (.lst [.ref q1, .ref q2, .ref q3, .ref q4, .ref q5, .ref q6])) L [q1, q2, q3, q4, q5, q6] [1, 1, 3, 3, 1, 1] := s8.app w6 m6
  have l6 := (s8.frame w6).l
  have d10 : Drw (T5.set L (.lst [.ref q1, .ref q2, .ref q3, .ref q4, .ref q5])) i := (d9.frame w5 (by simp)).frame (setf _ _) (by rw [List.mem_singleton]; omega)
  have d11 : Drw (T6.set L (.lst [.ref q1, .ref q2, .ref q3, .ref q4, .ref q5, .ref q6])) i := (d10.frame w6 (by simp)).frame (setf _ _) (by rw [List.mem_singleton]; omega)
  obtain ⟨Z, hZ⟩ : ∃ Z, Z = T6.set L (.lst [.ref q1, .ref q2, .ref q3, .ref q4, .ref q5, .ref q6]) := ⟨_, rfl⟩
  rw [← hZ] at s9 d11
  obtain ⟨Y, hY⟩ : ∃ Y, Y = Z ++ [no_ 1] ++ [no_ 1] ++ [no_ 3] ++ [no_ 3] ++ [no_ 1] ++ [no_ 1] ++ [.lst [.ref Z.length, .ref (Z.length + 1), .ref (Z.length + 1 + 1), .ref (Z.length + 1 + 1 + 1), .ref (Z.length + 1 + 1 + 1 + 1), .ref (Z.length + 1 + 1 + 1 + 1 + 1)]] := ⟨_, rfl⟩
  have fY : Fr [] Z Y := by rw [hY]; exact (((((((Fr.refl.then_push).then_push).then_push).then_push).then_push).then_push).then_push)
  have sY : Acc Y (Z.length + 1 + 1 + 1 + 1 + 1 + 1) [Z.length, Z.length + 1, Z.length + 1 + 1, Z.length + 1 + 1 + 1, Z.length + 1 + 1 + 1 + 1, Z.length + 1 + 1 + 1 + 1 + 1] [1, 1, 3, 3, 1, 1] := by
    rw [hY]
    refine ⟨getp (by simp), .cons ?_ (.cons ?_ (.cons ?_ (.cons ?_ (.cons ?_ (.cons ?_ .nil)))))⟩ <;> (repeat (first | (refine getp ?_; first | rfl | (simp only [List.length_append, List.length_cons, List.length_nil] <;> omega)) | refine get_push ?_))
  have eq := (s9.frame fY).eq sY
  have zl : Z.length = T6.length := by rw [hZ]; simp
  have k1 := (s1.frame .refl).l
  have k2 := s2.l
  have k3 := s3.l
  have k7 := s7.l
  have k8 := s8.l
  simp only [List.map_cons, List.map_nil] at l2 l3 l4 l5 l6 k1 k2 k3 k7 k8
  unfold bads at e1 g1 p1
  unfold oddc at e2 g2 p2
  unfold parts at e6 g6 p6
  unfold rw_ at t3
  unfold F_l_refused rw_
  simp_arith [emul, -z6s, e1, g1, p1, e2, g2, p2, t1, ← hL, k1, t2, l2, k2, t3, l3, k3, t4, l4, e5, e6, g6, p6, e7, k7, t5, l5, k8, t6, l6, -z64]
  unfold no_ at hY
  rw [← hZ, ← zl, ← hY]
  simp_arith [eq]
  have f8 : Fr [i] A B2 := ((((Fr.refl.then_push).then_push).trans f1).then_push).trans f2
  have hset : ∀ {T : Hs} {o : O}, Fr [i] A T → Fr [i] A (T.set L o) := fun f => f.then_set (.inr (by have := f1.le; have := f2.le; simp only [List.length_append, List.length_cons, List.length_nil] at *; omega))
  refine ⟨d11.frame fY (by simp), ?_⟩
  rw [hZ] at fY
  have y1 : Fr [i] A (T1 ++ [.lst [.ref q1]]) := f8.trans (u1.mono (by simp))
  have y2 := hset (o := .lst [.ref q1, .ref q2]) (y1.trans (w2.mono (by simp)))
  have y3 := hset (o := .lst [.ref q1, .ref q2, .ref q3]) (y2.trans (w3.mono (by simp)))
  have y4 := hset (o := .lst [.ref q1, .ref q2, .ref q3, .ref q4]) (y3.trans (w4.mono (by simp)))
  have y5 := ((y4.trans f5).then_push (u := .lst parts)).trans f6
  have y6 := hset (o := .lst [.ref q1, .ref q2, .ref q3, .ref q4, .ref q5]) ((y5.trans f7).trans (w5.mono (by simp)))
  have y7 := hset (o := .lst [.ref q1, .ref q2, .ref q3, .ref q4, .ref q5, .ref q6]) (y6.trans (w6.mono (by simp)))
  exact y7.trans (fY.mono (by simp))

/-! reading on, and too long a frame -/
open DL (bl dv Mu Bits gath gathA bitsN gN bitsOf Bytes dataOf)
theorem Fr.more {s t : List Nat} {A B C : Hs} (f : Fr s A B) (g : Fr t B C) (h : ∀ k ∈ t, k ∈ s ∨ A.length ≤ k) : Fr s A C := ⟨Nat.le_trans f.le g.le, fun k hk hn => by
  have := f.le
  rw [g.2 k (by omega) (fun z => (h k z).elim hn (fun q => by omega)), f.2 k hk hn]⟩
theorem mem_rs {r j : Nat} {s : Option Nat} (h : j ∈ r :: s.toList) : j = r ∨ s = some j := by
  rw [List.mem_cons] at h
  rcases h with h | h
  · exact .inl h
  · cases s with
    | none => cases h
    | some k => right; rw [List.mem_singleton.mp h]
theorem st_len2 : ∀ (l : List Int) (n : Nat), n ≤ 4 → 5 * (st n l).length ≤ 6 * l.length + n
  | [], n, _ => by rw [st]; simp
  | b :: l, n, hn => by
    rw [st]
    split
    · split
      · have := st_len2 l 0 (by omega)
        simp only [List.length_cons]; omega
      · have := st_len2 l (n + 1) (by omega)
        simp only [List.length_cons]; omega
    · have := st_len2 l 0 (by omega)
      simp only [List.length_cons]; omega
theorem fd_len2 {c : Nat} {ds : List Int} (hc : Cn c) (h9 : ds.length ≤ 1001) : (fd c ds).length ≤ 9700 := by
  have b17 := hc.bl
  have h1 := DL.bitsOf_len ds
  have h2 := cdd_len (c := c) (l := bitsOf ds)
  have h3 := st_len2 (cdd c (bitsOf ds)) 0 (by omega)
  have l8 : flg.length = 8 := rfl
  show (flg ++ st 0 (cdd c (bitsOf ds)) ++ flg).length ≤ 9700
  rw [List.length_append, List.length_append, l8]
  omega
theorem told_first2 {c : Nat} {ds : List Int} (hc : Cn c) (hd : Bytes ds) (h1 : 1 ≤ ds.length) (h9 : ds.length ≤ 1000) : Tl c (fd c ds) = [((fd c ds).length - 1, ds)] := by
  have := Tl_mid (c := c) (Y := []) (cdd_bits (c := c) (DL.bitsOf_bits ds))
  rw [fr_ok hc hd h1 h9, List.nil_append, List.nil_append, Tl_f] at this
  rw [show fd c ds = flg ++ st 0 (cdd c (bitsOf ds)) ++ flg from rfl, this]
  simp
theorem fd_pos {c : Nat} {ds : List Int} : 16 ≤ (fd c ds).length := by
  have l8 : flg.length = 8 := rfl
  show 16 ≤ (flg ++ st 0 (cdd c (bitsOf ds)) ++ flg).length
  rw [List.length_append, List.length_append, l8]
  omega
theorem Tl_part {c n : Nat} {R ds : List Int} (h : Tl c R = [(R.length - 1, ds)]) (hn : n < R.length) : Tl c (R.take n) = [] := by
  obtain ⟨L, e, _⟩ := Tl_app (c := c) (R.drop n) (R.take n)
  rw [List.take_append_drop, h] at e
  cases q : Tl c (R.take n) with
  | nil => rfl
  | cons z r =>
    rw [q] at e
    have hz : z = (R.length - 1, ds) := by
      rw [List.cons_append] at e
      injection e with e1 e2
      exact e1.symm
    have := Tl_lt (c := c) (x := R.take n) (z := z) (by rw [q]; exact List.mem_cons_self)
    rw [hz, List.length_take] at this
    simp only at this
    omega
theorem bad_take {r : Nat} {d : D} {A : Hs} (h : Bad A d) : ∃ A1, F_Reader_take [.ref r, d] A = .exc "NoBits" A1 ∧ Fr [] A A1 := by
  obtain ⟨A1, e1, f1⟩ := h
  refine ⟨A1, ?_, f1⟩
  unfold F_Reader_take
  simp_arith [e1]
def odr (r : Nat) (l : List D) : List D := [.ref r, .tup [.int 0, .int 1, .int 2], .tup [.bl true], .non, dS "01", .tup (l ++ [.non]), .tup (.int 2 :: l)]
theorem odr_bad {r : Nat} {l : List Int} {d : D} {A : Hs} (h : A[r]? = some (.lst [.int 0, .int 1])) (hl : l.length ≤ 90000) (hd : d ∈ odr r (l.map D.int)) : Bad A d := by
  have hk : ∀ d ∈ l.map D.int, Kd d := fun d hd => by obtain ⟨b, _, rfl⟩ := List.mem_map.mp hd; trivial
  unfold odr at hd
  simp only [List.mem_cons, List.not_mem_nil, or_false] at hd
  rcases hd with rfl | rfl | rfl | rfl | rfl | rfl | rfl
  · exact bad_lst h
  · exact bad_tup (by simp [Kd]) (by decide) rfl
  · exact bad_tup (by simp [Kd]) (by decide) rfl
  · exact bad_none
  · exact bad_str
  · refine bad_tup (fun d hd => ?_) (by rw [List.length_append, List.length_map, List.length_singleton]; omega) (by simp [wb])
    rcases List.mem_append.mp hd with h | h
    · exact hk d h
    · rw [List.mem_singleton] at h; rw [h]; trivial
  · refine bad_tup (fun d hd => ?_) (by rw [List.length_cons, List.length_map]; omega) (by simp [wb])
    rcases List.mem_cons.mp hd with h | h
    · rw [h]; trivial
    · exact hk d h
theorem pd_rw {l : List Int} : ([rw_ l] : List D).all (pd 39) = true := by
  rw [List.all_cons, List.all_nil, Bool.and_true]
  show (l.map D.int).all (pd 38) = true
  exact pd_ints
theorem read_on_ok {A : Hs} {i c : Nat} {ds : List Int} (hc : Cn c) (dr : Drw A i) (hb : Bytes ds) (h1 : 1 ≤ ds.length) (hl : ds.length ≤ 1000) : Rk (F_l_read_on [.ref i, rw_ ds, .int (c : Int)] A) fun v A1 => v = .bl true ∧ Drw A1 i ∧ Fr [i] A A1 := by
  obtain ⟨B1, e1, f1⟩ := l_framed_ok (c := c) (ds := ds) (A := A) hc (by omega)
  have e1 : F_l_framed [rw_ ds, .int (c : Int)] A = .ok (rw_ (fd c ds)) B1 := e1
  have hRl := fd_len2 (c := c) (ds := ds) hc (by omega)
  have hRp := fd_pos (c := c) (ds := ds)
  have hRb := fd_bits (c := c) (ds := ds)
  have hRt := told_first2 (c := c) hc hb h1 hl
  generalize fd c ds = R at *
  have d1 := dr.frame f1 (by simp)
  obtain ⟨v2, B2, a2, b2, e2, d2, f2⟩ := next_ok (n := (R.length : Int)) d1 (by omega) (by omega)
  obtain ⟨_, B3, e3, rfl, R3, f3⟩ := (reader_ok (A := B2) hc).ex
  have d3 := d2.frame f3 (by simp)
  have n2 := d2.lt
  have n3 := lt_of_get R3.o
  obtain ⟨n, hn⟩ : ∃ n : Nat, v2 = (n : Int) := ⟨v2.toNat, by omega⟩
  subst hn
  have hnR : n < R.length := by omega
  have d4 : Drw (B3 ++ [.lst [.int 0, .int 1]] ++ [.lst (odr B3.length ((R.drop n).map D.int))]) i := d3.pushed.pushed
  obtain ⟨v4, B4, a4, b4, e4, d5, f4⟩ := next_ok (n := 7) d4 (by decide) (by decide)
  have g4 : B4[B3.length + 1]? = some (.lst (odr B3.length ((R.drop n).map D.int))) := f4.get (getp (by simp)) (by rw [List.mem_singleton]; have := d3.lt; omega)
  have r4 : B4[B3.length]? = some (.lst [.int 0, .int 1]) := f4.get (get_push zab) (by rw [List.mem_singleton]; have := d3.lt; omega)
  obtain ⟨od, hod, p4⟩ := pick_d (ns := odr B3.length ((R.drop n).map D.int)) a4 b4
  have R4 : IsR B4 B2.length c (lat []) none (sn []) := (R3.frame (t := []) (Fr.push.then_push) (by simp) (by simp)).frame f4 (by rw [List.mem_singleton]; omega) (by simp)
  have hbt : Bits (R.take n) := btake hRb
  have hbd : Bits (R.drop n) := bdrop hRb
  obtain ⟨_, B5, e5, q5, s5, L5, rfl, hq5, R5, hs5, hsq5, hT5, hE5, f5⟩ := (take_ok (x := []) (p := R.take n) hc R4 DL.Bits.nil hbt (by rw [List.length_take]; simp; omega)).ex
  rw [List.nil_append] at R5 hT5
  have hL5 : L5 = [] := by
    rw [Tl_part hRt hnR, Tl_nil, List.nil_append] at hT5
    exact hT5.symm
  rw [hL5, List.map_nil] at hE5
  have x5 : oNe (.ref q5) (.ref B5.length) (B5 ++ [.lst []]) = .ok (.bl false) (B5 ++ [.lst []]) := oNe_lst (get_push hE5) zab rfl
  have n4 := f4.le
  rw [List.length_append, List.length_append, List.length_singleton, List.length_singleton] at n4
  have n5 := f5.le
  have fr5 : Fr [i] A B5 := Fr.more ((((((f1.mono (by simp)).trans f2).trans (f3.mono (by simp))).then_push).then_push).trans f4) f5 (fun k hk => by
    have := f1.le
    have := f2.le
    rcases mem_rs hk with h | h
    · exact .inr (by omega)
    · cases h)
  have d6 : Drw B5 i := d5.frame f5 (fun hk => by
    rcases mem_rs hk with h | h
    · omega
    · cases h)
  have r5 : B5[B3.length]? = some (.lst [.int 0, .int 1]) := f5.get r4 (fun hk => by
    rcases mem_rs hk with h | h
    · omega
    · cases h)
  obtain ⟨B6, q6, e6, g6, f6⟩ := tr_of (fun A => tr_bits (A := A)) (bad_take (r := B2.length) (A := B5 ++ [.lst []]) (odr_bad (get_push r5) (by rw [List.length_drop]; omega) hod))
  have x6 : oNe (.ref q6) (.ref B6.length) (B6 ++ [no_ 0]) = .ok (.bl false) (B6 ++ [no_ 0]) := oNe_lst (get_push g6) zab (by decide +kernel)
  have f56 : Fr [] B5 (B6 ++ [no_ 0]) := (Fr.push.trans f6).then_push
  have R6 : IsR (B6 ++ [no_ 0]) B2.length c (lat (R.take n)) s5 (sn (R.take n)) := R5.frame f56 (by simp) (by simp)
  obtain ⟨_, B7, e7, q7, s7, L7, rfl, hq7, R7, hs7, hsq7, hT7, hE7, f7⟩ := (take_ok (x := R.take n) (p := R.drop n) hc R6 hbt hbd (by rw [List.length_take, List.length_drop]; omega)).ex
  rw [List.take_append_drop, hRt, Tl_part hRt hnR, List.nil_append] at hT7
  rw [← hT7, List.map_cons, List.map_nil] at hE7
  have x7 : oEq (.ref q7) (.ref B7.length) (B7 ++ [.lst [rw_ ds]]) = .ok (.bl true) (B7 ++ [.lst [rw_ ds]]) := oEq_lst (get_push hE7) zab pd_rw
  have n6 := f56.le
  have hs5' : ∀ k, s5 = some k → B4.length ≤ k := by
    rintro k rfl
    rcases hs5 with h | ⟨k', h, hk⟩
    · cases h
    · cases h; exact hk
  have m1 := f1.le
  have m2 := f2.le
  have frZ : Fr [i] A (B7 ++ [.lst [rw_ ds]]) := (Fr.more (fr5.trans (f56.mono (by simp))) f7 (fun k hk => by
    rcases mem_rs hk with h | h
    · exact .inr (by omega)
    · exact .inr (by have := hs5' k h; omega))).then_push
  have dZ : Drw (B7 ++ [.lst [rw_ ds]]) i := ((d6.frame f56 (by simp)).frame f7 (fun hk => by
    rcases mem_rs hk with h | h
    · omega
    · have := hs5' i h; omega)).pushed
  have o4 := R4.o
  have o5 := (R5.frame (t := []) (.push (u := .lst [])) (by simp) (by simp)).o
  have o6 := R6.o
  unfold rfs at o4 o5 o6
  have hln : (List.drop n (R.map D.int)).length + 1 ≤ 16000000 := by rw [List.length_drop, List.length_map]; omega
  have hln2 : 1 + (List.drop n (R.map D.int)).length ≤ 16000000 := by omega
  unfold odr at e4 g4 p4
  rw [List.map_drop] at e4 g4 p4
  unfold rw_ at *
  rw [List.map_take] at e5
  rw [List.map_drop] at e7
  unfold F_l_read_on
  simp_arith [e1, e2, e3, e4, g4, p4, o4, e5, x5, o5, e6, x6, o6, e7, x7, -z64, Int.toNat_natCast, List.length_map]
  exact ⟨dZ, frZ⟩
theorem fr_long {c : Nat} {ds : List Int} (hc : Cn c) (h9 : 1000 < ds.length) : fr c (st 0 (cdd c (bitsOf ds))) = none := by
  have hcb := cdd_bits (c := c) (DL.bitsOf_bits ds)
  have hS := pl_st hcb 0 (by omega)
  have hcl := cdd_len (c := c) (l := bitsOf ds)
  have h3 := DL.bitsOf_len ds
  unfold fr
  rw [hS]
  show (if _ then _ else _) = _
  rw [if_neg]
  rintro ⟨⟨_, h, _⟩, _⟩
  omega
theorem Tl_long {c : Nat} {ds : List Int} (hc : Cn c) (h9 : 1000 < ds.length) : Tl c (fd c ds) = [] := by
  have := Tl_mid (c := c) (Y := []) (cdd_bits (c := c) (DL.bitsOf_bits ds))
  rw [fr_long hc h9, List.nil_append, List.nil_append, Tl_f] at this
  exact this
theorem too_long_ok {A : Hs} {c : Nat} {ds : List Int} (hc : Cn c) (hb : Bytes ds) (h1 : ds.length = 1000) : Rk (F_l_too_long [rw_ ds, .int (c : Int)] A) fun v A1 => v = .bl true ∧ Fr [] A A1 := by
  obtain ⟨_, B1, e1, rfl, R1, f1⟩ := (reader_ok (A := A) hc).ex
  obtain ⟨B2, e2, f2⟩ := l_framed_ok (c := c) (ds := ds ++ [1]) (A := B1) hc (by rw [List.length_append, List.length_singleton]; omega)
  have e2 : F_l_framed [rw_ (ds ++ [1]), .int (c : Int)] B1 = .ok (rw_ (fd c (ds ++ [1]))) B2 := e2
  have hXl := fd_len2 (c := c) (ds := ds ++ [1]) hc (by rw [List.length_append, List.length_singleton]; omega)
  have hXb := fd_bits (c := c) (ds := ds ++ [1])
  have hXt := Tl_long (c := c) (ds := ds ++ [1]) hc (by rw [List.length_append, List.length_singleton]; omega)
  obtain ⟨Z, hZ⟩ : ∃ Z, fd c (ds ++ [1]) = Z ++ flg := ⟨flg ++ st 0 (cdd c (bitsOf (ds ++ [1]))), rfl⟩
  have R2 := R1.frame f2 (by simp) (by simp)
  generalize fd c (ds ++ [1]) = X at *
  obtain ⟨_, B3, e3, q3, s3, L3, rfl, hq3, R3, hs3, hsq3, hT3, hE3, f3⟩ := (take_ok (x := []) (p := X) hc R2 DL.Bits.nil hXb (by simp; omega)).ex
  rw [List.nil_append] at R3 hT3
  rw [hXt, Tl_nil, List.nil_append] at hT3
  rw [← hT3, List.map_nil] at hE3
  have x3 : oEq (.ref q3) (.ref B3.length) (B3 ++ [.lst []]) = .ok (.bl true) (B3 ++ [.lst []]) := oEq_lst (get_push hE3) zab rfl
  obtain ⟨B4, e4, f4⟩ := l_framed_ok (c := c) (ds := ds) (A := B3 ++ [.lst []]) hc (by omega)
  have e4 : F_l_framed [rw_ ds, .int (c : Int)] (B3 ++ [.lst []]) = .ok (rw_ (fd c ds)) B4 := e4
  have hRl := fd_len2 (c := c) (ds := ds) hc (by omega)
  have hRb := fd_bits (c := c) (ds := ds)
  obtain ⟨k, hk⟩ := told_next (c := c) (Z := Z) hc hb (by omega) (by omega)
  rw [← hZ, hXt, List.nil_append] at hk
  generalize fd c ds = R at *
  have f34 : Fr [] B3 B4 := Fr.push.trans f4
  have R4 := R3.frame f34 (by simp) (by simp)
  obtain ⟨_, B5, e5, q5, s5, L5, rfl, hq5, R5, hs5, hsq5, hT5, hE5, f5⟩ := (take_ok (x := X) (p := R) hc R4 hXb hRb (by omega)).ex
  rw [hk, hXt, List.nil_append] at hT5
  rw [← hT5, List.map_cons, List.map_nil] at hE5
  have x5 : oEq (.ref q5) (.ref B5.length) (B5 ++ [.lst [rw_ ds]]) = .ok (.bl true) (B5 ++ [.lst [rw_ ds]]) := oEq_lst (get_push hE5) zab pd_rw
  have hs3' : ∀ k, s3 = some k → B2.length ≤ k := by
    rintro k rfl
    rcases hs3 with h | ⟨k', h, hk⟩
    · cases h
    · cases h; exact hk
  have m1 := f1.le
  have m2 := f2.le
  have m3 := f3.le
  have m4 := f34.le
  have fA : Fr [] A B3 := Fr.more (f1.trans f2) f3 (fun k hk => by
    rcases mem_rs hk with h | h
    · exact .inr (by omega)
    · cases h)
  have fZ : Fr [] A (B5 ++ [.lst [rw_ ds]]) := (Fr.more (fA.trans f34) f5 (fun k hk => by
    rcases mem_rs hk with h | h
    · exact .inr (by omega)
    · exact .inr (by have := hs3' k h; omega))).then_push
  have o2 := R2.o
  have o1 := R1.o
  have o3 := (R3.frame (t := []) (.push (u := .lst [])) (by simp) (by simp)).o
  have o4 := R4.o
  unfold rfs at o1 o2 o3 o4
  have hln : (ds.map D.int).length + 1 ≤ 16000000 := by rw [List.length_map]; omega
  unfold rw_ at *
  rw [List.map_append] at e2
  simp only [List.map_cons, List.map_nil] at e2
  unfold F_l_too_long
  simp_arith [e1, o1, e2, o2, e3, x3, o3, e4, o4, e5, x5, List.length_map]
  exact fZ

/-! the law -/
open DL (bl dv Mu Bits gath gathA bitsN gN bitsOf Bytes dataOf)
noncomputable def lwT : S := (sSeq (sIf (tNo (tOf (eCall0 F_l_same_row (aCons (eCall0 F_framed (aCons (eVar 5) (aCons (eVar 4) aNil))) (aCons (eCall0 F_l_framed (aCons (eVar 5) (aCons (eVar 4) aNil))) aNil))))) (sRet (eC (.bl false))) sNx) (sIf (tOo (tNo (tOf (eCall0 F_l_refused (aCons (eVar 3) (aCons (eVar 5) (aCons (eVar 4) aNil)))))) (tNo (tOf (eCall0 F_l_read_on (aCons (eVar 3) (aCons (eVar 5) (aCons (eVar 4) aNil))))))) (sRet (eC (.bl false))) sNx))
noncomputable def lwD : S := (sIf (tAn (tOf (eOp oEq (eCall0 F_l_next (aCons (eVar 3) (aCons (eC (.int 16)) aNil))) (eC (.int 7)))) (tOf (eOp oEq (eVar 1) (eC (.int 0))))) (sSeq (sSet 5 (eOp oAdd (eVar 5) (eOp oMul (eTup (aCons (eC (.int 170)) aNil)) (eOp oSub (eC (.int 1000)) (eCB (c1 oLen) (aCons (eVar 5) aNil)))))) (sIf (tNo (tOf (eCall0 F_l_too_long (aCons (eVar 5) (aCons (eVar 4) aNil))))) (sRet (eC (.bl false))) sNx)) (sIf (tAn (tOf (eOp oEq (eVar 1) (eC (.int 0)))) (tOf (eOp oEq (eCall0 F_l_next (aCons (eVar 3) (aCons (eC (.int 8)) aNil))) (eC (.int 0))))) (sSeq (sSet 6 (eCall0 F_l_next (aCons (eVar 3) (aCons (eC (.int 256)) aNil)))) (sSeq (sSet 7 (eOp oIx (eLst (aCons (eC (.int 90)) (aCons (eC (.int 90)) (aCons (eC (.int 990)) aNil)))) (eCall0 F_l_next (aCons (eVar 3) (aCons (eC (.int 3)) aNil))))) (sSet 5 (eOp oAdd (eVar 5) (eOp oMul (eTup (aCons (eVar 6) aNil)) (eCall0 F_l_next (aCons (eVar 3) (aCons (eVar 7) aNil)))))))) sNx))
theorem lw_eq : F_law = mkFn 1 8 (sSeq (sFor (wOf wkEA (eOp oAddS (eVar 0) (eLst (aCons (eC (.int 0)) aNil)))) (gT [(gN 1), (gN 2)]) (sSeq (sSet 3 (eCall0 F_l_state (aCons (eVar 2) (aCons (eOp oAdd (eC (.int 1)) (eVar 1)) aNil)))) (sSeq (sSet 4 (eCall0 F_l_code (aCons (eVar 3) aNil))) (sSeq (sSet 5 (eCall0 F_l_data (aCons (eVar 3) (aCons (eC (.int 7)) aNil)))) (sSeq lwD lwT))))) (sRet (eC (.bl true)))) := rfl
theorem flat_rep1 {x : Int} : ∀ w : Nat, (List.replicate w [D.int x]).flatten = (List.replicate w x).map D.int
  | 0 => rfl
  | w + 1 => by rw [List.replicate_succ, List.replicate_succ, List.flatten_cons, List.map_cons, flat_rep1 w]; rfl
theorem lwD_ok {B : Hs} {i c j : Nat} {l : List Int} {o0 o2 o6 o7 : Option D} (hc : Cn c) (d : Drw B i) (hb : Bytes l) (h1 : 1 ≤ l.length) (hl : l.length ≤ 10) :
    ∃ B' ds o6' o7', lwD [o0, some (.int (j : Int)), o2, some (.ref i), some (.int (c : Int)), some (rw_ l), o6, o7] B = .nx [o0, some (.int (j : Int)), o2, some (.ref i), some (.int (c : Int)), some (rw_ ds), o6', o7'] B' ∧ Bytes ds ∧ 1 ≤ ds.length ∧ ds.length ≤ 1000 ∧ Drw B' i ∧ Fr [i] B B' := by
  obtain ⟨v1, B1, a1, b1, e1, d1, f1⟩ := next_ok (n := 16) d (by decide) (by decide)
  by_cases q : v1 = 7 ∧ j = 0
  · obtain ⟨q1, rfl⟩ := q
    subst q1
    have hm : ∀ C, oMul (.tup [D.int 170]) (.int (1000 - (l.length : Int))) C = .ok (.tup ((List.replicate (1000 - l.length) (170 : Int)).map D.int)) C := fun C => by
      rw [z6s (by simp; omega), ← flat_rep1, show (1000 - (l.length : Int)).toNat = 1000 - l.length by omega]
    obtain ⟨B2, e2, f2⟩ : ∃ B2, F_l_too_long [rw_ (l ++ List.replicate (1000 - l.length) 170), .int (c : Int)] B1 = .ok (.bl true) B2 ∧ Fr [] B1 B2 := by
      obtain ⟨_, B2, e, rfl, f⟩ := (too_long_ok (A := B1) (ds := l ++ List.replicate (1000 - l.length) 170) hc (fun b hb' => by
        rcases List.mem_append.mp hb' with h | h
        · exact hb b h
        · rw [List.eq_of_mem_replicate h]; decide) (by rw [List.length_append, List.length_replicate]; omega)).ex
      exact ⟨B2, e, f⟩
    have hlen : (l.map D.int).length + ((List.replicate (1000 - l.length) (170 : Int)).map D.int).length ≤ 16000000 := by rw [List.length_map, List.length_map, List.length_replicate]; omega
    refine ⟨B2, l ++ List.replicate (1000 - l.length) 170, o6, o7, ?_, fun b hb' => ?_, by rw [List.length_append]; omega, by rw [List.length_append, List.length_replicate]; omega, d1.frame f2 (by simp), f1.trans (f2.mono (by simp))⟩
    · unfold rw_ at *
      rw [List.map_append] at e2 ⊢
      generalize (List.replicate (1000 - l.length) (170 : Int)).map D.int = zs at *
      unfold lwD
      simp_arith [e1, hm, -z6s, e2, List.length_map]
    · rcases List.mem_append.mp hb' with h | h
      · exact hb b h
      · rw [List.eq_of_mem_replicate h]; decide
  · by_cases q0 : j = 0
    · subst q0
      have q1 : ¬ v1 = 7 := fun h => q ⟨h, rfl⟩
      obtain ⟨v2, B2, a2, b2, e2, d2, f2⟩ := next_ok (n := 8) d1 (by decide) (by decide)
      by_cases q2 : v2 = 0
      · subst q2
        obtain ⟨v3, B3, a3, b3, e3, d3, f3⟩ := next_ok (n := 256) d2 (by decide) (by decide)
        obtain ⟨v4, B4, a4, b4, e4, d4, f4⟩ := next_ok (n := 3) (d3.pushed (x := .lst [.int 90, .int 90, .int 990])) (by decide) (by decide)
        have l3 := d3.lt
        have g4 : B4[B3.length]? = some (.lst [.int 90, .int 90, .int 990]) := f4.get zab (by rw [List.mem_singleton]; omega)
        obtain ⟨mo, hmo, p4⟩ := pick_i (ns := [90, 90, 990]) a4 b4
        have hmo' : 0 < mo ∧ mo ≤ 990 := by
          simp only [List.mem_cons, List.not_mem_nil, or_false] at hmo
          omega
        have p4' : atI [D.int 90, .int 90, .int 990] v4 = some (.int mo) := p4
        obtain ⟨v5, B5, a5, b5, e5, d5, f5⟩ := next_ok (n := mo) d4 (by omega) (by omega)
        have hm : ∀ C, oMul (.tup [D.int v3]) (.int v5) C = .ok (.tup ((List.replicate v5.toNat v3).map D.int)) C := fun C => by
          rw [z6s (by simp; omega), ← flat_rep1]
        have hlen : (l.map D.int).length + ((List.replicate v5.toNat v3).map D.int).length ≤ 16000000 := by rw [List.length_map, List.length_map, List.length_replicate]; omega
        refine ⟨B5, l ++ List.replicate v5.toNat v3, some (.int v3), some (.int mo), ?_, fun b hb' => ?_, by rw [List.length_append]; omega, by rw [List.length_append, List.length_replicate]; omega, d5, ((((f1.trans f2).trans f3).then_push).trans f4).trans f5⟩
        · unfold rw_
          rw [List.map_append]
          generalize (List.replicate v5.toNat v3).map D.int = zs at *
          unfold lwD
          simp_arith [e1, q1, e2, e3, e4, g4, p4', e5, hm, -z6s, -z64]
        · rcases List.mem_append.mp hb' with h | h
          · exact hb b h
          · rw [List.eq_of_mem_replicate h]; exact ⟨a3, by omega⟩
      · refine ⟨B2, l, o6, o7, ?_, hb, h1, by omega, d2, f1.trans f2⟩
        unfold lwD
        simp_arith [e1, q1, e2, q2]
    · have q0' : ¬ (j : Int) = 0 := by omega
      refine ⟨B1, l, o6, o7, ?_, hb, h1, by omega, d1, f1⟩
      unfold lwD
      by_cases q1 : v1 = 7
      · simp_arith [e1, q1, q0']
      · simp_arith [e1, q1, q0']
theorem lwT_ok {B : Hs} {i c : Nat} {ds : List Int} {o0 o1 o2 o6 o7 : Option D} (hc : Cn c) (d : Drw B i) (hb : Bytes ds) (h1 : 1 ≤ ds.length) (hl : ds.length ≤ 1000) :
    ∃ B', lwT [o0, o1, o2, some (.ref i), some (.int (c : Int)), some (rw_ ds), o6, o7] B = .nx [o0, o1, o2, some (.ref i), some (.int (c : Int)), some (rw_ ds), o6, o7] B' ∧ Fr [i] B B' := by
  obtain ⟨B1, e1, f1⟩ := framed_ok (A := B) hc hb h1 hl
  obtain ⟨B2, e2, f2⟩ := l_framed_ok (A := B1) (ds := ds) hc (by omega)
  have hRl := fd_len2 (c := c) (ds := ds) hc (by omega)
  have e3 := same_row_ok (A := B2) (l := flg ++ st 0 (cdd c (bitsOf ds)) ++ flg) (by have : (flg ++ st 0 (cdd c (bitsOf ds)) ++ flg).length ≤ 9700 := hRl; omega)
  generalize flg ++ st 0 (cdd c (bitsOf ds)) ++ flg = R at *
  have d3 : Drw (B2 ++ [.lst []]) i := ((d.frame f1 (by simp)).frame f2 (by simp)).pushed
  obtain ⟨_, B4, e4, rfl, d4, f4⟩ := (refused_ok (c := c) d3 hb h1 hl).ex
  obtain ⟨_, B5, e5, rfl, d5, f5⟩ := (read_on_ok hc d4 hb h1 hl).ex
  refine ⟨B5, ?_, ((((f1.trans f2).then_push).mono (by simp)).trans f4).trans f5⟩
  unfold lwT
  simp_arith [e1, e2, e3, e4, e5]
theorem law_true (ns : List Int) (hn : ns.length ≤ 63) : ∃ A, F_law [.scr (ns.map D.int)] [] = .ok (.bl true) A := by
  suffices H : Rk (F_law [.scr (ns.map D.int)] []) fun v A => v = .bl true by
    obtain ⟨_, A, e, rfl⟩ := H.ex; exact ⟨A, e⟩
  have hl : (ns.map D.int).length + 1 ≤ 16000000 := by rw [List.length_map]; omega
  obtain ⟨W, hW⟩ : ∃ W, W = ns.map D.int ++ [D.int 0] := ⟨_, rfl⟩
  have hWi : ∀ (j : Nat) d, W[j]? = some d → ∃ n : Int, d = D.int n := by
    intro j d hd
    have := List.mem_of_getElem? hd
    rw [hW] at this
    rcases List.mem_append.mp this with h | h
    · obtain ⟨n, _, rfl⟩ := List.mem_map.mp h; exact ⟨n, rfl⟩
    · rw [List.mem_singleton] at h; exact ⟨0, h⟩
  obtain ⟨H3, hH3⟩ : ∃ H3 : Hs, H3 = [O.lst [D.int 0], O.lst W] := ⟨_, rfl⟩
  have eA : oAddS (D.scr (ns.map D.int)) (D.ref 0) [O.lst [D.int 0]] = .ok (.ref 1) H3 := by
    rw [z63 (k := [D.int 0]) rfl (by simpa using hl), hH3, hW]; rfl
  have z3 : H3[1]? = some (.lst W) := by rw [hH3]; rfl
  have zl : H3.length = 2 := by rw [hH3]; rfl
  rw [lw_eq]
  simp_arith [eA, z3]
  refine for_go (R := fun rs => Rk (finR (seqR rs _)) _) (fun j e B => ∃ o2 o3 o4 o5 o6 o7 o8, e = [some (.scr (ns.map D.int)), o2, o3, o4, o5, o6, o7, o8] ∧ Fr [] H3 B) ⟨none, none, none, none, none, none, none, rfl, .refl⟩ (fun j e B _ h => ?_) ?_ ?_
  · obtain ⟨_, _, _, _, _, _, _, _, f⟩ := h
    exact f.get z3 (by simp)
  · rintro j _ B d hd ⟨o2, o3, o4, o5, o6, o7, o8, rfl, fB⟩
    obtain ⟨x, hx, rfl⟩ := enumL_get hd
    obtain ⟨n, rfl⟩ := hWi j x hx
    obtain ⟨_, A1, e1, rfl, d1, f1⟩ := (state_ok (p := n) (q := 1 + (j : Nat)) (A := B)).ex
    obtain ⟨_, A2, e2, c, rfl, hc, d2, f2⟩ := (code_ok d1).ex
    obtain ⟨_, A3, e3, l, rfl, hb, hl1, hl10, d3, f3⟩ := (l_data_ok (most := 7) d2 (by decide)).ex
    obtain ⟨A4, ds, o6', o7', e4, hb', h1, h1000, d4, f4⟩ := lwD_ok (j := j) (o0 := some (.scr (ns.map D.int))) (o2 := some (.int n)) (o6 := o7) (o7 := o8) hc d3 hb hl1 hl10
    obtain ⟨A5, e5, f5⟩ := lwT_ok (o0 := some (.scr (ns.map D.int))) (o1 := some (.int (j : Int))) (o2 := some (.int n)) (o6 := o6') (o7 := o7') hc d4 hb' h1 h1000
    show Got _ _
    simp_arith [e1, e2, e3, e4, e5]
    refine ⟨_, _, _, _, _, _, _, rfl, fB.trans ?_⟩
    have g : Fr [B.length] A1 A5 := ((f2.trans f3).trans f4).trans f5
    have l1 := f1.le
    have l2 := g.le
    exact ⟨by omega, fun k hk _ => by rw [g.2 k (by omega) (by rw [List.mem_singleton]; omega), f1.2 k hk (by simp)]⟩
  · rintro _ B ⟨o2, o3, o4, o5, o6, o7, o8, rfl, fB⟩
    simp_arith []

end Kk

namespace Kk
open PySem L2 SM
open DL (op_addU op_subU op_mulA op_divU op_modU op_powU op_shlU op_shrU op_andU op_orU op_xorU op_ltU op_leU op_gtU op_geU op_isU op_notU call_lenU call_absU call_max2U call_min2U call_intU call_listU call_tupleU call_allU call_sumU call_isiA ix_U sl_U pi_seqU pe_dx pe_dx0 pe_mx pe_mx0 Dx Mx)
def topS (i : Nat) : Stmt := PySem.Challenge.pw_surewire_k22_framed_and_refused.main.body.getD i (.Pass ⟨0, 0, 0, 0⟩)
structure Txt (K : PySem.W.Frag) (mg : Str → Option Value) (ca : CaT) : Prop where
  g_FLAG : mg "FLAG" = some (.ref (ca "FLAG"))
  g_NoBits : mg "NoBits" = some (.ref (ca "NoBits"))
  g_NoCode : mg "NoCode" = some (.ref (ca "NoCode"))
  g_NoData : mg "NoData" = some (.ref (ca "NoData"))
  g_NoNumber : mg "NoNumber" = some (.ref (ca "NoNumber"))
  g_NoPacket : mg "NoPacket" = some (.ref (ca "NoPacket"))
  g_NoPlace : mg "NoPlace" = some (.ref (ca "NoPlace"))
  g_NoText : mg "NoText" = some (.ref (ca "NoText"))
  g_NoTick : mg "NoTick" = some (.ref (ca "NoTick"))
  g_Reader : mg "Reader" = some (.ref (ca "Reader"))
  g_WireError : mg "WireError" = some (.ref (ca "WireError"))
  e_NoBits : PySem.W.excIn K (ca "NoBits") [.type "ValueError", .type "Exception", .type "BaseException", .type "object"] "ValueError.__new__" = true
  k_NoBits : PySem.W.keepIn K (.ref (ca "NoBits")) = true
  b_NoBits : PySem.W.subIn K (.ref (ca "NoBits")) (.type "BaseException") = some true
  t_NoBits : PySem.W.typeIn K (.ref (ca "NoBits")) = some (.type "type")
  e_NoCode : PySem.W.excIn K (ca "NoCode") [.type "ValueError", .type "Exception", .type "BaseException", .type "object"] "ValueError.__new__" = true
  k_NoCode : PySem.W.keepIn K (.ref (ca "NoCode")) = true
  b_NoCode : PySem.W.subIn K (.ref (ca "NoCode")) (.type "BaseException") = some true
  t_NoCode : PySem.W.typeIn K (.ref (ca "NoCode")) = some (.type "type")
  e_NoData : PySem.W.excIn K (ca "NoData") [.type "ValueError", .type "Exception", .type "BaseException", .type "object"] "ValueError.__new__" = true
  k_NoData : PySem.W.keepIn K (.ref (ca "NoData")) = true
  b_NoData : PySem.W.subIn K (.ref (ca "NoData")) (.type "BaseException") = some true
  t_NoData : PySem.W.typeIn K (.ref (ca "NoData")) = some (.type "type")
  e_NoNumber : PySem.W.excIn K (ca "NoNumber") [.type "ValueError", .type "Exception", .type "BaseException", .type "object"] "ValueError.__new__" = true
  k_NoNumber : PySem.W.keepIn K (.ref (ca "NoNumber")) = true
  b_NoNumber : PySem.W.subIn K (.ref (ca "NoNumber")) (.type "BaseException") = some true
  t_NoNumber : PySem.W.typeIn K (.ref (ca "NoNumber")) = some (.type "type")
  mm_WireError : AllC (fun C => PySem.W.exmOne K (.ref (ca C)) (.ref (ca "WireError")) = some true) cts_WireError
  cl_Reader : Cls K (ca "Reader")
  mk_Reader : PySem.W.makesIn K (ca "Reader") = true
  kc_Reader : PySem.W.keepIn K (.ref (ca "Reader")) = true
  n_Reader_check_bits : PySem.W.findIn K (.ref (ca "Reader")) "check_bits" = some none
  n_Reader_divisor : PySem.W.findIn K (.ref (ca "Reader")) "divisor" = some none
  n_Reader_latest : PySem.W.findIn K (.ref (ca "Reader")) "latest" = some none
  n_Reader_since_flag : PySem.W.findIn K (.ref (ca "Reader")) "since_flag" = some none
  isO : AllC (fun C => DL.InC K (ca C) ∧ btn C = false) os_
  isX : AllC (fun C => ExcC K (ca C) ∧ btn C = false) xs_
  isT : TbOk K ca tb_
  w_FLAG : ∀ F m, Rep K ca F m (.ref (ca "FLAG")) (.wt [.int 0, .int 1, .int 1, .int 1, .int 1, .int 1, .int 1, .int 0])
  b_ValueError : mg "ValueError" = none
  b_all : mg "all" = none
  b_bool : mg "bool" = none
  b_enumerate : mg "enumerate" = none
  b_int : mg "int" = none
  b_isinstance : mg "isinstance" = none
  b_len : mg "len" = none
  b_range : mg "range" = none
  b_str : mg "str" = none
  b_tuple : mg "tuple" = none
  c_BYTE : ∃ t, mg "BYTE" = some (.int 8 t)
  c_GREATEST : ∃ t, mg "GREATEST" = some (.int 131071 t)
  c_LEAST : ∃ t, mg "LEAST" = some (.int 3 t)
  c_MOST_BITS : ∃ t, mg "MOST_BITS" = some (.int 8000 t)
  c_MOST_BYTE : ∃ t, mg "MOST_BYTE" = some (.int 255 t)
  c_MOST_DATA : ∃ t, mg "MOST_DATA" = some (.int 1000 t)
  c_ONES : ∃ t, mg "ONES" = some (.int 5 t)
  one : True
abbrev s_l_next : Stmt := topS 44
abbrev N_l_next : List Str := ["_law_state_here", "_law_size", "_law_found", "_law_mixed"]
theorem sc_l_next : FnScope N_l_next ["_law_state_here", "_law_size"] (defScope s_l_next) := ⟨rfl, rfl, rfl, by decide +kernel, rfl, by decide +kernel, by decide +kernel⟩
theorem ok_l_next {P : Program} {w : World} {K : PySem.W.Frag} {mg : Str → Option Value} {base : Heap} {a : Addr} {fd : FuncData} {ca : CaT} (T : Txt K mg ca) (F : Fun K "_law_next" "_law_next" s_l_next a fd)  :
    FnOk P w K mg base (L2.CX P w) 1 a fd ["_law_state_here", "_law_size"] (SpF K ca F_l_next) := by
  refine SM.Fn.ofF F sc_l_next rfl fun cdv A outer s H E hr => ?_
  have nd := sc_l_next.nd
  refine ⟨_, (pss_cons (ps_if (pt_cmpR op_gtU (pe_ix (ix_U (K := K)) (pv 0) pe_int (fun _ _ => rfl)) pe_int (nomark _)) (pss_cons (ps_set (i := 2) nd rfl (by first | exact Or.inl rfl | exact Or.inr rfl) (pe_op op_modU (pe_ix (ix_U (K := K)) (pv 0) pe_int (fun _ _ => rfl)) (pv 1))) (pss_cons (PS.or (ps_asg (pe_op op_divU (pe_ix (ix_U (K := K)) (pv 0) pe_int (fun _ _ => rfl)) (pv 1)) (pg_sub (pv 0) pe_int set_list)) (ps_dput (DL.room65w hr) (pv 0) pe_int (pe_op op_divU (pe_ix (ix_U (K := K)) (pv 0) pe_int (fun _ _ => rfl)) (pv 1)) rfl)) (pss_one (ps_ret (pv 2))))) pss_nil) (pss_cons (PS.or (ps_asg (pe_op op_modU (pe_op (op_addU (K := K)) (pe_op (op_mulA (K := K)) (pe_ix (ix_U (K := K)) (pv 0) pe_int (fun _ _ => rfl)) pe_int) pe_int) pe_int) (pg_sub (pv 0) pe_int set_list)) (ps_dput (DL.room65w hr) (pv 0) pe_int (pe_op op_modU (pe_op (op_addU (K := K)) (pe_op (op_mulA (K := K)) (pe_ix (ix_U (K := K)) (pv 0) pe_int (fun _ _ => rfl)) pe_int) pe_int) pe_int) rfl)) (pss_cons (ps_set (i := 3) nd rfl (by first | exact Or.inl rfl | exact Or.inr rfl) (pe_op op_modU (pe_op (op_mulA (K := K)) (pe_ix (ix_U (K := K)) (pv 0) pe_int (fun _ _ => rfl)) (pe_ix (ix_U (K := K)) (pv 0) pe_int (fun _ _ => rfl))) pe_int)) (pss_one (ps_ret (pe_op op_modU (pe_op op_divU (pe_op op_modU (pe_op (op_addU (K := K)) (pe_op (op_mulA (K := K)) (pv 3) pe_int) (pe_ix (ix_U (K := K)) (pv 0) pe_int (fun _ _ => rfl))) pe_int) pe_int) (pv 1))))))), ?_⟩
  exact (ss_seq (ss_if (st_test (se_op os_gt (se_op os_ix se_var se_int) se_int)) (ss_seq (ss_set (se_op os_mod (se_op os_ix se_var se_int) se_var)) (ss_seq (ss_put se_var se_int (se_op os_div (se_op os_ix se_var se_int) se_var)) (ss_ret se_var))) ss_next) (ss_seq (ss_put se_var se_int (se_op os_mod (se_op os_add (se_op os_mul (se_op os_ix se_var se_int) se_int) se_int) se_int)) (ss_seq (ss_set (se_op os_mod (se_op os_mul (se_op os_ix se_var se_int) (se_op os_ix se_var se_int)) se_int)) (ss_ret (se_op os_mod (se_op os_div (se_op os_mod (se_op os_add (se_op os_mul se_var se_int) (se_op os_ix se_var se_int)) se_int) se_int) se_var)))))
abbrev s_l_code : Stmt := topS 50
abbrev N_l_code : List Str := ["_law_state_here", "_law_kind"]
theorem sc_l_code : FnScope N_l_code ["_law_state_here"] (defScope s_l_code) := ⟨rfl, rfl, rfl, by decide +kernel, rfl, by decide +kernel, by decide +kernel⟩
theorem ok_l_code {P : Program} {w : World} {K : PySem.W.Frag} {mg : Str → Option Value} {base : Heap} {a : Addr} {fd : FuncData} {ca : CaT} (T : Txt K mg ca) (F : Fun K "_law_code" "_law_code" s_l_code a fd) (C_l_next : Dx P w K mg base 1 "_law_next" (SpF K ca F_l_next)) :
    FnOk P w K mg base (L2.CX P w) 2 a fd ["_law_state_here"] (SpF K ca F_l_code) := by
  refine SM.Fn.ofF F sc_l_code rfl fun cdv A outer s H E hr => ?_
  have nd := sc_l_code.nd
  refine ⟨_, (pss_cons (ps_set (i := 1) nd rfl (by first | exact Or.inl rfl | exact Or.inr rfl) (pe_dx C_l_next (takes_of rfl rfl rfl rfl) hr (by decide) rfl (pa_cons (pv 0) (pa_cons pe_int pa_nil)))) (pss_cons (ps_if (pt_cmpR (op_eqPK (K := K) (DL.room65 hr)) (pv 1) pe_int (nomark _)) (pss_one (ps_ret (pe_ix (ix_U (K := K)) (pe_lst (pa_cons pe_int (pa_cons pe_int (pa_cons pe_int (pa_cons pe_int (pa_cons pe_int (pa_cons pe_int (pa_cons pe_int (pa_cons pe_int (pa_cons pe_int (pa_cons pe_int pa_nil))))))))))) (pe_dx C_l_next (takes_of rfl rfl rfl rfl) hr (by decide) rfl (pa_cons (pv 0) (pa_cons pe_int pa_nil))) (fun _ _ => rfl)))) pss_nil) (pss_cons (ps_if (pt_cmpR (op_eqPK (K := K) (DL.room65 hr)) (pv 1) pe_int (nomark _)) (pss_one (ps_ret (pe_op (op_addU (K := K)) pe_int (pe_op (op_mulA (K := K)) pe_int (pe_dx C_l_next (takes_of rfl rfl rfl rfl) hr (by decide) rfl (pa_cons (pv 0) (pa_cons pe_int pa_nil))))))) pss_nil) (pss_one (ps_ret (pe_op (op_addU (K := K)) pe_int (pe_op (op_mulA (K := K)) pe_int (pe_dx C_l_next (takes_of rfl rfl rfl rfl) hr (by decide) rfl (pa_cons (pv 0) (pa_cons pe_int pa_nil)))))))))), ?_⟩
  exact (ss_seq (ss_set (se_call (sa_cons se_var (sa_cons se_int sa_nil)))) (ss_seq (ss_if (st_test (se_op os_eq se_var se_int)) (ss_ret (se_op os_ix (se_lst (sa_cons se_int (sa_cons se_int (sa_cons se_int (sa_cons se_int (sa_cons se_int (sa_cons se_int (sa_cons se_int (sa_cons se_int (sa_cons se_int (sa_cons se_int sa_nil))))))))))) (se_call (sa_cons se_var (sa_cons se_int sa_nil))))) ss_next) (ss_seq (ss_if (st_test (se_op os_eq se_var se_int)) (ss_ret (se_op os_add se_int (se_op os_mul se_int (se_call (sa_cons se_var (sa_cons se_int sa_nil)))))) ss_next) (ss_ret (se_op os_add se_int (se_op os_mul se_int (se_call (sa_cons se_var (sa_cons se_int sa_nil)))))))))
abbrev s_l_data : Stmt := topS 51
abbrev N_l_data : List Str := ["_law_state_here", "_law_most", "_law_found", "_law_k"]
theorem sc_l_data : FnScope N_l_data ["_law_state_here", "_law_most"] (defScope s_l_data) := ⟨rfl, rfl, rfl, by decide +kernel, rfl, by decide +kernel, by decide +kernel⟩
theorem ok_l_data {P : Program} {w : World} {K : PySem.W.Frag} {mg : Str → Option Value} {base : Heap} {a : Addr} {fd : FuncData} {ca : CaT} (T : Txt K mg ca) (F : Fun K "_law_data" "_law_data" s_l_data a fd) (C_l_next : Dx P w K mg base 1 "_law_next" (SpF K ca F_l_next)) :
    FnOk P w K mg base (L2.CX P w) 2 a fd ["_law_state_here", "_law_most"] (SpF K ca F_l_data) := by
  refine SM.Fn.ofF F sc_l_data rfl fun cdv A outer s H E hr => ?_
  have nd := sc_l_data.nd
  refine ⟨_, (pss_cons (ps_set (i := 2) nd rfl (by first | exact Or.inl rfl | exact Or.inr rfl) (pe_lst pa_nil)) (pss_cons (ps_for (passes_of rfl) rfl (pi_range1 rfl T.b_range (pa_cons (pe_op (op_addU (K := K)) pe_int (pe_dx C_l_next (takes_of rfl rfl rfl rfl) hr (by decide) rfl (pa_cons (pv 0) (pa_cons (pv 1) pa_nil)))) pa_nil)) (pg_name (i := 3) nd rfl (by first | exact Or.inl rfl | exact Or.inr rfl)) (pss_one (ps_expr (pe_bm PySem.F.plainAttrs_list PySem.F.slot_list_append PySem.F.type_list_append mt_append (pv 2) (pa_cons (pe_ix (ix_U (K := K)) (pe_lst (pa_cons (pe_dx C_l_next (takes_of rfl rfl rfl rfl) hr (by decide) rfl (pa_cons (pv 0) (pa_cons pe_int pa_nil))) (pa_cons pe_int (pa_cons pe_int (pa_cons pe_int (pa_cons pe_int pa_nil)))))) (pe_dx C_l_next (takes_of rfl rfl rfl rfl) hr (by decide) rfl (pa_cons (pv 0) (pa_cons pe_int pa_nil))) (fun _ _ => rfl)) pa_nil))))) (pss_one (ps_ret (pe_callTy (call_tupleU (K := K)) (by rfl) T.b_tuple (by decide +kernel) (pa_cons (pv 2) pa_nil)))))), ?_⟩
  exact (ss_seq (ss_set (se_lst sa_nil)) (ss_seq (ss_for (sw_r1 (sa_cons (se_op os_add se_int (se_call (sa_cons se_var (sa_cons se_var sa_nil)))) sa_nil)) sg_name (ss_drop (se_bl_ ms_append se_var (sa_cons (se_op os_ix (se_lst (sa_cons (se_call (sa_cons se_var (sa_cons se_int sa_nil))) (sa_cons se_int (sa_cons se_int (sa_cons se_int (sa_cons se_int sa_nil)))))) (se_call (sa_cons se_var (sa_cons se_int sa_nil)))) sa_nil)))) (ss_ret (se_cb cs_tuple (sa_cons se_var sa_nil)))))
abbrev s_l_rest : Stmt := topS 46
abbrev N_l_rest : List Str := ["_law_bits", "_law_code_here", "_law_wide", "_law_left", "_law_bit"]
theorem sc_l_rest : FnScope N_l_rest ["_law_bits", "_law_code_here"] (defScope s_l_rest) := ⟨rfl, rfl, rfl, by decide +kernel, rfl, by decide +kernel, by decide +kernel⟩
theorem ok_l_rest {P : Program} {w : World} {K : PySem.W.Frag} {mg : Str → Option Value} {base : Heap} {a : Addr} {fd : FuncData} {ca : CaT} (T : Txt K mg ca) (F : Fun K "_law_rest" "_law_rest" s_l_rest a fd)  :
    FnOk P w K mg base (L2.CX P w) 1 a fd ["_law_bits", "_law_code_here"] (SpF K ca F_l_rest) := by
  refine SM.Fn.ofF F sc_l_rest rfl fun cdv A outer s H E hr => ?_
  have nd := sc_l_rest.nd
  refine ⟨_, (pss_cons (ps_set (i := 2) nd rfl (by first | exact Or.inl rfl | exact Or.inr rfl) (pe_op op_subU (pe_bits (pv 1)) pe_int)) (pss_cons (ps_set (i := 3) nd rfl (by first | exact Or.inl rfl | exact Or.inr rfl) pe_int) (pss_cons (ps_for (passes_of rfl) rfl (pi_seqU (K := K) (pv 0)) (pg_name (i := 4) nd rfl (by first | exact Or.inl rfl | exact Or.inr rfl)) (pss_cons (ps_set (i := 3) nd rfl (by first | exact Or.inl rfl | exact Or.inr rfl) (pe_op (op_addU (K := K)) (pe_op (op_mulA (K := K)) pe_int (pv 3)) (pv 4))) (pss_one (ps_if (pt_cmpR (op_eqPK (K := K) (DL.room65 hr)) (pe_op op_andU (pe_op op_shrU (pv 3) (pv 2)) pe_int) pe_int (nomark _)) (pss_one (ps_set (i := 3) nd rfl (by first | exact Or.inl rfl | exact Or.inr rfl) (pe_op op_xorU (pv 3) (pv 1)))) pss_nil)))) (pss_one (ps_ret (pv 3)))))), ?_⟩
  exact (ss_seq (ss_set (se_op os_sub (se_bits se_var) se_int)) (ss_seq (ss_set se_int) (ss_seq (ss_for (sw_seq se_var) sg_name (ss_seq (ss_set (se_op os_add (se_op os_mul se_int se_var) se_var)) (ss_if (st_test (se_op os_eq (se_op os_and (se_op os_shr se_var se_var) se_int) se_int)) (ss_set (se_op os_xor se_var se_var)) ss_next))) (ss_ret se_var))))
abbrev s_l_coded : Stmt := topS 47
abbrev N_l_coded : List Str := ["_law_bits", "_law_code_here", "_law_wide", "_law_left", "_law_k"]
theorem sc_l_coded : FnScope N_l_coded ["_law_bits", "_law_code_here"] (defScope s_l_coded) := ⟨rfl, rfl, rfl, by decide +kernel, rfl, by decide +kernel, by decide +kernel⟩
theorem ok_l_coded {P : Program} {w : World} {K : PySem.W.Frag} {mg : Str → Option Value} {base : Heap} {a : Addr} {fd : FuncData} {ca : CaT} (T : Txt K mg ca) (F : Fun K "_law_coded" "_law_coded" s_l_coded a fd) (C_l_rest : Dx P w K mg base 1 "_law_rest" (SpF K ca F_l_rest)) :
    FnOk P w K mg base (L2.CX P w) 2 a fd ["_law_bits", "_law_code_here"] (SpF K ca F_l_coded) := by
  refine SM.Fn.ofF F sc_l_coded rfl fun cdv A outer s H E hr => ?_
  have nd := sc_l_coded.nd
  refine ⟨_, (pss_cons (ps_set (i := 2) nd rfl (by first | exact Or.inl rfl | exact Or.inr rfl) (pe_op op_subU (pe_bits (pv 1)) pe_int)) (pss_cons (ps_set (i := 3) nd rfl (by first | exact Or.inl rfl | exact Or.inr rfl) (pe_dx C_l_rest (takes_of rfl rfl rfl rfl) hr (by decide) rfl (pa_cons (pe_op (op_addU (K := K)) (pv 0) (pe_op (op_mulA (K := K)) (pe_tup (pa_cons pe_int pa_nil)) (pv 2))) (pa_cons (pv 1) pa_nil)))) (pss_one (ps_ret (pe_op (op_addU (K := K)) (pv 0) (pe_callTy (call_tupleU (K := K)) (by rfl) T.b_tuple (by decide +kernel) (pa_cons (pe_lc (own := [("_law_k", 4)]) (g := (gName 4)) rfl nd (pi_range1 rfl T.b_range (pa_cons (pv 2) pa_nil)) (blkOk_by (own := [("_law_k", 4)]) (N := N_l_coded) (sc := defScope s_l_coded) (by decide +kernel)) (fun _ _ _ _ _ => (pg_name (i := 4) nd rfl (by first | exact Or.inl rfl | exact Or.inr rfl))) (fun _ _ _ _ _ => pts_nil) (fun _ _ _ _ _ => (pe_op op_andU (pe_op op_shrU (pv 3) (pe_op op_subU (pe_op op_subU (pv 2) pe_int) (pv 4))) pe_int))) pa_nil))))))), ?_⟩
  exact (ss_seq (ss_set (se_op os_sub (se_bits se_var) se_int)) (ss_seq (ss_set (se_call (sa_cons (se_op os_add se_var (se_op os_mul (se_tup (sa_cons se_int sa_nil)) se_var)) (sa_cons se_var sa_nil)))) (ss_ret (se_op os_add se_var (se_cb cs_tuple (sa_cons (se_lc (W2 := fun _ _ _ _ => False) (sw_r1 (sa_cons se_var sa_nil)) sg_name (by decide) st_yes (se_op os_and (se_op os_shr se_var (se_op os_sub (se_op os_sub se_var se_int) se_var)) se_int)) sa_nil))))))
abbrev s_l_of_bytes : Stmt := topS 45
abbrev N_l_of_bytes : List Str := ["_law_data_here", "_law_found", "_law_byte", "_law_k"]
theorem sc_l_of_bytes : FnScope N_l_of_bytes ["_law_data_here"] (defScope s_l_of_bytes) := ⟨rfl, rfl, rfl, by decide +kernel, rfl, by decide +kernel, by decide +kernel⟩
theorem ok_l_of_bytes {P : Program} {w : World} {K : PySem.W.Frag} {mg : Str → Option Value} {base : Heap} {a : Addr} {fd : FuncData} {ca : CaT} (T : Txt K mg ca) (F : Fun K "_law_of_bytes" "_law_of_bytes" s_l_of_bytes a fd)  :
    FnOk P w K mg base (L2.CX P w) 1 a fd ["_law_data_here"] (SpF K ca F_l_of_bytes) := by
  refine SM.Fn.ofF F sc_l_of_bytes rfl fun cdv A outer s H E hr => ?_
  have nd := sc_l_of_bytes.nd
  refine ⟨_, (pss_cons (ps_set (i := 1) nd rfl (by first | exact Or.inl rfl | exact Or.inr rfl) (pe_lst pa_nil)) (pss_cons (ps_for (passes_of rfl) rfl (pi_seqU (K := K) (pv 0)) (pg_name (i := 2) nd rfl (by first | exact Or.inl rfl | exact Or.inr rfl)) (pss_one (ps_expr (pe_bm PySem.F.plainAttrs_list PySem.F.slot_list_extend PySem.F.type_list_extend (L2.MtR.or mt_extend mt_extT) (pv 1) (pa_cons (pe_lc (own := [("_law_k", 3)]) (g := (gName 3)) rfl nd (pi_range1 rfl T.b_range (pa_cons pe_int pa_nil)) (blkOk_by (own := [("_law_k", 3)]) (N := N_l_of_bytes) (sc := defScope s_l_of_bytes) (by decide +kernel)) (fun _ _ _ _ _ => (pg_name (i := 3) nd rfl (by first | exact Or.inl rfl | exact Or.inr rfl))) (fun _ _ _ _ _ => pts_nil) (fun _ _ _ _ _ => (pe_op op_andU (pe_op op_shrU (pv 2) (pe_op op_subU pe_int (pv 3))) pe_int))) pa_nil))))) (pss_one (ps_ret (pe_callTy (call_tupleU (K := K)) (by rfl) T.b_tuple (by decide +kernel) (pa_cons (pv 1) pa_nil)))))), ?_⟩
  exact (ss_seq (ss_set (se_lst sa_nil)) (ss_seq (ss_for (sw_seq se_var) sg_name (ss_drop (se_bl_ ms_extend se_var (sa_cons (se_lc (W2 := fun _ _ _ _ => False) (sw_r1 (sa_cons se_int sa_nil)) sg_name (by decide) st_yes (se_op os_and (se_op os_shr se_var (se_op os_sub se_int se_var)) se_int)) sa_nil)))) (ss_ret (se_cb cs_tuple (sa_cons se_var sa_nil)))))
abbrev s_l_stuffed : Stmt := topS 48
abbrev N_l_stuffed : List Str := ["_law_bits", "_law_text", "_law_bit", "_law_sign"]
theorem sc_l_stuffed : FnScope N_l_stuffed ["_law_bits"] (defScope s_l_stuffed) := ⟨rfl, rfl, rfl, by decide +kernel, rfl, by decide +kernel, by decide +kernel⟩
theorem ok_l_stuffed {P : Program} {w : World} {K : PySem.W.Frag} {mg : Str → Option Value} {base : Heap} {a : Addr} {fd : FuncData} {ca : CaT} (T : Txt K mg ca) (F : Fun K "_law_stuffed" "_law_stuffed" s_l_stuffed a fd)  :
    FnOk P w K mg base (L2.CX P w) 1 a fd ["_law_bits"] (SpF K ca F_l_stuffed) := by
  refine SM.Fn.ofF F sc_l_stuffed rfl fun cdv A outer s H E hr => ?_
  have nd := sc_l_stuffed.nd
  refine ⟨_, (pss_cons (ps_set (i := 1) nd rfl (by first | exact Or.inl rfl | exact Or.inr rfl) (DL.pe_joinRepl (K := K) (pe_lc (own := [("_law_bit", 2)]) (g := (gName 2)) rfl nd (pi_seqU (K := K) (pv 0)) (blkOk_by (own := [("_law_bit", 2)]) (N := N_l_stuffed) (sc := defScope s_l_stuffed) (by decide +kernel)) (fun _ _ _ _ _ => (pg_name (i := 2) nd rfl (by first | exact Or.inl rfl | exact Or.inr rfl))) (fun _ _ _ _ _ => pts_nil) (fun _ _ _ _ _ => (pe_callTy DL.call_strI (by rfl) T.b_str (by decide +kernel) (pa_cons (pv 2) pa_nil)))))) (pss_one (ps_ret (pe_callTy (call_tupleU (K := K)) (by rfl) T.b_tuple (by decide +kernel) (pa_cons (pe_lc (own := [("_law_sign", 3)]) (g := (gName 3)) rfl nd (pi_seqU (K := K) (pv 1)) (blkOk_by (own := [("_law_sign", 3)]) (N := N_l_stuffed) (sc := defScope s_l_stuffed) (by decide +kernel)) (fun _ _ _ _ _ => (pg_name (i := 3) nd rfl (by first | exact Or.inl rfl | exact Or.inr rfl))) (fun _ _ _ _ _ => pts_nil) (fun _ _ _ _ _ => (pe_callTy DL.call_intT (by rfl) T.b_int (by decide +kernel) (pa_cons (pv 3) pa_nil)))) pa_nil))))), ?_⟩
  exact (ss_seq (ss_set (se_replS (by decide +kernel) (by decide +kernel) (se_join (se_strS (by decide +kernel)) (se_lc (W2 := fun _ _ _ _ => False) (sw_seq se_var) sg_name (by decide) st_yes (se_cb cs_str (sa_cons se_var sa_nil)))))) (ss_ret (se_cb cs_tuple (sa_cons (se_lc (W2 := fun _ _ _ _ => False) (sw_seq se_var) sg_name (by decide) st_yes (se_cb cs_intT (sa_cons se_var sa_nil))) sa_nil))))
abbrev s_l_framed : Stmt := topS 49
abbrev N_l_framed : List Str := ["_law_data_here", "_law_code_here", "_law_flag"]
theorem sc_l_framed : FnScope N_l_framed ["_law_data_here", "_law_code_here"] (defScope s_l_framed) := ⟨rfl, rfl, rfl, by decide +kernel, rfl, by decide +kernel, by decide +kernel⟩
theorem ok_l_framed {P : Program} {w : World} {K : PySem.W.Frag} {mg : Str → Option Value} {base : Heap} {a : Addr} {fd : FuncData} {ca : CaT} (T : Txt K mg ca) (F : Fun K "_law_framed" "_law_framed" s_l_framed a fd) (C_l_coded : Dx P w K mg base 2 "_law_coded" (SpF K ca F_l_coded)) (C_l_of_bytes : Dx P w K mg base 1 "_law_of_bytes" (SpF K ca F_l_of_bytes)) (C_l_stuffed : Dx P w K mg base 1 "_law_stuffed" (SpF K ca F_l_stuffed)) :
    FnOk P w K mg base (L2.CX P w) 3 a fd ["_law_data_here", "_law_code_here"] (SpF K ca F_l_framed) := by
  refine SM.Fn.ofF F sc_l_framed rfl fun cdv A outer s H E hr => ?_
  have nd := sc_l_framed.nd
  refine ⟨_, (pss_cons (ps_set (i := 2) nd rfl (by first | exact Or.inl rfl | exact Or.inr rfl) (pe_tup (pa_cons pe_int (pa_cons pe_int (pa_cons pe_int (pa_cons pe_int (pa_cons pe_int (pa_cons pe_int (pa_cons pe_int (pa_cons pe_int pa_nil)))))))))) (pss_one (ps_ret (pe_op (op_addU (K := K)) (pe_op (op_addU (K := K)) (pv 2) (pe_dx C_l_stuffed (takes_of rfl rfl rfl rfl) hr (by decide) rfl (pa_cons (pe_dx C_l_coded (takes_of rfl rfl rfl rfl) hr (by decide) rfl (pa_cons (pe_dx C_l_of_bytes (takes_of rfl rfl rfl rfl) hr (by decide) rfl (pa_cons (pv 0) pa_nil)) (pa_cons (pv 1) pa_nil))) pa_nil))) (pv 2))))), ?_⟩
  exact (ss_seq (ss_set (se_tup (sa_cons se_int (sa_cons se_int (sa_cons se_int (sa_cons se_int (sa_cons se_int (sa_cons se_int (sa_cons se_int (sa_cons se_int sa_nil)))))))))) (ss_ret (se_op os_add (se_op os_add se_var (se_call (sa_cons (se_call (sa_cons (se_call (sa_cons se_var sa_nil)) (sa_cons se_var sa_nil))) sa_nil))) se_var)))
abbrev s_need_code : Stmt := topS 26
abbrev N_need_code : List Str := ["code"]
theorem sc_need_code : FnScope N_need_code ["code"] (defScope s_need_code) := ⟨rfl, rfl, rfl, by decide +kernel, rfl, by decide +kernel, by decide +kernel⟩
theorem ok_need_code {P : Program} {w : World} {K : PySem.W.Frag} {mg : Str → Option Value} {base : Heap} {a : Addr} {fd : FuncData} {ca : CaT} (T : Txt K mg ca) (F : Fun K "need_code" "need_code" s_need_code a fd)  :
    FnOk P w K mg base (L2.CX P w) 1 a fd ["code"] (SpF K ca F_need_code) := by
  refine SM.Fn.ofF F sc_need_code rfl fun cdv A outer s H E hr => ?_
  have nd := sc_need_code.nd
  refine ⟨_, (pss_one (ps_if (PW.pt (pw_or (pt_not (pt_val (pe_callB (call_isiA (K := K)) (by rfl) T.b_isinstance (by decide +kernel) (pa_cons (pv 0) (pa_cons (pe_bltn (v := .ty "int") (by rfl) T.b_int (by decide +kernel) rfl) pa_nil))))) (pw_or (pt_val (pe_callB (call_isiA (K := K)) (by rfl) T.b_isinstance (by decide +kernel) (pa_cons (pv 0) (pa_cons (pe_bltn (v := .ty "bool") (by rfl) T.b_bool (by decide +kernel) rfl) pa_nil)))) (pw_or (pt_not (pt_chain op_leU op_leU (pe_glob (v := .int 3) rfl T.c_LEAST.choose_spec ⟨_, rfl⟩) (pv 0) (pe_glob (v := .int 131071) rfl T.c_GREATEST.choose_spec ⟨_, rfl⟩))) (pw_or1 (pt_cmpR (op_eqPK (K := K) (DL.room65 hr)) (pe_op op_modU (pv 0) pe_int) pe_int (nomark _))))))) (pss_one (DL.ps_raiseC rfl (takes_of rfl rfl rfl rfl) (pmk_own PySem.F.excBase_ValueError T.e_NoCode T.g_NoCode T.k_NoCode (raises_own T.b_NoCode T.t_NoCode) rfl))) pss_nil)), ?_⟩
  exact (ss_if (st_or (st_not (st_b (se_cb (cs_isi T.isO T.isX T.isT) (sa_cons se_var (sa_cons se_ty sa_nil))))) (st_or (st_b (se_cb (cs_isi T.isO T.isX T.isT) (sa_cons se_var (sa_cons se_ty sa_nil)))) (st_or (st_not (st_test (se_ch os_le os_le se_int se_var se_int))) (st_test (se_op os_eq (se_op os_mod se_var se_int) se_int))))) (ss_raise rfl) ss_next)
abbrev s_width : Stmt := topS 27
abbrev N_width : List Str := ["code"]
theorem sc_width : FnScope N_width ["code"] (defScope s_width) := ⟨rfl, rfl, rfl, by decide +kernel, rfl, by decide +kernel, by decide +kernel⟩
theorem ok_width {P : Program} {w : World} {K : PySem.W.Frag} {mg : Str → Option Value} {base : Heap} {a : Addr} {fd : FuncData} {ca : CaT} (T : Txt K mg ca) (F : Fun K "width" "width" s_width a fd) (C_need_code : Dx P w K mg base 1 "need_code" (SpF K ca F_need_code)) :
    FnOk P w K mg base (L2.CX P w) 2 a fd ["code"] (SpF K ca F_width) := by
  refine SM.Fn.ofF F sc_width rfl fun cdv A outer s H E hr => ?_
  have nd := sc_width.nd
  refine ⟨_, (pss_cons (ps_expr (pe_dx C_need_code (takes_of rfl rfl rfl rfl) hr (by decide) rfl (pa_cons (pv 0) pa_nil))) (pss_one (ps_ret (pe_op op_subU (pe_bits (pv 0)) pe_int)))), ?_⟩
  exact (ss_seq (ss_drop (se_call (sa_cons se_var sa_nil))) (ss_ret (se_op os_sub (se_bits se_var) se_int)))
abbrev s_Reader___init__ : Stmt := inClass (topS 41) 0
abbrev N_Reader___init__ : List Str := ["self", "code"]
theorem sc_Reader___init__ : FnScope N_Reader___init__ ["self", "code"] (defScope s_Reader___init__) := ⟨rfl, rfl, rfl, by decide +kernel, rfl, by decide +kernel, by decide +kernel⟩
theorem ok_Reader___init__ {P : Program} {w : World} {K : PySem.W.Frag} {mg : Str → Option Value} {base : Heap} {a : Addr} {fd : FuncData} {ca : CaT} (T : Txt K mg ca) (F : Fun K "__init__" "Reader.__init__" s_Reader___init__ a fd) (C_width : Dx P w K mg base 2 "width" (SpF K ca F_width)) :
    FnOk P w K mg base (L2.CX P w) 3 a fd ["self", "code"] (SpF K ca F_Reader___init__) := by
  refine SM.Fn.ofF F sc_Reader___init__ rfl fun cdv A outer s H E hr => ?_
  have nd := sc_Reader___init__.nd
  refine ⟨_, (pss_cons (ps_fld (pv 0) (pe_dx C_width (takes_of rfl rfl rfl rfl) hr (by decide) rfl (pa_cons (pv 1) pa_nil)) rfl) (pss_cons (ps_fld (pv 0) (pv 1) rfl) (pss_cons (ps_fld (pv 0) (pe_tup pa_nil) rfl) (pss_one (ps_fld (pv 0) pe_non rfl))))), ?_⟩
  exact (ss_seq (ss_fl (by decide +kernel) ⟨⟨T.cl_Reader, T.n_Reader_check_bits⟩, trivial⟩ se_var (se_call (sa_cons se_var sa_nil))) (ss_seq (ss_fl (by decide +kernel) ⟨⟨T.cl_Reader, T.n_Reader_divisor⟩, trivial⟩ se_var se_var) (ss_seq (ss_fl (by decide +kernel) ⟨⟨T.cl_Reader, T.n_Reader_latest⟩, trivial⟩ se_var (se_tup sa_nil)) (ss_fl (by decide +kernel) ⟨⟨T.cl_Reader, T.n_Reader_since_flag⟩, trivial⟩ se_var se_non))))
abbrev s_gathered : Stmt := topS 18
abbrev N_gathered : List Str := ["bits", "number", "bit"]
theorem sc_gathered : FnScope N_gathered ["bits"] (defScope s_gathered) := ⟨rfl, rfl, rfl, by decide +kernel, rfl, by decide +kernel, by decide +kernel⟩
theorem ok_gathered {P : Program} {w : World} {K : PySem.W.Frag} {mg : Str → Option Value} {base : Heap} {a : Addr} {fd : FuncData} {ca : CaT} (T : Txt K mg ca) (F : Fun K "gathered" "gathered" s_gathered a fd)  :
    FnOk P w K mg base (L2.CX P w) 1 a fd ["bits"] (SpF K ca F_gathered) := by
  refine SM.Fn.ofF F sc_gathered rfl fun cdv A outer s H E hr => ?_
  have nd := sc_gathered.nd
  refine ⟨_, (pss_cons (ps_set (i := 1) nd rfl (by first | exact Or.inl rfl | exact Or.inr rfl) pe_int) (pss_cons (ps_for (passes_of rfl) rfl (pi_seqU (K := K) (pv 0)) (pg_name (i := 2) nd rfl (by first | exact Or.inl rfl | exact Or.inr rfl)) (pss_one (ps_set (i := 1) nd rfl (by first | exact Or.inl rfl | exact Or.inr rfl) (pe_op op_orU (pe_op op_shlU (pv 1) pe_int) (pv 2))))) (pss_one (ps_ret (pv 1))))), ?_⟩
  exact (ss_seq (ss_set se_int) (ss_seq (ss_for (sw_seq se_var) sg_name (ss_set (se_op os_or (se_op os_shl se_var se_int) se_var))) (ss_ret se_var)))
abbrev s_is_whole : Stmt := topS 14
abbrev N_is_whole : List Str := ["thing", "least", "most"]
theorem sc_is_whole : FnScope N_is_whole ["thing", "least", "most"] (defScope s_is_whole) := ⟨rfl, rfl, rfl, by decide +kernel, rfl, by decide +kernel, by decide +kernel⟩
theorem ok_is_whole {P : Program} {w : World} {K : PySem.W.Frag} {mg : Str → Option Value} {base : Heap} {a : Addr} {fd : FuncData} {ca : CaT} (T : Txt K mg ca) (F : Fun K "is_whole" "is_whole" s_is_whole a fd)  :
    FnOk P w K mg base (L2.CX P w) 1 a fd ["thing", "least", "most"] (SpF K ca F_is_whole) := by
  refine SM.Fn.ofF F sc_is_whole rfl fun cdv A outer s H E hr => ?_
  have nd := sc_is_whole.nd
  refine ⟨_, (pss_one (ps_ret (pe_and (pe_callB (call_isiA (K := K)) (by rfl) T.b_isinstance (by decide +kernel) (pa_cons (pv 0) (pa_cons (pe_bltn (v := .ty "int") (by rfl) T.b_int (by decide +kernel) rfl) pa_nil))) (pe_and (pe_not (pe_callB (call_isiA (K := K)) (by rfl) T.b_isinstance (by decide +kernel) (pa_cons (pv 0) (pa_cons (pe_bltn (v := .ty "bool") (by rfl) T.b_bool (by decide +kernel) rfl) pa_nil)))) (pe_one (pe_chain op_leU op_leU (pv 1) (pv 0) (pv 2))))))), ?_⟩
  exact (ss_ret (se_and (se_cb (cs_isi T.isO T.isX T.isT) (sa_cons se_var (sa_cons se_ty sa_nil))) (se_and (se_not (se_cb (cs_isi T.isO T.isX T.isT) (sa_cons se_var (sa_cons se_ty sa_nil)))) (se_ch os_le os_le se_var se_var se_var))))
abbrev s_is_bits : Stmt := topS 15
abbrev N_is_bits : List Str := ["thing", "bit"]
theorem sc_is_bits : FnScope N_is_bits ["thing"] (defScope s_is_bits) := ⟨rfl, rfl, rfl, by decide +kernel, rfl, by decide +kernel, by decide +kernel⟩
theorem ok_is_bits {P : Program} {w : World} {K : PySem.W.Frag} {mg : Str → Option Value} {base : Heap} {a : Addr} {fd : FuncData} {ca : CaT} (T : Txt K mg ca) (F : Fun K "is_bits" "is_bits" s_is_bits a fd) (C_is_whole : Dx P w K mg base 1 "is_whole" (SpF K ca F_is_whole)) :
    FnOk P w K mg base (L2.CX P w) 2 a fd ["thing"] (SpF K ca F_is_bits) := by
  refine SM.Fn.ofF F sc_is_bits rfl fun cdv A outer s H E hr => ?_
  have nd := sc_is_bits.nd
  refine ⟨_, (pss_one (ps_ret (pe_and (pe_callB (call_isiA (K := K)) (by rfl) T.b_isinstance (by decide +kernel) (pa_cons (pv 0) (pa_cons (pe_bltn (v := .ty "tuple") (by rfl) T.b_tuple (by decide +kernel) rfl) pa_nil))) (pe_one (pe_callB (call_allU (K := K) rfl) (by rfl) T.b_all (by decide +kernel) (pa_cons (pe_lc (own := [("bit", 1)]) (g := (gName 1)) rfl nd (pi_seqU (K := K) (pv 0)) (blkOk_by (own := [("bit", 1)]) (N := N_is_bits) (sc := defScope s_is_bits) (by decide +kernel)) (fun _ _ _ _ _ => (pg_name (i := 1) nd rfl (by first | exact Or.inl rfl | exact Or.inr rfl))) (fun _ _ _ _ _ => pts_nil) (fun _ _ _ _ _ => (pe_dx0 C_is_whole hr (by decide) rfl (pa_cons (pv 1) (pa_cons pe_int (pa_cons pe_int pa_nil)))))) pa_nil)))))), ?_⟩
  exact (ss_ret (se_and (se_cb (cs_isi T.isO T.isX T.isT) (sa_cons se_var (sa_cons se_ty sa_nil))) (se_cb cs_all (sa_cons (se_lc (W2 := fun _ _ _ _ => False) (sw_seq se_var) sg_name (by decide) st_yes (se_call0 (sa_cons se_var (sa_cons se_int (sa_cons se_int sa_nil))))) sa_nil))))
abbrev s_data_of : Stmt := topS 20
abbrev N_data_of : List Str := ["bits", "place"]
theorem sc_data_of : FnScope N_data_of ["bits"] (defScope s_data_of) := ⟨rfl, rfl, rfl, by decide +kernel, rfl, by decide +kernel, by decide +kernel⟩
theorem ok_data_of {P : Program} {w : World} {K : PySem.W.Frag} {mg : Str → Option Value} {base : Heap} {a : Addr} {fd : FuncData} {ca : CaT} (T : Txt K mg ca) (F : Fun K "data_of" "data_of" s_data_of a fd) (C_gathered : Dx P w K mg base 1 "gathered" (SpF K ca F_gathered)) (C_is_bits : Dx P w K mg base 2 "is_bits" (SpF K ca F_is_bits)) :
    FnOk P w K mg base (L2.CX P w) 3 a fd ["bits"] (SpF K ca F_data_of) := by
  refine SM.Fn.ofF F sc_data_of rfl fun cdv A outer s H E hr => ?_
  have nd := sc_data_of.nd
  refine ⟨_, (pss_cons (ps_if (PW.pt (pw_or (pt_not (pt_val (pe_dx C_is_bits (takes_of rfl rfl rfl rfl) hr (by decide) rfl (pa_cons (pv 0) pa_nil)))) (pw_or (pt_cmpR op_gtU (pe_callB (call_lenU (K := K)) (by rfl) T.b_len (by decide +kernel) (pa_cons (pv 0) pa_nil)) (pe_op (op_mulA (K := K)) (pe_glob (v := .int 1000) rfl T.c_MOST_DATA.choose_spec ⟨_, rfl⟩) (pe_glob (v := .int 8) rfl T.c_BYTE.choose_spec ⟨_, rfl⟩)) (nomark _)) (pw_or1 (pt_cmpR (op_nePK (K := K) (DL.room65 hr)) (pe_op op_modU (pe_callB (call_lenU (K := K)) (by rfl) T.b_len (by decide +kernel) (pa_cons (pv 0) pa_nil)) (pe_glob (v := .int 8) rfl T.c_BYTE.choose_spec ⟨_, rfl⟩)) pe_int (nomark _)))))) (pss_one (DL.ps_raiseC rfl (takes_of rfl rfl rfl rfl) (pmk_own PySem.F.excBase_ValueError T.e_NoBits T.g_NoBits T.k_NoBits (raises_own T.b_NoBits T.t_NoBits) rfl))) pss_nil) (pss_one (ps_ret (pe_callTy (call_tupleU (K := K)) (by rfl) T.b_tuple (by decide +kernel) (pa_cons (pe_lc (own := [("place", 1)]) (g := (gName 1)) rfl nd (pi_range3 rfl T.b_range (pa_cons pe_int (pa_cons (pe_callB (call_lenU (K := K)) (by rfl) T.b_len (by decide +kernel) (pa_cons (pv 0) pa_nil)) (pa_cons (pe_glob (v := .int 8) rfl T.c_BYTE.choose_spec ⟨_, rfl⟩) pa_nil)))) (blkOk_by (own := [("place", 1)]) (N := N_data_of) (sc := defScope s_data_of) (by decide +kernel)) (fun _ _ _ _ _ => (pg_name (i := 1) nd rfl (by first | exact Or.inl rfl | exact Or.inr rfl))) (fun _ _ _ _ _ => pts_nil) (fun _ _ _ _ _ => (pe_dx0 C_gathered hr (by decide) rfl (pa_cons (pe_slice (sl_U (K := K)) (pv 0) (po_some (pv 1)) (po_some (pe_op (op_addU (K := K)) (pv 1) (pe_glob (v := .int 8) rfl T.c_BYTE.choose_spec ⟨_, rfl⟩)))) pa_nil)))) pa_nil))))), ?_⟩
  exact (ss_seq (ss_if (st_or (st_not (st_b (se_call (sa_cons se_var sa_nil)))) (st_or (st_test (se_op os_gt (se_cb cs_len (sa_cons se_var sa_nil)) (se_op os_mul se_int se_int))) (st_test (se_op os_ne (se_op os_mod (se_cb cs_len (sa_cons se_var sa_nil)) se_int) se_int)))) (ss_raise rfl) ss_next) (ss_ret (se_cb cs_tuple (sa_cons (se_lc (W2 := fun _ _ _ _ => False) (sw_r3 (sa_cons se_int (sa_cons (se_cb cs_len (sa_cons se_var sa_nil)) (sa_cons se_int sa_nil)))) sg_name (by decide) st_yes (se_call0 (sa_cons (se_sl sls_all se_var (so_some se_var) (so_some (se_op os_add se_var se_int))) sa_nil))) sa_nil))))
abbrev s_divided : Stmt := topS 28
abbrev N_divided : List Str := ["number", "code", "many"]
theorem sc_divided : FnScope N_divided ["number", "code"] (defScope s_divided) := ⟨rfl, rfl, rfl, by decide +kernel, rfl, by decide +kernel, by decide +kernel⟩
theorem ok_divided {P : Program} {w : World} {K : PySem.W.Frag} {mg : Str → Option Value} {base : Heap} {a : Addr} {fd : FuncData} {ca : CaT} (T : Txt K mg ca) (F : Fun K "divided" "divided" s_divided a fd)  :
    FnOk P w K mg base (L2.CX P w) 1 a fd ["number", "code"] (SpF K ca F_divided) := by
  refine SM.Fn.ofF F sc_divided rfl fun cdv A outer s H E hr => ?_
  have nd := sc_divided.nd
  refine ⟨_, (pss_cons (ps_set (i := 2) nd rfl (by first | exact Or.inl rfl | exact Or.inr rfl) (pe_bits (pv 1))) (pss_cons (ps_while (passes_of rfl) (pt_cmpR op_geU (pe_bits (pv 0)) (pv 2) (nomark _)) (pss_one (ps_set (i := 0) nd rfl (by first | exact Or.inl rfl | exact Or.inr rfl) (pe_op op_xorU (pv 0) (pe_op op_shlU (pv 1) (pe_op op_subU (pe_bits (pv 0)) (pv 2))))))) (pss_one (ps_ret (pv 0))))), ?_⟩
  exact (ss_seq (ss_set (se_bits se_var)) (ss_seq (ss_while (st_test (se_op os_ge (se_bits se_var) se_var)) (ss_set (se_op os_xor se_var (se_op os_shl se_var (se_op os_sub (se_bits se_var) se_var))))) (ss_ret se_var)))
abbrev s_number_of : Stmt := topS 22
abbrev N_number_of : List Str := ["bits"]
theorem sc_number_of : FnScope N_number_of ["bits"] (defScope s_number_of) := ⟨rfl, rfl, rfl, by decide +kernel, rfl, by decide +kernel, by decide +kernel⟩
theorem ok_number_of {P : Program} {w : World} {K : PySem.W.Frag} {mg : Str → Option Value} {base : Heap} {a : Addr} {fd : FuncData} {ca : CaT} (T : Txt K mg ca) (F : Fun K "number_of" "number_of" s_number_of a fd) (C_gathered : Dx P w K mg base 1 "gathered" (SpF K ca F_gathered)) (C_is_bits : Dx P w K mg base 2 "is_bits" (SpF K ca F_is_bits)) :
    FnOk P w K mg base (L2.CX P w) 3 a fd ["bits"] (SpF K ca F_number_of) := by
  refine SM.Fn.ofF F sc_number_of rfl fun cdv A outer s H E hr => ?_
  have nd := sc_number_of.nd
  refine ⟨_, (pss_cons (ps_if (pt_not (pt_val (pe_dx C_is_bits (takes_of rfl rfl rfl rfl) hr (by decide) rfl (pa_cons (pv 0) pa_nil)))) (pss_one (DL.ps_raiseC rfl (takes_of rfl rfl rfl rfl) (pmk_own PySem.F.excBase_ValueError T.e_NoBits T.g_NoBits T.k_NoBits (raises_own T.b_NoBits T.t_NoBits) rfl))) pss_nil) (pss_one (ps_ret (pe_dx C_gathered (takes_of rfl rfl rfl rfl) hr (by decide) rfl (pa_cons (pv 0) pa_nil))))), ?_⟩
  exact (ss_seq (ss_if (st_not (st_b (se_call (sa_cons se_var sa_nil)))) (ss_raise rfl) ss_next) (ss_ret (se_call (sa_cons se_var sa_nil))))
abbrev s_number_by : Stmt := topS 29
abbrev N_number_by : List Str := ["bits"]
theorem sc_number_by : FnScope N_number_by ["bits"] (defScope s_number_by) := ⟨rfl, rfl, rfl, by decide +kernel, rfl, by decide +kernel, by decide +kernel⟩
theorem ok_number_by {P : Program} {w : World} {K : PySem.W.Frag} {mg : Str → Option Value} {base : Heap} {a : Addr} {fd : FuncData} {ca : CaT} (T : Txt K mg ca) (F : Fun K "number_by" "number_by" s_number_by a fd) (C_is_bits : Dx P w K mg base 2 "is_bits" (SpF K ca F_is_bits)) (C_number_of : Dx P w K mg base 3 "number_of" (SpF K ca F_number_of)) :
    FnOk P w K mg base (L2.CX P w) 4 a fd ["bits"] (SpF K ca F_number_by) := by
  refine SM.Fn.ofF F sc_number_by rfl fun cdv A outer s H E hr => ?_
  have nd := sc_number_by.nd
  refine ⟨_, (pss_cons (ps_if (pt_not (pt_val (pe_dx C_is_bits (takes_of rfl rfl rfl rfl) hr (by decide) rfl (pa_cons (pv 0) pa_nil)))) (pss_one (DL.ps_raiseC rfl (takes_of rfl rfl rfl rfl) (pmk_own PySem.F.excBase_ValueError T.e_NoBits T.g_NoBits T.k_NoBits (raises_own T.b_NoBits T.t_NoBits) rfl))) pss_nil) (pss_one (ps_ret (pe_dx C_number_of (takes_of rfl rfl rfl rfl) hr (by decide) rfl (pa_cons (pv 0) pa_nil))))), ?_⟩
  exact (ss_seq (ss_if (st_not (st_b (se_call (sa_cons se_var sa_nil)))) (ss_raise rfl) ss_next) (ss_ret (se_call (sa_cons se_var sa_nil))))
abbrev s_is_right : Stmt := topS 31
abbrev N_is_right : List Str := ["bits", "code"]
theorem sc_is_right : FnScope N_is_right ["bits", "code"] (defScope s_is_right) := ⟨rfl, rfl, rfl, by decide +kernel, rfl, by decide +kernel, by decide +kernel⟩
theorem ok_is_right {P : Program} {w : World} {K : PySem.W.Frag} {mg : Str → Option Value} {base : Heap} {a : Addr} {fd : FuncData} {ca : CaT} (T : Txt K mg ca) (F : Fun K "is_right" "is_right" s_is_right a fd) (C_divided : Dx P w K mg base 1 "divided" (SpF K ca F_divided)) (C_need_code : Dx P w K mg base 1 "need_code" (SpF K ca F_need_code)) (C_number_by : Dx P w K mg base 4 "number_by" (SpF K ca F_number_by)) :
    FnOk P w K mg base (L2.CX P w) 5 a fd ["bits", "code"] (SpF K ca F_is_right) := by
  refine SM.Fn.ofF F sc_is_right rfl fun cdv A outer s H E hr => ?_
  have nd := sc_is_right.nd
  refine ⟨_, (pss_cons (ps_expr (pe_dx C_need_code (takes_of rfl rfl rfl rfl) hr (by decide) rfl (pa_cons (pv 1) pa_nil))) (pss_one (ps_ret (pe_cmpR (op_eqPK (K := K) (DL.room65 hr)) (pe_dx C_divided (takes_of rfl rfl rfl rfl) hr (by decide) rfl (pa_cons (pe_dx C_number_by (takes_of rfl rfl rfl rfl) hr (by decide) rfl (pa_cons (pv 0) pa_nil)) (pa_cons (pv 1) pa_nil))) pe_int (nomark _))))), ?_⟩
  exact (ss_seq (ss_drop (se_call (sa_cons se_var sa_nil))) (ss_ret (se_op os_eq (se_call (sa_cons (se_call (sa_cons se_var sa_nil)) (sa_cons se_var sa_nil))) se_int)))
abbrev s_need_bits : Stmt := topS 35
abbrev N_need_bits : List Str := ["thing"]
theorem sc_need_bits : FnScope N_need_bits ["thing"] (defScope s_need_bits) := ⟨rfl, rfl, rfl, by decide +kernel, rfl, by decide +kernel, by decide +kernel⟩
theorem ok_need_bits {P : Program} {w : World} {K : PySem.W.Frag} {mg : Str → Option Value} {base : Heap} {a : Addr} {fd : FuncData} {ca : CaT} (T : Txt K mg ca) (F : Fun K "need_bits" "need_bits" s_need_bits a fd) (C_is_bits : Dx P w K mg base 2 "is_bits" (SpF K ca F_is_bits)) :
    FnOk P w K mg base (L2.CX P w) 3 a fd ["thing"] (SpF K ca F_need_bits) := by
  refine SM.Fn.ofF F sc_need_bits rfl fun cdv A outer s H E hr => ?_
  have nd := sc_need_bits.nd
  refine ⟨_, (pss_one (ps_if (pt_not (pt_val (pe_dx C_is_bits (takes_of rfl rfl rfl rfl) hr (by decide) rfl (pa_cons (pv 0) pa_nil)))) (pss_one (DL.ps_raiseC rfl (takes_of rfl rfl rfl rfl) (pmk_own PySem.F.excBase_ValueError T.e_NoBits T.g_NoBits T.k_NoBits (raises_own T.b_NoBits T.t_NoBits) rfl))) pss_nil)), ?_⟩
  exact (ss_if (st_not (st_b (se_call (sa_cons se_var sa_nil)))) (ss_raise rfl) ss_next)
abbrev s_plain : Stmt := topS 37
abbrev N_plain : List Str := ["bits", "found", "ones", "bit"]
theorem sc_plain : FnScope N_plain ["bits"] (defScope s_plain) := ⟨rfl, rfl, rfl, by decide +kernel, rfl, by decide +kernel, by decide +kernel⟩
theorem ok_plain {P : Program} {w : World} {K : PySem.W.Frag} {mg : Str → Option Value} {base : Heap} {a : Addr} {fd : FuncData} {ca : CaT} (T : Txt K mg ca) (F : Fun K "plain" "plain" s_plain a fd) (C_need_bits : Dx P w K mg base 3 "need_bits" (SpF K ca F_need_bits)) :
    FnOk P w K mg base (L2.CX P w) 4 a fd ["bits"] (SpF K ca F_plain) := by
  refine SM.Fn.ofF F sc_plain rfl fun cdv A outer s H E hr => ?_
  have nd := sc_plain.nd
  refine ⟨_, (pss_cons (ps_expr (pe_dx C_need_bits (takes_of rfl rfl rfl rfl) hr (by decide) rfl (pa_cons (pv 0) pa_nil))) (pss_cons (ps_set (i := 1) nd rfl (by first | exact Or.inl rfl | exact Or.inr rfl) (pe_lst pa_nil)) (pss_cons (ps_set (i := 2) nd rfl (by first | exact Or.inl rfl | exact Or.inr rfl) pe_int) (pss_cons (ps_for (passes_of rfl) rfl (pi_seqU (K := K) (pv 0)) (pg_name (i := 3) nd rfl (by first | exact Or.inl rfl | exact Or.inr rfl)) (pss_one (ps_if (pt_cmpR (op_eqPK (K := K) (DL.room65 hr)) (pv 2) (pe_glob (v := .int 5) rfl T.c_ONES.choose_spec ⟨_, rfl⟩) (nomark _)) (pss_cons (ps_if (pt_cmpR (op_eqPK (K := K) (DL.room65 hr)) (pv 3) pe_int (nomark _)) (pss_one (ps_ret pe_non)) pss_nil) (pss_one (ps_set (i := 2) nd rfl (by first | exact Or.inl rfl | exact Or.inr rfl) pe_int))) (pss_cons (ps_expr (pe_bm PySem.F.plainAttrs_list PySem.F.slot_list_append PySem.F.type_list_append mt_append (pv 1) (pa_cons (pv 3) pa_nil))) (pss_one (ps_set (i := 2) nd rfl (by first | exact Or.inl rfl | exact Or.inr rfl) (pe_ifExp (pt_cmpR (op_eqPK (K := K) (DL.room65 hr)) (pv 3) pe_int (nomark _)) (pe_op (op_addU (K := K)) (pv 2) pe_int) pe_int))))))) (pss_one (ps_ret (pe_ifExp (pt_cmpR (op_eqPK (K := K) (DL.room65 hr)) (pv 2) (pe_glob (v := .int 5) rfl T.c_ONES.choose_spec ⟨_, rfl⟩) (nomark _)) pe_non (pe_callTy (call_tupleU (K := K)) (by rfl) T.b_tuple (by decide +kernel) (pa_cons (pv 1) pa_nil))))))))), ?_⟩
  exact (ss_seq (ss_drop (se_call (sa_cons se_var sa_nil))) (ss_seq (ss_set (se_lst sa_nil)) (ss_seq (ss_set se_int) (ss_seq (ss_for (sw_seq se_var) sg_name (ss_if (st_test (se_op os_eq se_var se_int)) (ss_seq (ss_if (st_test (se_op os_eq se_var se_int)) (ss_ret se_non) ss_next) (ss_set se_int)) (ss_seq (ss_drop (se_bl_ ms_append se_var (sa_cons se_var sa_nil))) (ss_set (se_if (st_test (se_op os_eq se_var se_int)) (se_op os_add se_var se_int) se_int))))) (ss_ret (se_if (st_test (se_op os_eq se_var se_int)) se_non (se_cb cs_tuple (sa_cons se_var sa_nil))))))))
abbrev s_Reader_frame_there : Stmt := inClass (topS 41) 2
abbrev N_Reader_frame_there : List Str := ["self", "row", "many"]
theorem sc_Reader_frame_there : FnScope N_Reader_frame_there ["self"] (defScope s_Reader_frame_there) := ⟨rfl, rfl, rfl, by decide +kernel, rfl, by decide +kernel, by decide +kernel⟩
theorem ok_Reader_frame_there {P : Program} {w : World} {K : PySem.W.Frag} {mg : Str → Option Value} {base : Heap} {a : Addr} {fd : FuncData} {ca : CaT} (T : Txt K mg ca) (F : Fun K "frame_there" "Reader.frame_there" s_Reader_frame_there a fd) (C_data_of : Dx P w K mg base 3 "data_of" (SpF K ca F_data_of)) (C_is_right : Dx P w K mg base 5 "is_right" (SpF K ca F_is_right)) (C_plain : Dx P w K mg base 4 "plain" (SpF K ca F_plain)) :
    FnOk P w K mg base (L2.CX P w) 6 a fd ["self"] (SpF K ca F_Reader_frame_there) := by
  refine SM.Fn.ofF F sc_Reader_frame_there rfl fun cdv A outer s H E hr => ?_
  have nd := sc_Reader_frame_there.nd
  refine ⟨_, (pss_cons (ps_if (PW.pt (pw_or (pt_cmpR op_isU (pe_fld (pv 0) rfl) pe_non (nomark _)) (pw_or1 (pt_cmpR op_ltU (pe_callB (call_lenU (K := K)) (by rfl) T.b_len (by decide +kernel) (pa_cons (pe_fld (pv 0) rfl) pa_nil)) (pe_callB (call_lenU (K := K)) (by rfl) T.b_len (by decide +kernel) (pa_cons (pe_glob (v := .ref (ca "FLAG")) rfl T.g_FLAG rfl) pa_nil)) (nomark _))))) (pss_one (ps_ret pe_non)) pss_nil) (pss_cons (ps_set (i := 1) nd rfl (by first | exact Or.inl rfl | exact Or.inr rfl) (pe_dx C_plain (takes_of rfl rfl rfl rfl) hr (by decide) rfl (pa_cons (pe_callTy (call_tupleU (K := K)) (by rfl) T.b_tuple (by decide +kernel) (pa_cons (pe_slice (sl_U (K := K)) (pe_fld (pv 0) rfl) po_none (po_some (pe_un un_neg (pe_callB (call_lenU (K := K)) (by rfl) T.b_len (by decide +kernel) (pa_cons (pe_glob (v := .ref (ca "FLAG")) rfl T.g_FLAG rfl) pa_nil))))) pa_nil)) pa_nil))) (pss_cons (ps_if (pt_cmpR op_isU (pv 1) pe_non (nomark _)) (pss_one (ps_ret pe_non)) pss_nil) (pss_cons (ps_set (i := 2) nd rfl (by first | exact Or.inl rfl | exact Or.inr rfl) (pe_op op_subU (pe_callB (call_lenU (K := K)) (by rfl) T.b_len (by decide +kernel) (pa_cons (pv 1) pa_nil)) (pe_fld (pv 0) rfl))) (pss_cons (ps_if (PW.pt (pw_or (pt_cmpR op_ltU (pv 2) pe_int (nomark _)) (pw_or (pt_cmpR op_gtU (pv 2) (pe_glob (v := .int 8000) rfl T.c_MOST_BITS.choose_spec ⟨_, rfl⟩) (nomark _)) (pw_or (pt_cmpR op_gtU (pe_op op_modU (pv 2) pe_int) pe_int (nomark _)) (pw_or1 (pt_not (pt_val (pe_dx C_is_right (takes_of rfl rfl rfl rfl) hr (by decide) rfl (pa_cons (pv 1) (pa_cons (pe_fld (pv 0) rfl) pa_nil)))))))))) (pss_one (ps_ret pe_non)) pss_nil) (pss_one (ps_ret (pe_dx C_data_of (takes_of rfl rfl rfl rfl) hr (by decide) rfl (pa_cons (pe_slice (sl_U (K := K)) (pv 1) po_none (po_some (pv 2))) pa_nil))))))))), ?_⟩
  exact (ss_seq (ss_if (st_or (st_test (se_op os_is (se_fld (by decide +kernel) ⟨⟨T.cl_Reader, T.n_Reader_since_flag⟩, trivial⟩ se_var) se_non)) (st_test (se_op os_lt (se_cb cs_len (sa_cons (se_fld (by decide +kernel) ⟨⟨T.cl_Reader, T.n_Reader_since_flag⟩, trivial⟩ se_var) sa_nil)) (se_cb cs_len (sa_cons (se_c fun F m => T.w_FLAG F m) sa_nil))))) (ss_ret se_non) ss_next) (ss_seq (ss_set (se_call (sa_cons (se_cb cs_tuple (sa_cons (se_sl sls_all (se_fld (by decide +kernel) ⟨⟨T.cl_Reader, T.n_Reader_since_flag⟩, trivial⟩ se_var) so_none (so_some (se_un us_neg (se_cb cs_len (sa_cons (se_c fun F m => T.w_FLAG F m) sa_nil))))) sa_nil)) sa_nil))) (ss_seq (ss_if (st_test (se_op os_is se_var se_non)) (ss_ret se_non) ss_next) (ss_seq (ss_set (se_op os_sub (se_cb cs_len (sa_cons se_var sa_nil)) (se_fld (by decide +kernel) ⟨⟨T.cl_Reader, T.n_Reader_check_bits⟩, trivial⟩ se_var))) (ss_seq (ss_if (st_or (st_test (se_op os_lt se_var se_int)) (st_or (st_test (se_op os_gt se_var se_int)) (st_or (st_test (se_op os_gt (se_op os_mod se_var se_int) se_int)) (st_not (st_b (se_call (sa_cons se_var (sa_cons (se_fld (by decide +kernel) ⟨⟨T.cl_Reader, T.n_Reader_divisor⟩, trivial⟩ se_var) sa_nil)))))))) (ss_ret se_non) ss_next) (ss_ret (se_call (sa_cons (se_sl sls_all se_var so_none (so_some se_var)) sa_nil))))))))
abbrev s_Reader_take : Stmt := inClass (topS 41) 1
abbrev N_Reader_take : List Str := ["self", "bits", "found", "bit", "told"]
theorem sc_Reader_take : FnScope N_Reader_take ["self", "bits"] (defScope s_Reader_take) := ⟨rfl, rfl, rfl, by decide +kernel, rfl, by decide +kernel, by decide +kernel⟩
theorem ok_Reader_take {P : Program} {w : World} {K : PySem.W.Frag} {mg : Str → Option Value} {base : Heap} {a : Addr} {fd : FuncData} {ca : CaT} (T : Txt K mg ca) (F : Fun K "take" "Reader.take" s_Reader_take a fd) (M_Reader_frame_there : SM.Mt P w K mg base 6 (ca "Reader") "frame_there" (SpF K ca F_Reader_frame_there)) (C_need_bits : Dx P w K mg base 3 "need_bits" (SpF K ca F_need_bits)) :
    FnOk P w K mg base (L2.CX P w) 7 a fd ["self", "bits"] (SpF K ca F_Reader_take) := by
  refine SM.Fn.ofF F sc_Reader_take rfl fun cdv A outer s H E hr => ?_
  have nd := sc_Reader_take.nd
  refine ⟨_, (pss_cons (ps_expr (pe_dx C_need_bits (takes_of rfl rfl rfl rfl) hr (by decide) rfl (pa_cons (pv 1) pa_nil))) (pss_cons (ps_set (i := 2) nd rfl (by first | exact Or.inl rfl | exact Or.inr rfl) (pe_lst pa_nil)) (pss_cons (ps_for (passes_of rfl) rfl (pi_seqU (K := K) (pv 1)) (pg_name (i := 3) nd rfl (by first | exact Or.inl rfl | exact Or.inr rfl)) (pss_cons (ps_fld (pv 0) (pe_op (op_addU (K := K)) (pe_slice (sl_U (K := K)) (pe_fld (pv 0) rfl) (po_some (pe_un un_neg pe_int)) po_none) (pe_tup (pa_cons (pv 3) pa_nil))) rfl) (pss_cons (ps_if (pt_cmpR op_notU (pe_fld (pv 0) rfl) pe_non (nomark _)) (pss_one (ps_expr (pe_bm PySem.F.plainAttrs_list PySem.F.slot_list_append PySem.F.type_list_append mt_append (pe_fld (pv 0) rfl) (pa_cons (pv 3) pa_nil)))) pss_nil) (pss_one (ps_if (pt_cmpR (op_eqPK (K := K) (DL.room65 hr)) (pe_fld (pv 0) rfl) (pe_glob (v := .ref (ca "FLAG")) rfl T.g_FLAG rfl) (nomark _)) (pss_cons (ps_set (i := 4) nd rfl (by first | exact Or.inl rfl | exact Or.inr rfl) (pe_mtX0 M_Reader_frame_there (takes_of rfl rfl rfl rfl) hr (by decide) T.cl_Reader (pv 0))) (pss_cons (ps_if (pt_cmpR op_notU (pv 4) pe_non (nomark _)) (pss_one (ps_expr (pe_bm PySem.F.plainAttrs_list PySem.F.slot_list_append PySem.F.type_list_append mt_append (pv 2) (pa_cons (pv 4) pa_nil)))) pss_nil) (pss_one (ps_fld (pv 0) (pe_lst pa_nil) rfl)))) pss_nil))))) (pss_one (ps_ret (pv 2)))))), ?_⟩
  exact (ss_seq (ss_drop (se_call (sa_cons se_var sa_nil))) (ss_seq (ss_set (se_lst sa_nil)) (ss_seq (ss_for (sw_seq se_var) sg_name (ss_seq (ss_fl (by decide +kernel) ⟨⟨T.cl_Reader, T.n_Reader_latest⟩, trivial⟩ se_var (se_op os_add (se_sl sls_all (se_fld (by decide +kernel) ⟨⟨T.cl_Reader, T.n_Reader_latest⟩, trivial⟩ se_var) (so_some (se_un us_neg se_int)) so_none) (se_tup (sa_cons se_var sa_nil)))) (ss_seq (ss_if (st_test (se_op os_isnot (se_fld (by decide +kernel) ⟨⟨T.cl_Reader, T.n_Reader_since_flag⟩, trivial⟩ se_var) se_non)) (ss_drop (se_bl_ ms_append (se_fld (by decide +kernel) ⟨⟨T.cl_Reader, T.n_Reader_since_flag⟩, trivial⟩ se_var) (sa_cons se_var sa_nil))) ss_next) (ss_if (st_test (se_op os_eq (se_fld (by decide +kernel) ⟨⟨T.cl_Reader, T.n_Reader_latest⟩, trivial⟩ se_var) (se_c fun F m => T.w_FLAG F m))) (ss_seq (ss_set (meth_one (by decide +kernel) se_var sa_nil)) (ss_seq (ss_if (st_test (se_op os_isnot se_var se_non)) (ss_drop (se_bl_ ms_append se_var (sa_cons se_var sa_nil))) ss_next) (ss_fl (by decide +kernel) ⟨⟨T.cl_Reader, T.n_Reader_since_flag⟩, trivial⟩ se_var (se_lst sa_nil)))) ss_next)))) (ss_ret se_var))))
abbrev s_l_kinds : Stmt := topS 53
abbrev N_l_kinds : List Str := ["_law_e", "_law_marks", "_law_k"]
theorem sc_l_kinds : FnScope N_l_kinds ["_law_e"] (defScope s_l_kinds) := ⟨rfl, rfl, rfl, by decide +kernel, rfl, by decide +kernel, by decide +kernel⟩
theorem ok_l_kinds {P : Program} {w : World} {K : PySem.W.Frag} {mg : Str → Option Value} {base : Heap} {a : Addr} {fd : FuncData} {ca : CaT} (T : Txt K mg ca) (F : Fun K "_law_kinds" "_law_kinds" s_l_kinds a fd)  :
    FnOk P w K mg base (L2.CX P w) 1 a fd ["_law_e"] (SpF K ca F_l_kinds) := by
  refine SM.Fn.ofF F sc_l_kinds rfl fun cdv A outer s H E hr => ?_
  have nd := sc_l_kinds.nd
  refine ⟨_, (pss_cons (ps_set (i := 1) nd rfl (by first | exact Or.inl rfl | exact Or.inr rfl) (pe_lst (pa_cons (pe_callB (call_isiA (K := K)) (by rfl) T.b_isinstance (by decide +kernel) (pa_cons (pv 0) (pa_cons (pe_glob (v := .ref (ca "NoBits")) rfl T.g_NoBits rfl) pa_nil))) (pa_cons (pe_callB (call_isiA (K := K)) (by rfl) T.b_isinstance (by decide +kernel) (pa_cons (pv 0) (pa_cons (pe_glob (v := .ref (ca "NoData")) rfl T.g_NoData rfl) pa_nil))) (pa_cons (pe_callB (call_isiA (K := K)) (by rfl) T.b_isinstance (by decide +kernel) (pa_cons (pv 0) (pa_cons (pe_glob (v := .ref (ca "NoNumber")) rfl T.g_NoNumber rfl) pa_nil))) (pa_cons (pe_callB (call_isiA (K := K)) (by rfl) T.b_isinstance (by decide +kernel) (pa_cons (pv 0) (pa_cons (pe_glob (v := .ref (ca "NoCode")) rfl T.g_NoCode rfl) pa_nil))) pa_nil)))))) (pss_cons (ps_set (i := 1) nd rfl (by first | exact Or.inl rfl | exact Or.inr rfl) (pe_op (op_addU (K := K)) (pv 1) (pe_lst (pa_cons (pe_callB (call_isiA (K := K)) (by rfl) T.b_isinstance (by decide +kernel) (pa_cons (pv 0) (pa_cons (pe_glob (v := .ref (ca "NoPacket")) rfl T.g_NoPacket rfl) pa_nil))) (pa_cons (pe_callB (call_isiA (K := K)) (by rfl) T.b_isinstance (by decide +kernel) (pa_cons (pv 0) (pa_cons (pe_glob (v := .ref (ca "NoTick")) rfl T.g_NoTick rfl) pa_nil))) (pa_cons (pe_callB (call_isiA (K := K)) (by rfl) T.b_isinstance (by decide +kernel) (pa_cons (pv 0) (pa_cons (pe_glob (v := .ref (ca "NoText")) rfl T.g_NoText rfl) pa_nil))) (pa_cons (pe_callB (call_isiA (K := K)) (by rfl) T.b_isinstance (by decide +kernel) (pa_cons (pv 0) (pa_cons (pe_glob (v := .ref (ca "NoPlace")) rfl T.g_NoPlace rfl) pa_nil))) pa_nil))))))) (pss_one (ps_ret (pe_op (op_addU (K := K)) (pe_lc (own := [("_law_k", 2)]) (g := (gName 2)) rfl nd (pi_range1 rfl T.b_range (pa_cons pe_int pa_nil)) (blkOk_by (own := [("_law_k", 2)]) (N := N_l_kinds) (sc := defScope s_l_kinds) (by decide +kernel)) (fun _ _ _ _ _ => (pg_name (i := 2) nd rfl (by first | exact Or.inl rfl | exact Or.inr rfl))) (fun _ _ _ _ _ => (pts_one (pt_val (pe_ix (ix_U (K := K)) (pv 1) (pv 2) (fun _ _ => rfl))))) (fun _ _ _ _ _ => (pv 2))) (pe_op (op_mulA (K := K)) (pe_lst (pa_cons pe_int pa_nil)) (pe_callTy DL.call_intT (by rfl) T.b_int (by decide +kernel) (pa_cons (pe_not (pe_callB (call_isiA (K := K)) (by rfl) T.b_isinstance (by decide +kernel) (pa_cons (pv 0) (pa_cons (pe_bltn (v := .ty "ValueError") (by rfl) T.b_ValueError (by decide +kernel) rfl) pa_nil)))) pa_nil)))))))), ?_⟩
  exact (ss_seq (ss_set (se_lst (sa_cons (se_cb (cs_isi T.isO T.isX T.isT) (sa_cons se_var (sa_cons (se_nm rfl) sa_nil))) (sa_cons (se_cb (cs_isi T.isO T.isX T.isT) (sa_cons se_var (sa_cons (se_nm rfl) sa_nil))) (sa_cons (se_cb (cs_isi T.isO T.isX T.isT) (sa_cons se_var (sa_cons (se_nm rfl) sa_nil))) (sa_cons (se_cb (cs_isi T.isO T.isX T.isT) (sa_cons se_var (sa_cons (se_nm rfl) sa_nil))) sa_nil)))))) (ss_seq (ss_set (se_op os_add se_var (se_lst (sa_cons (se_cb (cs_isi T.isO T.isX T.isT) (sa_cons se_var (sa_cons (se_nm rfl) sa_nil))) (sa_cons (se_cb (cs_isi T.isO T.isX T.isT) (sa_cons se_var (sa_cons (se_nm rfl) sa_nil))) (sa_cons (se_cb (cs_isi T.isO T.isX T.isT) (sa_cons se_var (sa_cons (se_nm rfl) sa_nil))) (sa_cons (se_cb (cs_isi T.isO T.isX T.isT) (sa_cons se_var (sa_cons (se_nm rfl) sa_nil))) sa_nil))))))) (ss_ret (se_op os_add (se_lc (W2 := fun _ _ _ _ => False) (sw_r1 (sa_cons se_int sa_nil)) sg_name (by decide) (st_b (se_op os_ix se_var se_var)) se_var) (se_op os_mul (se_lst (sa_cons se_int sa_nil)) (se_cb cs_intT (sa_cons (se_not (se_cb (cs_isi T.isO T.isX T.isT) (sa_cons se_var (sa_cons se_ty sa_nil)))) sa_nil)))))))
abbrev s_l_tried : Stmt := topS 54
abbrev N_l_tried : List Str := ["_law_work", "_law_told", "_law_caught", "_law_e"]
theorem sc_l_tried : FnScope N_l_tried ["_law_work"] (defScope s_l_tried) := ⟨rfl, rfl, rfl, by decide +kernel, rfl, by decide +kernel, by decide +kernel⟩
theorem gv_l_tried {X : Cx} {ca : CaT} (T : Txt X.K X.mg ca) (C_l_kinds : Dx X.prog X.w X.K X.mg X.base 1 "_law_kinds" (SpF X.K ca F_l_kinds)) {g : Addr} {cdg : Value} {q : Str} (hr : Room 2 X.A) : LamX.GivesTo X N_l_tried "_law_tried" (defScope s_l_tried) g cdg (defBody s_l_tried) "_law_work" q (TTr X.K ca (ca "WireError") rest_l_tried) := by
  intro f c' s H Q tl act hc h
  have hr := hr.deeper (PyProof.Rows.envOfC "_law_tried" (defScope s_l_tried) s.heap.objs.size g cdg)
  have nd := sc_l_tried.nd
  refine ⟨_, (pss_cons (ps_set (i := 1) nd rfl (by first | exact Or.inl rfl | exact Or.inr rfl) pe_non) (pss_cons (ps_set (i := 2) nd rfl (by first | exact Or.inl rfl | exact Or.inr rfl) pe_non) (pss_cons (DL.ps_tryK (i := 3) (j := 2) rfl rfl rfl nd rfl rfl ⟨rfl, by decide, Or.inl T.g_WireError⟩ (fun W pn xe tk ps => pss_one (try_act act tk rfl fun h => ps_set (i := 1) nd rfl (by first | exact Or.inl rfl | exact Or.inr rfl) h)) (fun a oe pn => pss_one (ps_set (i := 2) nd rfl (by first | exact Or.inl rfl | exact Or.inr rfl) (pv 3))) (Nat.le_of_ble_eq_true rfl)) (pss_cons (ps_if (pt_cmpR op_isU (pv 2) pe_non (nomark _)) (pss_one (ps_ret (pv 1))) pss_nil) (pss_one (ps_ret (pe_op (op_addU (K := X.K)) (pe_lst (pa_cons pe_str pa_nil)) (pe_dx0 C_l_kinds hr (by decide) rfl (pa_cons (pv 2) pa_nil))))))))), ?_⟩
  exact tried_read rfl (fun W => (ss_seq (ss_if (st_test (se_op os_is se_var se_non)) (ss_ret se_var) ss_next) (ss_ret (se_op os_add (se_lst (sa_cons (se_strS (by decide +kernel)) sa_nil)) (se_call0 (sa_cons se_var sa_nil)))))) h hc
abbrev s_l_read_on : Stmt := topS 56
abbrev N_l_read_on : List Str := ["_law_state_here", "_law_data_here", "_law_code_here", "_law_row", "_law_at", "_law_reader", "_law_odd"]
theorem sc_l_read_on : FnScope N_l_read_on ["_law_state_here", "_law_data_here", "_law_code_here"] (defScope s_l_read_on) := ⟨rfl, rfl, rfl, by decide +kernel, rfl, by decide +kernel, by decide +kernel⟩
theorem ok_l_read_on {P : Program} {w : World} {K : PySem.W.Frag} {mg : Str → Option Value} {base : Heap} {a : Addr} {fd : FuncData} {ca : CaT} (T : Txt K mg ca) (F : Fun K "_law_read_on" "_law_read_on" s_l_read_on a fd) (M_Reader : Mx P w K mg base 3 "Reader" (ca "Reader") (SpF K ca F_Reader___init__)) (M_Reader_take : SM.Mt P w K mg base 7 (ca "Reader") "take" (SpF K ca F_Reader_take)) (C_l_framed : Dx P w K mg base 3 "_law_framed" (SpF K ca F_l_framed)) (C_l_next : Dx P w K mg base 1 "_law_next" (SpF K ca F_l_next)) {g_l_tried : Addr} {fd_l_tried : FuncData} (L_l_tried : LamD K mg "_law_tried" "_law_work" s_l_tried g_l_tried fd_l_tried) (C_l_kinds : Dx P w K mg base 1 "_law_kinds" (SpF K ca F_l_kinds)) (TBL : TbD base mg ca fd "_law_read_on.<locals>.<lambda>") :
    FnOk P w K mg base (L2.CX P w) 11 a fd ["_law_state_here", "_law_data_here", "_law_code_here"] (SpF K ca F_l_read_on) := by
  refine SM.Fn.ofFc F sc_l_read_on rfl fun cdv A outer s H E hcv hr => ?_
  have nd := sc_l_read_on.nd
  refine ⟨_, (pss_cons (ps_set (i := 3) nd rfl (by first | exact Or.inl rfl | exact Or.inr rfl) (pe_dx C_l_framed (takes_of rfl rfl rfl rfl) hr (by decide) rfl (pa_cons (pv 1) (pa_cons (pv 2) pa_nil)))) (pss_cons (ps_set (i := 4) nd rfl (by first | exact Or.inl rfl | exact Or.inr rfl) (pe_dx C_l_next (takes_of rfl rfl rfl rfl) hr (by decide) rfl (pa_cons (pv 0) (pa_cons (pe_callB (call_lenU (K := K)) (by rfl) T.b_len (by decide +kernel) (pa_cons (pv 3) pa_nil)) pa_nil)))) (pss_cons (ps_set (i := 5) nd rfl (by first | exact Or.inl rfl | exact Or.inr rfl) (pe_mx M_Reader (takes_of rfl rfl rfl rfl) hr (by decide) rfl (pa_cons (pv 2) pa_nil))) (pss_cons (ps_set (i := 6) nd rfl (by first | exact Or.inl rfl | exact Or.inr rfl) (pe_ix (ix_U (K := K)) (pe_lst (pa_cons (pe_lst (pa_cons pe_int (pa_cons pe_int pa_nil))) (pa_cons (pe_tup (pa_cons pe_int (pa_cons pe_int (pa_cons pe_int pa_nil)))) (pa_cons (pe_tup (pa_cons pe_bl pa_nil)) (pa_cons pe_non (pa_cons pe_str (pa_cons (pe_op (op_addU (K := K)) (pe_slice (sl_U (K := K)) (pv 3) (po_some (pv 4)) po_none) (pe_tup (pa_cons pe_non pa_nil))) (pa_cons (pe_op (op_addU (K := K)) (pe_tup (pa_cons pe_int pa_nil)) (pe_slice (sl_U (K := K)) (pv 3) (po_some (pv 4)) po_none)) pa_nil)))))))) (pe_dx C_l_next (takes_of rfl rfl rfl rfl) hr (by decide) rfl (pa_cons (pv 0) (pa_cons pe_int pa_nil))) (fun _ _ => rfl))) (pss_cons (ps_if (PW.pt (pw_or (pt_cmpR (op_nePK (K := K) (DL.room65 hr)) (pe_mtX M_Reader_take (takes_of rfl rfl rfl rfl) hr (by decide) T.cl_Reader (pv 5) (pa_cons (pe_slice (sl_U (K := K)) (pv 3) po_none (po_some (pv 4))) pa_nil)) (pe_lst pa_nil) (nomark _)) (pw_or1 (pt_cmpR (op_nePK (K := K) (DL.room65 hr)) (pe_lam (k := 8) (ca := ca) (Ng := N_l_tried) (t := fun E => _) L_l_tried rfl sc_l_tried rfl (by first | exact Or.inl rfl | exact Or.inr (Or.inl rfl)) (fun cdg => gv_l_tried T C_l_kinds (hr.mono (by decide))) TBL hcv rfl hr (LamX.lamS_by (sc := defScope s_l_read_on) (by decide +kernel)) rfl (fun _ _ _ _ _ => rfl) (fun A outer s H E f c' hr => (pe_mtX M_Reader_take (takes_of rfl rfl rfl rfl) hr (by decide) T.cl_Reader (pv 5) (pa_cons (pv 6) pa_nil)))) (pe_lst (pa_cons pe_str (pa_cons pe_int pa_nil))) (nomark _))))) (pss_one (ps_ret pe_bl)) pss_nil) (pss_one (ps_ret (pe_cmpR (op_eqPK (K := K) (DL.room65 hr)) (pe_mtX M_Reader_take (takes_of rfl rfl rfl rfl) hr (by decide) T.cl_Reader (pv 5) (pa_cons (pe_slice (sl_U (K := K)) (pv 3) (po_some (pv 4)) po_none) pa_nil)) (pe_lst (pa_cons (pv 1) pa_nil)) (nomark _))))))))), ?_⟩
  exact (ss_seq (ss_set (se_call (sa_cons se_var (sa_cons se_var sa_nil)))) (ss_seq (ss_set (se_call (sa_cons se_var (sa_cons (se_cb cs_len (sa_cons se_var sa_nil)) sa_nil)))) (ss_seq (ss_set (se_make (sa_cons se_var sa_nil))) (ss_seq (ss_set (se_op os_ix (se_lst (sa_cons (se_lst (sa_cons se_int (sa_cons se_int sa_nil))) (sa_cons (se_tup (sa_cons se_int (sa_cons se_int (sa_cons se_int sa_nil)))) (sa_cons (se_tup (sa_cons se_bl sa_nil)) (sa_cons se_non (sa_cons (se_strS (by decide +kernel)) (sa_cons (se_op os_add (se_sl sls_all se_var (so_some se_var) so_none) (se_tup (sa_cons se_non sa_nil))) (sa_cons (se_op os_add (se_tup (sa_cons se_int sa_nil)) (se_sl sls_all se_var (so_some se_var) so_none)) sa_nil)))))))) (se_call (sa_cons se_var (sa_cons se_int sa_nil))))) (ss_seq (ss_if (st_or (st_test (se_op os_ne (meth_one (by decide +kernel) se_var (sa_cons (se_sl sls_all se_var so_none (so_some se_var)) sa_nil)) (se_lst sa_nil))) (st_test (se_op os_ne (se_tried T.mm_WireError fun E => (meth_one (by decide +kernel) se_var (sa_cons se_var sa_nil))) (se_lst (sa_cons (se_strS (by decide +kernel)) (sa_cons se_int sa_nil)))))) (ss_ret se_bl) ss_next) (ss_ret (se_op os_eq (meth_one (by decide +kernel) se_var (sa_cons (se_sl sls_all se_var (so_some se_var) so_none) sa_nil)) (se_lst (sa_cons se_var sa_nil)))))))))
abbrev s_is_data : Stmt := topS 16
abbrev N_is_data : List Str := ["thing", "byte"]
theorem sc_is_data : FnScope N_is_data ["thing"] (defScope s_is_data) := ⟨rfl, rfl, rfl, by decide +kernel, rfl, by decide +kernel, by decide +kernel⟩
theorem ok_is_data {P : Program} {w : World} {K : PySem.W.Frag} {mg : Str → Option Value} {base : Heap} {a : Addr} {fd : FuncData} {ca : CaT} (T : Txt K mg ca) (F : Fun K "is_data" "is_data" s_is_data a fd) (C_is_whole : Dx P w K mg base 1 "is_whole" (SpF K ca F_is_whole)) :
    FnOk P w K mg base (L2.CX P w) 2 a fd ["thing"] (SpF K ca F_is_data) := by
  refine SM.Fn.ofF F sc_is_data rfl fun cdv A outer s H E hr => ?_
  have nd := sc_is_data.nd
  refine ⟨_, (pss_cons (ps_if (PW.pt (pw_or (pt_not (pt_val (pe_callB (call_isiA (K := K)) (by rfl) T.b_isinstance (by decide +kernel) (pa_cons (pv 0) (pa_cons (pe_bltn (v := .ty "tuple") (by rfl) T.b_tuple (by decide +kernel) rfl) pa_nil))))) (pw_or1 (pt_cmpR op_gtU (pe_callB (call_lenU (K := K)) (by rfl) T.b_len (by decide +kernel) (pa_cons (pv 0) pa_nil)) (pe_glob (v := .int 1000) rfl T.c_MOST_DATA.choose_spec ⟨_, rfl⟩) (nomark _))))) (pss_one (ps_ret pe_bl)) pss_nil) (pss_one (ps_ret (pe_callB (call_allU (K := K) rfl) (by rfl) T.b_all (by decide +kernel) (pa_cons (pe_lc (own := [("byte", 1)]) (g := (gName 1)) rfl nd (pi_seqU (K := K) (pv 0)) (blkOk_by (own := [("byte", 1)]) (N := N_is_data) (sc := defScope s_is_data) (by decide +kernel)) (fun _ _ _ _ _ => (pg_name (i := 1) nd rfl (by first | exact Or.inl rfl | exact Or.inr rfl))) (fun _ _ _ _ _ => pts_nil) (fun _ _ _ _ _ => (pe_dx0 C_is_whole hr (by decide) rfl (pa_cons (pv 1) (pa_cons pe_int (pa_cons (pe_glob (v := .int 255) rfl T.c_MOST_BYTE.choose_spec ⟨_, rfl⟩) pa_nil)))))) pa_nil))))), ?_⟩
  exact (ss_seq (ss_if (st_or (st_not (st_b (se_cb (cs_isi T.isO T.isX T.isT) (sa_cons se_var (sa_cons se_ty sa_nil))))) (st_test (se_op os_gt (se_cb cs_len (sa_cons se_var sa_nil)) se_int))) (ss_ret se_bl) ss_next) (ss_ret (se_cb cs_all (sa_cons (se_lc (W2 := fun _ _ _ _ => False) (sw_seq se_var) sg_name (by decide) st_yes (se_call0 (sa_cons se_var (sa_cons se_int (sa_cons se_int sa_nil))))) sa_nil))))
abbrev s_spread : Stmt := topS 17
abbrev N_spread : List Str := ["number", "many", "place"]
theorem sc_spread : FnScope N_spread ["number", "many"] (defScope s_spread) := ⟨rfl, rfl, rfl, by decide +kernel, rfl, by decide +kernel, by decide +kernel⟩
theorem ok_spread {P : Program} {w : World} {K : PySem.W.Frag} {mg : Str → Option Value} {base : Heap} {a : Addr} {fd : FuncData} {ca : CaT} (T : Txt K mg ca) (F : Fun K "spread" "spread" s_spread a fd)  :
    FnOk P w K mg base (L2.CX P w) 1 a fd ["number", "many"] (SpF K ca F_spread) := by
  refine SM.Fn.ofF F sc_spread rfl fun cdv A outer s H E hr => ?_
  have nd := sc_spread.nd
  refine ⟨_, (pss_one (ps_ret (pe_lc (own := [("place", 2)]) (g := (gName 2)) rfl nd (pi_range1 rfl T.b_range (pa_cons (pv 1) pa_nil)) (blkOk_by (own := [("place", 2)]) (N := N_spread) (sc := defScope s_spread) (by decide +kernel)) (fun _ _ _ _ _ => (pg_name (i := 2) nd rfl (by first | exact Or.inl rfl | exact Or.inr rfl))) (fun _ _ _ _ _ => pts_nil) (fun _ _ _ _ _ => (pe_op op_andU (pe_op op_shrU (pv 0) (pe_op op_subU (pe_op op_subU (pv 1) pe_int) (pv 2))) pe_int))))), ?_⟩
  exact (ss_ret (se_lc (W2 := fun _ _ _ _ => False) (sw_r1 (sa_cons se_var sa_nil)) sg_name (by decide) st_yes (se_op os_and (se_op os_shr se_var (se_op os_sub (se_op os_sub se_var se_int) se_var)) se_int)))
abbrev s_bits_of : Stmt := topS 19
abbrev N_bits_of : List Str := ["data", "found", "byte"]
theorem sc_bits_of : FnScope N_bits_of ["data"] (defScope s_bits_of) := ⟨rfl, rfl, rfl, by decide +kernel, rfl, by decide +kernel, by decide +kernel⟩
theorem ok_bits_of {P : Program} {w : World} {K : PySem.W.Frag} {mg : Str → Option Value} {base : Heap} {a : Addr} {fd : FuncData} {ca : CaT} (T : Txt K mg ca) (F : Fun K "bits_of" "bits_of" s_bits_of a fd) (C_is_data : Dx P w K mg base 2 "is_data" (SpF K ca F_is_data)) (C_spread : Dx P w K mg base 1 "spread" (SpF K ca F_spread)) :
    FnOk P w K mg base (L2.CX P w) 3 a fd ["data"] (SpF K ca F_bits_of) := by
  refine SM.Fn.ofF F sc_bits_of rfl fun cdv A outer s H E hr => ?_
  have nd := sc_bits_of.nd
  refine ⟨_, (pss_cons (ps_if (pt_not (pt_val (pe_dx C_is_data (takes_of rfl rfl rfl rfl) hr (by decide) rfl (pa_cons (pv 0) pa_nil)))) (pss_one (DL.ps_raiseC rfl (takes_of rfl rfl rfl rfl) (pmk_own PySem.F.excBase_ValueError T.e_NoData T.g_NoData T.k_NoData (raises_own T.b_NoData T.t_NoData) rfl))) pss_nil) (pss_cons (ps_set (i := 1) nd rfl (by first | exact Or.inl rfl | exact Or.inr rfl) (pe_lst pa_nil)) (pss_cons (ps_for (passes_of rfl) rfl (pi_seqU (K := K) (pv 0)) (pg_name (i := 2) nd rfl (by first | exact Or.inl rfl | exact Or.inr rfl)) (pss_one (ps_aug (i := 1) nd rfl (by first | exact Or.inl rfl | exact Or.inr rfl) (pe_dx C_spread (takes_of rfl rfl rfl rfl) hr (by decide) rfl (pa_cons (pv 2) (pa_cons (pe_glob (v := .int 8) rfl T.c_BYTE.choose_spec ⟨_, rfl⟩) pa_nil))) (ip_addA (K := K))))) (pss_one (ps_ret (pe_callTy (call_tupleU (K := K)) (by rfl) T.b_tuple (by decide +kernel) (pa_cons (pv 1) pa_nil))))))), ?_⟩
  exact (ss_seq (ss_if (st_not (st_b (se_call (sa_cons se_var sa_nil)))) (ss_raise rfl) ss_next) (ss_seq (ss_set (se_lst sa_nil)) (ss_seq (ss_for (sw_seq se_var) sg_name (ss_aug ips_add (se_call (sa_cons se_var (sa_cons se_int sa_nil))))) (ss_ret (se_cb cs_tuple (sa_cons se_var sa_nil))))))
abbrev s_bits_by : Stmt := topS 21
abbrev N_bits_by : List Str := ["number", "many"]
theorem sc_bits_by : FnScope N_bits_by ["number", "many"] (defScope s_bits_by) := ⟨rfl, rfl, rfl, by decide +kernel, rfl, by decide +kernel, by decide +kernel⟩
theorem ok_bits_by {P : Program} {w : World} {K : PySem.W.Frag} {mg : Str → Option Value} {base : Heap} {a : Addr} {fd : FuncData} {ca : CaT} (T : Txt K mg ca) (F : Fun K "bits_by" "bits_by" s_bits_by a fd) (C_spread : Dx P w K mg base 1 "spread" (SpF K ca F_spread)) :
    FnOk P w K mg base (L2.CX P w) 2 a fd ["number", "many"] (SpF K ca F_bits_by) := by
  refine SM.Fn.ofF F sc_bits_by rfl fun cdv A outer s H E hr => ?_
  have nd := sc_bits_by.nd
  refine ⟨_, (pss_cons (ps_if (PW.pt (pw_or (pt_not (pt_val (pe_callB (call_isiA (K := K)) (by rfl) T.b_isinstance (by decide +kernel) (pa_cons (pv 0) (pa_cons (pe_bltn (v := .ty "int") (by rfl) T.b_int (by decide +kernel) rfl) pa_nil))))) (pw_or (pt_val (pe_callB (call_isiA (K := K)) (by rfl) T.b_isinstance (by decide +kernel) (pa_cons (pv 0) (pa_cons (pe_bltn (v := .ty "bool") (by rfl) T.b_bool (by decide +kernel) rfl) pa_nil)))) (pw_or (pt_cmpR op_ltU (pv 0) pe_int (nomark _)) (pw_or1 (pt_cmpR op_gtU (pe_op op_shrU (pv 0) (pv 1)) pe_int (nomark _))))))) (pss_one (DL.ps_raiseC rfl (takes_of rfl rfl rfl rfl) (pmk_own PySem.F.excBase_ValueError T.e_NoNumber T.g_NoNumber T.k_NoNumber (raises_own T.b_NoNumber T.t_NoNumber) rfl))) pss_nil) (pss_one (ps_ret (pe_callTy (call_tupleU (K := K)) (by rfl) T.b_tuple (by decide +kernel) (pa_cons (pe_dx C_spread (takes_of rfl rfl rfl rfl) hr (by decide) rfl (pa_cons (pv 0) (pa_cons (pv 1) pa_nil))) pa_nil))))), ?_⟩
  exact (ss_seq (ss_if (st_or (st_not (st_b (se_cb (cs_isi T.isO T.isX T.isT) (sa_cons se_var (sa_cons se_ty sa_nil))))) (st_or (st_b (se_cb (cs_isi T.isO T.isX T.isT) (sa_cons se_var (sa_cons se_ty sa_nil)))) (st_or (st_test (se_op os_lt se_var se_int)) (st_test (se_op os_gt (se_op os_shr se_var se_var) se_int))))) (ss_raise rfl) ss_next) (ss_ret (se_cb cs_tuple (sa_cons (se_call (sa_cons se_var (sa_cons se_var sa_nil))) sa_nil))))
abbrev s_coded : Stmt := topS 30
abbrev N_coded : List Str := ["bits", "code", "many"]
theorem sc_coded : FnScope N_coded ["bits", "code"] (defScope s_coded) := ⟨rfl, rfl, rfl, by decide +kernel, rfl, by decide +kernel, by decide +kernel⟩
theorem ok_coded {P : Program} {w : World} {K : PySem.W.Frag} {mg : Str → Option Value} {base : Heap} {a : Addr} {fd : FuncData} {ca : CaT} (T : Txt K mg ca) (F : Fun K "coded" "coded" s_coded a fd) (C_bits_by : Dx P w K mg base 2 "bits_by" (SpF K ca F_bits_by)) (C_divided : Dx P w K mg base 1 "divided" (SpF K ca F_divided)) (C_need_code : Dx P w K mg base 1 "need_code" (SpF K ca F_need_code)) (C_number_by : Dx P w K mg base 4 "number_by" (SpF K ca F_number_by)) (C_width : Dx P w K mg base 2 "width" (SpF K ca F_width)) :
    FnOk P w K mg base (L2.CX P w) 5 a fd ["bits", "code"] (SpF K ca F_coded) := by
  refine SM.Fn.ofF F sc_coded rfl fun cdv A outer s H E hr => ?_
  have nd := sc_coded.nd
  refine ⟨_, (pss_cons (ps_expr (pe_dx C_need_code (takes_of rfl rfl rfl rfl) hr (by decide) rfl (pa_cons (pv 1) pa_nil))) (pss_cons (ps_set (i := 2) nd rfl (by first | exact Or.inl rfl | exact Or.inr rfl) (pe_dx C_width (takes_of rfl rfl rfl rfl) hr (by decide) rfl (pa_cons (pv 1) pa_nil))) (pss_one (ps_ret (pe_op (op_addU (K := K)) (pv 0) (pe_dx C_bits_by (takes_of rfl rfl rfl rfl) hr (by decide) rfl (pa_cons (pe_dx C_divided (takes_of rfl rfl rfl rfl) hr (by decide) rfl (pa_cons (pe_op op_shlU (pe_dx C_number_by (takes_of rfl rfl rfl rfl) hr (by decide) rfl (pa_cons (pv 0) pa_nil)) (pv 2)) (pa_cons (pv 1) pa_nil))) (pa_cons (pv 2) pa_nil)))))))), ?_⟩
  exact (ss_seq (ss_drop (se_call (sa_cons se_var sa_nil))) (ss_seq (ss_set (se_call (sa_cons se_var sa_nil))) (ss_ret (se_op os_add se_var (se_call (sa_cons (se_call (sa_cons (se_op os_shl (se_call (sa_cons se_var sa_nil)) se_var) (sa_cons se_var sa_nil))) (sa_cons se_var sa_nil)))))))
abbrev s_stuffed : Stmt := topS 36
abbrev N_stuffed : List Str := ["bits", "found", "ones", "bit"]
theorem sc_stuffed : FnScope N_stuffed ["bits"] (defScope s_stuffed) := ⟨rfl, rfl, rfl, by decide +kernel, rfl, by decide +kernel, by decide +kernel⟩
theorem ok_stuffed {P : Program} {w : World} {K : PySem.W.Frag} {mg : Str → Option Value} {base : Heap} {a : Addr} {fd : FuncData} {ca : CaT} (T : Txt K mg ca) (F : Fun K "stuffed" "stuffed" s_stuffed a fd) (C_need_bits : Dx P w K mg base 3 "need_bits" (SpF K ca F_need_bits)) :
    FnOk P w K mg base (L2.CX P w) 4 a fd ["bits"] (SpF K ca F_stuffed) := by
  refine SM.Fn.ofF F sc_stuffed rfl fun cdv A outer s H E hr => ?_
  have nd := sc_stuffed.nd
  refine ⟨_, (pss_cons (ps_expr (pe_dx C_need_bits (takes_of rfl rfl rfl rfl) hr (by decide) rfl (pa_cons (pv 0) pa_nil))) (pss_cons (ps_set (i := 1) nd rfl (by first | exact Or.inl rfl | exact Or.inr rfl) (pe_lst pa_nil)) (pss_cons (ps_set (i := 2) nd rfl (by first | exact Or.inl rfl | exact Or.inr rfl) pe_int) (pss_cons (ps_for (passes_of rfl) rfl (pi_seqU (K := K) (pv 0)) (pg_name (i := 3) nd rfl (by first | exact Or.inl rfl | exact Or.inr rfl)) (pss_cons (ps_expr (pe_bm PySem.F.plainAttrs_list PySem.F.slot_list_append PySem.F.type_list_append mt_append (pv 1) (pa_cons (pv 3) pa_nil))) (pss_cons (ps_set (i := 2) nd rfl (by first | exact Or.inl rfl | exact Or.inr rfl) (pe_ifExp (pt_cmpR (op_eqPK (K := K) (DL.room65 hr)) (pv 3) pe_int (nomark _)) (pe_op (op_addU (K := K)) (pv 2) pe_int) pe_int)) (pss_one (ps_if (pt_cmpR (op_eqPK (K := K) (DL.room65 hr)) (pv 2) (pe_glob (v := .int 5) rfl T.c_ONES.choose_spec ⟨_, rfl⟩) (nomark _)) (pss_cons (ps_expr (pe_bm PySem.F.plainAttrs_list PySem.F.slot_list_append PySem.F.type_list_append mt_append (pv 1) (pa_cons pe_int pa_nil))) (pss_one (ps_set (i := 2) nd rfl (by first | exact Or.inl rfl | exact Or.inr rfl) pe_int))) pss_nil))))) (pss_one (ps_ret (pe_callTy (call_tupleU (K := K)) (by rfl) T.b_tuple (by decide +kernel) (pa_cons (pv 1) pa_nil)))))))), ?_⟩
  exact (ss_seq (ss_drop (se_call (sa_cons se_var sa_nil))) (ss_seq (ss_set (se_lst sa_nil)) (ss_seq (ss_set se_int) (ss_seq (ss_for (sw_seq se_var) sg_name (ss_seq (ss_drop (se_bl_ ms_append se_var (sa_cons se_var sa_nil))) (ss_seq (ss_set (se_if (st_test (se_op os_eq se_var se_int)) (se_op os_add se_var se_int) se_int)) (ss_if (st_test (se_op os_eq se_var se_int)) (ss_seq (ss_drop (se_bl_ ms_append se_var (sa_cons se_int sa_nil))) (ss_set se_int)) ss_next)))) (ss_ret (se_cb cs_tuple (sa_cons se_var sa_nil)))))))
abbrev s_framed : Stmt := topS 38
abbrev N_framed : List Str := ["data", "code", "row"]
theorem sc_framed : FnScope N_framed ["data", "code"] (defScope s_framed) := ⟨rfl, rfl, rfl, by decide +kernel, rfl, by decide +kernel, by decide +kernel⟩
theorem ok_framed {P : Program} {w : World} {K : PySem.W.Frag} {mg : Str → Option Value} {base : Heap} {a : Addr} {fd : FuncData} {ca : CaT} (T : Txt K mg ca) (F : Fun K "framed" "framed" s_framed a fd) (C_bits_of : Dx P w K mg base 3 "bits_of" (SpF K ca F_bits_of)) (C_coded : Dx P w K mg base 5 "coded" (SpF K ca F_coded)) (C_stuffed : Dx P w K mg base 4 "stuffed" (SpF K ca F_stuffed)) :
    FnOk P w K mg base (L2.CX P w) 6 a fd ["data", "code"] (SpF K ca F_framed) := by
  refine SM.Fn.ofF F sc_framed rfl fun cdv A outer s H E hr => ?_
  have nd := sc_framed.nd
  refine ⟨_, (pss_cons (ps_if (pt_cmpR (op_eqPK (K := K) (DL.room65 hr)) (pv 0) (pe_tup pa_nil) (nomark _)) (pss_one (DL.ps_raiseC rfl (takes_of rfl rfl rfl rfl) (pmk_own PySem.F.excBase_ValueError T.e_NoData T.g_NoData T.k_NoData (raises_own T.b_NoData T.t_NoData) rfl))) pss_nil) (pss_cons (ps_set (i := 2) nd rfl (by first | exact Or.inl rfl | exact Or.inr rfl) (pe_dx C_bits_of (takes_of rfl rfl rfl rfl) hr (by decide) rfl (pa_cons (pv 0) pa_nil))) (pss_one (ps_ret (pe_op (op_addU (K := K)) (pe_op (op_addU (K := K)) (pe_glob (v := .ref (ca "FLAG")) rfl T.g_FLAG rfl) (pe_dx C_stuffed (takes_of rfl rfl rfl rfl) hr (by decide) rfl (pa_cons (pe_dx C_coded (takes_of rfl rfl rfl rfl) hr (by decide) rfl (pa_cons (pv 2) (pa_cons (pv 1) pa_nil))) pa_nil))) (pe_glob (v := .ref (ca "FLAG")) rfl T.g_FLAG rfl)))))), ?_⟩
  exact (ss_seq (ss_if (st_test (se_op os_eq se_var (se_tup sa_nil))) (ss_raise rfl) ss_next) (ss_seq (ss_set (se_call (sa_cons se_var sa_nil))) (ss_ret (se_op os_add (se_op os_add (se_c fun F m => T.w_FLAG F m) (se_call (sa_cons (se_call (sa_cons se_var (sa_cons se_var sa_nil))) sa_nil))) (se_c fun F m => T.w_FLAG F m)))))
abbrev s_l_refused : Stmt := topS 55
abbrev N_l_refused : List Str := ["_law_state_here", "_law_data_here", "_law_code_here", "_law_bad", "_law_odd", "_law_found", "_law_at", "_law_part", "_law_spoilt"]
theorem sc_l_refused : FnScope N_l_refused ["_law_state_here", "_law_data_here", "_law_code_here"] (defScope s_l_refused) := ⟨rfl, rfl, rfl, by decide +kernel, rfl, by decide +kernel, by decide +kernel⟩
theorem ok_l_refused {P : Program} {w : World} {K : PySem.W.Frag} {mg : Str → Option Value} {base : Heap} {a : Addr} {fd : FuncData} {ca : CaT} (T : Txt K mg ca) (F : Fun K "_law_refused" "_law_refused" s_l_refused a fd) (M_Reader : Mx P w K mg base 3 "Reader" (ca "Reader") (SpF K ca F_Reader___init__)) (C_l_next : Dx P w K mg base 1 "_law_next" (SpF K ca F_l_next)) {g_l_tried : Addr} {fd_l_tried : FuncData} (L_l_tried : LamD K mg "_law_tried" "_law_work" s_l_tried g_l_tried fd_l_tried) (C_framed : Dx P w K mg base 6 "framed" (SpF K ca F_framed)) (C_l_kinds : Dx P w K mg base 1 "_law_kinds" (SpF K ca F_l_kinds)) (TBL : TbD base mg ca fd "_law_refused.<locals>.<lambda>") :
    FnOk P w K mg base (L2.CX P w) 10 a fd ["_law_state_here", "_law_data_here", "_law_code_here"] (SpF K ca F_l_refused) := by
  refine SM.Fn.ofFc F sc_l_refused rfl fun cdv A outer s H E hcv hr => ?_
  have nd := sc_l_refused.nd
  refine ⟨_, (pss_cons (ps_set (i := 3) nd rfl (by first | exact Or.inl rfl | exact Or.inr rfl) (pe_ix (ix_U (K := K)) (pe_lst (pa_cons (pe_tup pa_nil) (pa_cons (pe_lst (pa_cons pe_int pa_nil)) (pa_cons (pe_tup (pa_cons pe_int pa_nil)) (pa_cons (pe_tup (pa_cons (pe_un un_neg pe_int) pa_nil)) (pa_cons (pe_tup (pa_cons pe_int (pa_cons pe_bl pa_nil))) (pa_cons pe_non (pa_cons pe_str (pa_cons (pe_op (op_mulA (K := K)) (pe_tup (pa_cons pe_int pa_nil)) pe_int) (pa_cons (pe_tup (pa_cons (pe_tup (pa_cons pe_int pa_nil)) pa_nil)) (pa_cons (pe_tup (pa_cons pe_int (pa_cons pe_non pa_nil))) pa_nil))))))))))) (pe_dx C_l_next (takes_of rfl rfl rfl rfl) hr (by decide) rfl (pa_cons (pv 0) (pa_cons pe_int pa_nil))) (fun _ _ => rfl))) (pss_cons (ps_set (i := 4) nd rfl (by first | exact Or.inl rfl | exact Or.inr rfl) (pe_ix (ix_U (K := K)) (pe_lst (pa_cons pe_int (pa_cons pe_int (pa_cons pe_int (pa_cons pe_int (pa_cons pe_int (pa_cons (pe_un un_neg pe_int) (pa_cons pe_bl (pa_cons pe_non (pa_cons pe_str (pa_cons (pe_tup (pa_cons pe_int pa_nil)) pa_nil))))))))))) (pe_dx C_l_next (takes_of rfl rfl rfl rfl) hr (by decide) rfl (pa_cons (pv 0) (pa_cons pe_int pa_nil))) (fun _ _ => rfl))) (pss_cons (ps_set (i := 5) nd rfl (by first | exact Or.inl rfl | exact Or.inr rfl) (pe_lst (pa_cons (pe_lam (k := 7) (ca := ca) (Ng := N_l_tried) (t := fun E => _) L_l_tried rfl sc_l_tried rfl (by first | exact Or.inl rfl | exact Or.inr (Or.inl rfl)) (fun cdg => gv_l_tried T C_l_kinds (hr.mono (by decide))) TBL hcv rfl hr (LamX.lamS_by (sc := defScope s_l_refused) (by decide +kernel)) rfl (fun _ _ _ _ _ => rfl) (fun A outer s H E f c' hr => (pe_dx C_framed (takes_of rfl rfl rfl rfl) hr (by decide) rfl (pa_cons (pv 3) (pa_cons (pv 2) pa_nil))))) pa_nil))) (pss_cons (ps_expr (pe_bm PySem.F.plainAttrs_list PySem.F.slot_list_append PySem.F.type_list_append mt_append (pv 5) (pa_cons (pe_lam (k := 7) (ca := ca) (Ng := N_l_tried) (t := fun E => _) L_l_tried rfl sc_l_tried rfl (by first | exact Or.inl rfl | exact Or.inr (Or.inl rfl)) (fun cdg => gv_l_tried T C_l_kinds (hr.mono (by decide))) TBL hcv rfl hr (LamX.lamS_by (sc := defScope s_l_refused) (by decide +kernel)) rfl (fun _ _ _ _ _ => rfl) (fun A outer s H E f c' hr => (pe_dx C_framed (takes_of rfl rfl rfl rfl) hr (by decide) rfl (pa_cons (pv 3) (pa_cons (pv 4) pa_nil))))) pa_nil))) (pss_cons (ps_expr (pe_bm PySem.F.plainAttrs_list PySem.F.slot_list_append PySem.F.type_list_append mt_append (pv 5) (pa_cons (pe_lam (k := 7) (ca := ca) (Ng := N_l_tried) (t := fun E => _) L_l_tried rfl sc_l_tried rfl (by first | exact Or.inl rfl | exact Or.inr (Or.inl rfl)) (fun cdg => gv_l_tried T C_l_kinds (hr.mono (by decide))) TBL hcv rfl hr (LamX.lamS_by (sc := defScope s_l_refused) (by decide +kernel)) rfl (fun _ _ _ _ _ => rfl) (fun A outer s H E f c' hr => (pe_dx C_framed (takes_of rfl rfl rfl rfl) hr (by decide) rfl (pa_cons (pv 1) (pa_cons (pv 4) pa_nil))))) pa_nil))) (pss_cons (ps_expr (pe_bm PySem.F.plainAttrs_list PySem.F.slot_list_append PySem.F.type_list_append mt_append (pv 5) (pa_cons (pe_lam (k := 7) (ca := ca) (Ng := N_l_tried) (t := fun E => _) L_l_tried rfl sc_l_tried rfl (by first | exact Or.inl rfl | exact Or.inr (Or.inl rfl)) (fun cdg => gv_l_tried T C_l_kinds (hr.mono (by decide))) TBL hcv rfl hr (LamX.lamS_by (sc := defScope s_l_refused) (by decide +kernel)) rfl (fun _ _ _ _ _ => rfl) (fun A outer s H E f c' hr => (pe_mx M_Reader (takes_of rfl rfl rfl rfl) hr (by decide) rfl (pa_cons (pv 4) pa_nil)))) pa_nil))) (pss_cons (ps_set (i := 6) nd rfl (by first | exact Or.inl rfl | exact Or.inr rfl) (pe_dx C_l_next (takes_of rfl rfl rfl rfl) hr (by decide) rfl (pa_cons (pv 0) (pa_cons (pe_callB (call_lenU (K := K)) (by rfl) T.b_len (by decide +kernel) (pa_cons (pv 1) pa_nil)) pa_nil)))) (pss_cons (ps_set (i := 7) nd rfl (by first | exact Or.inl rfl | exact Or.inr rfl) (pe_ix (ix_U (K := K)) (pe_lst (pa_cons pe_int (pa_cons (pe_un un_neg pe_int) (pa_cons pe_bl (pa_cons pe_bl (pa_cons pe_non (pa_cons pe_str (pa_cons (pe_tup (pa_cons pe_int pa_nil)) (pa_cons (pe_op op_powU pe_int pe_int) pa_nil))))))))) (pe_dx C_l_next (takes_of rfl rfl rfl rfl) hr (by decide) rfl (pa_cons (pv 0) (pa_cons pe_int pa_nil))) (fun _ _ => rfl))) (pss_cons (ps_set (i := 8) nd rfl (by first | exact Or.inl rfl | exact Or.inr rfl) (pe_op (op_addU (K := K)) (pe_op (op_addU (K := K)) (pe_slice (sl_U (K := K)) (pv 1) po_none (po_some (pv 6))) (pe_tup (pa_cons (pv 7) pa_nil))) (pe_slice (sl_U (K := K)) (pv 1) (po_some (pe_op (op_addU (K := K)) (pv 6) (pe_dx C_l_next (takes_of rfl rfl rfl rfl) hr (by decide) rfl (pa_cons (pv 0) (pa_cons pe_int pa_nil))))) po_none))) (pss_cons (ps_expr (pe_bm PySem.F.plainAttrs_list PySem.F.slot_list_append PySem.F.type_list_append mt_append (pv 5) (pa_cons (pe_lam (k := 7) (ca := ca) (Ng := N_l_tried) (t := fun E => _) L_l_tried rfl sc_l_tried rfl (by first | exact Or.inl rfl | exact Or.inr (Or.inl rfl)) (fun cdg => gv_l_tried T C_l_kinds (hr.mono (by decide))) TBL hcv rfl hr (LamX.lamS_by (sc := defScope s_l_refused) (by decide +kernel)) rfl (fun _ _ _ _ _ => rfl) (fun A outer s H E f c' hr => (pe_dx C_framed (takes_of rfl rfl rfl rfl) hr (by decide) rfl (pa_cons (pv 8) (pa_cons (pv 2) pa_nil))))) pa_nil))) (pss_cons (ps_expr (pe_bm PySem.F.plainAttrs_list PySem.F.slot_list_append PySem.F.type_list_append mt_append (pv 5) (pa_cons (pe_lam (k := 7) (ca := ca) (Ng := N_l_tried) (t := fun E => _) L_l_tried rfl sc_l_tried rfl (by first | exact Or.inl rfl | exact Or.inr (Or.inl rfl)) (fun cdg => gv_l_tried T C_l_kinds (hr.mono (by decide))) TBL hcv rfl hr (LamX.lamS_by (sc := defScope s_l_refused) (by decide +kernel)) rfl (fun _ _ _ _ _ => rfl) (fun A outer s H E f c' hr => (pe_dx C_framed (takes_of rfl rfl rfl rfl) hr (by decide) rfl (pa_cons (pv 8) (pa_cons (pv 4) pa_nil))))) pa_nil))) (pss_one (ps_ret (pe_cmpR (op_eqPK (K := K) (DL.room65 hr)) (pv 5) (pe_lst (pa_cons (pe_lst (pa_cons pe_str (pa_cons pe_int pa_nil))) (pa_cons (pe_lst (pa_cons pe_str (pa_cons pe_int pa_nil))) (pa_cons (pe_lst (pa_cons pe_str (pa_cons pe_int pa_nil))) (pa_cons (pe_lst (pa_cons pe_str (pa_cons pe_int pa_nil))) (pa_cons (pe_lst (pa_cons pe_str (pa_cons pe_int pa_nil))) (pa_cons (pe_lst (pa_cons pe_str (pa_cons pe_int pa_nil))) pa_nil))))))) (nomark _))))))))))))))), ?_⟩
  exact (ss_seq (ss_set (se_op os_ix (se_lst (sa_cons (se_tup sa_nil) (sa_cons (se_lst (sa_cons se_int sa_nil)) (sa_cons (se_tup (sa_cons se_int sa_nil)) (sa_cons (se_tup (sa_cons (se_un us_neg se_int) sa_nil)) (sa_cons (se_tup (sa_cons se_int (sa_cons se_bl sa_nil))) (sa_cons se_non (sa_cons (se_strS (by decide +kernel)) (sa_cons (se_op os_mul (se_tup (sa_cons se_int sa_nil)) se_int) (sa_cons (se_tup (sa_cons (se_tup (sa_cons se_int sa_nil)) sa_nil)) (sa_cons (se_tup (sa_cons se_int (sa_cons se_non sa_nil))) sa_nil))))))))))) (se_call (sa_cons se_var (sa_cons se_int sa_nil))))) (ss_seq (ss_set (se_op os_ix (se_lst (sa_cons se_int (sa_cons se_int (sa_cons se_int (sa_cons se_int (sa_cons se_int (sa_cons (se_un us_neg se_int) (sa_cons se_bl (sa_cons se_non (sa_cons (se_strS (by decide +kernel)) (sa_cons (se_tup (sa_cons se_int sa_nil)) sa_nil))))))))))) (se_call (sa_cons se_var (sa_cons se_int sa_nil))))) (ss_seq (ss_set (se_lst (sa_cons (se_tried T.mm_WireError fun E => (se_call (sa_cons se_var (sa_cons se_var sa_nil)))) sa_nil))) (ss_seq (ss_drop (se_bl_ ms_append se_var (sa_cons (se_tried T.mm_WireError fun E => (se_call (sa_cons se_var (sa_cons se_var sa_nil)))) sa_nil))) (ss_seq (ss_drop (se_bl_ ms_append se_var (sa_cons (se_tried T.mm_WireError fun E => (se_call (sa_cons se_var (sa_cons se_var sa_nil)))) sa_nil))) (ss_seq (ss_drop (se_bl_ ms_append se_var (sa_cons (se_tried T.mm_WireError fun E => (se_make (sa_cons se_var sa_nil))) sa_nil))) (ss_seq (ss_set (se_call (sa_cons se_var (sa_cons (se_cb cs_len (sa_cons se_var sa_nil)) sa_nil)))) (ss_seq (ss_set (se_op os_ix (se_lst (sa_cons se_int (sa_cons (se_un us_neg se_int) (sa_cons se_bl (sa_cons se_bl (sa_cons se_non (sa_cons (se_strS (by decide +kernel)) (sa_cons (se_tup (sa_cons se_int sa_nil)) (sa_cons (se_op os_pow se_int se_int) sa_nil))))))))) (se_call (sa_cons se_var (sa_cons se_int sa_nil))))) (ss_seq (ss_set (se_op os_add (se_op os_add (se_sl sls_all se_var so_none (so_some se_var)) (se_tup (sa_cons se_var sa_nil))) (se_sl sls_all se_var (so_some (se_op os_add se_var (se_call (sa_cons se_var (sa_cons se_int sa_nil))))) so_none))) (ss_seq (ss_drop (se_bl_ ms_append se_var (sa_cons (se_tried T.mm_WireError fun E => (se_call (sa_cons se_var (sa_cons se_var sa_nil)))) sa_nil))) (ss_seq (ss_drop (se_bl_ ms_append se_var (sa_cons (se_tried T.mm_WireError fun E => (se_call (sa_cons se_var (sa_cons se_var sa_nil)))) sa_nil))) (ss_ret (se_op os_eq se_var (se_lst (sa_cons (se_lst (sa_cons (se_strS (by decide +kernel)) (sa_cons se_int sa_nil))) (sa_cons (se_lst (sa_cons (se_strS (by decide +kernel)) (sa_cons se_int sa_nil))) (sa_cons (se_lst (sa_cons (se_strS (by decide +kernel)) (sa_cons se_int sa_nil))) (sa_cons (se_lst (sa_cons (se_strS (by decide +kernel)) (sa_cons se_int sa_nil))) (sa_cons (se_lst (sa_cons (se_strS (by decide +kernel)) (sa_cons se_int sa_nil))) (sa_cons (se_lst (sa_cons (se_strS (by decide +kernel)) (sa_cons se_int sa_nil))) sa_nil))))))))))))))))))))
abbrev s_l_same_row : Stmt := topS 52
abbrev N_l_same_row : List Str := ["_law_found", "_law_due", "_law_one"]
theorem sc_l_same_row : FnScope N_l_same_row ["_law_found", "_law_due"] (defScope s_l_same_row) := ⟨rfl, rfl, rfl, by decide +kernel, rfl, by decide +kernel, by decide +kernel⟩
theorem ok_l_same_row {P : Program} {w : World} {K : PySem.W.Frag} {mg : Str → Option Value} {base : Heap} {a : Addr} {fd : FuncData} {ca : CaT} (T : Txt K mg ca) (F : Fun K "_law_same_row" "_law_same_row" s_l_same_row a fd)  :
    FnOk P w K mg base (L2.CX P w) 1 a fd ["_law_found", "_law_due"] (SpF K ca F_l_same_row) := by
  refine SM.Fn.ofF F sc_l_same_row rfl fun cdv A outer s H E hr => ?_
  have nd := sc_l_same_row.nd
  refine ⟨_, (pss_cons (ps_if (PW.pt (pw_or (pt_not (pt_val (pe_callB (call_isiA (K := K)) (by rfl) T.b_isinstance (by decide +kernel) (pa_cons (pv 0) (pa_cons (pe_bltn (v := .ty "tuple") (by rfl) T.b_tuple (by decide +kernel) rfl) pa_nil))))) (pw_or1 (pt_cmpR (op_nePK (K := K) (DL.room65 hr)) (pv 0) (pv 1) (nomark _))))) (pss_one (ps_ret pe_bl)) pss_nil) (pss_one (ps_ret (pe_cmpR (op_eqPK (K := K) (DL.room65 hr)) (pe_callB (call_lenU (K := K)) (by rfl) T.b_len (by decide +kernel) (pa_cons (pe_lc (own := [("_law_one", 2)]) (g := (gName 2)) rfl nd (pi_seqU (K := K) (pv 0)) (blkOk_by (own := [("_law_one", 2)]) (N := N_l_same_row) (sc := defScope s_l_same_row) (by decide +kernel)) (fun _ _ _ _ _ => (pg_name (i := 2) nd rfl (by first | exact Or.inl rfl | exact Or.inr rfl))) (fun _ _ _ _ _ => (pts_one (PW.pt (pw_or (pt_not (pt_val (pe_callB (call_isiA (K := K)) (by rfl) T.b_isinstance (by decide +kernel) (pa_cons (pv 2) (pa_cons (pe_bltn (v := .ty "int") (by rfl) T.b_int (by decide +kernel) rfl) pa_nil))))) (pw_or1 (pt_val (pe_callB (call_isiA (K := K)) (by rfl) T.b_isinstance (by decide +kernel) (pa_cons (pv 2) (pa_cons (pe_bltn (v := .ty "bool") (by rfl) T.b_bool (by decide +kernel) rfl) pa_nil))))))))) (fun _ _ _ _ _ => (pv 2))) pa_nil)) pe_int (nomark _))))), ?_⟩
  exact (ss_seq (ss_if (st_or (st_not (st_b (se_cb (cs_isi T.isO T.isX T.isT) (sa_cons se_var (sa_cons se_ty sa_nil))))) (st_test (se_op os_ne se_var se_var))) (ss_ret se_bl) ss_next) (ss_ret (se_op os_eq (se_cb cs_len (sa_cons (se_lc (W2 := fun _ _ _ _ => False) (sw_seq se_var) sg_name (by decide) (st_or (st_not (st_b (se_cb (cs_isi T.isO T.isX T.isT) (sa_cons se_var (sa_cons se_ty sa_nil))))) (st_b (se_cb (cs_isi T.isO T.isX T.isT) (sa_cons se_var (sa_cons se_ty sa_nil))))) se_var) sa_nil)) se_int)))
abbrev s_l_state : Stmt := topS 43
abbrev N_l_state : List Str := ["_law_cell", "_law_k", "_law_drawn"]
theorem sc_l_state : FnScope N_l_state ["_law_cell", "_law_k"] (defScope s_l_state) := ⟨rfl, rfl, rfl, by decide +kernel, rfl, by decide +kernel, by decide +kernel⟩
theorem ok_l_state {P : Program} {w : World} {K : PySem.W.Frag} {mg : Str → Option Value} {base : Heap} {a : Addr} {fd : FuncData} {ca : CaT} (T : Txt K mg ca) (F : Fun K "_law_state" "_law_state" s_l_state a fd)  :
    FnOk P w K mg base (L2.CX P w) 1 a fd ["_law_cell", "_law_k"] (SpF K ca F_l_state) := by
  refine SM.Fn.ofF F sc_l_state rfl fun cdv A outer s H E hr => ?_
  have nd := sc_l_state.nd
  refine ⟨_, (pss_cons (ps_set (i := 2) nd rfl (by first | exact Or.inl rfl | exact Or.inr rfl) (pe_op op_modU (pe_op (op_mulA (K := K)) (pe_op (op_addU (K := K)) (pe_op (op_addU (K := K)) (pv 0) (pe_op (op_mulA (K := K)) pe_int (pv 1))) pe_int) pe_int) pe_int)) (pss_one (ps_ret (pe_lst (pa_cons (pe_op (op_mulA (K := K)) (pv 0) (pe_callTy DL.call_intT (by rfl) T.b_int (by decide +kernel) (pa_cons (pe_cmpR op_geU (pv 0) (pe_op op_powU pe_int pe_int) (nomark _)) pa_nil))) (pa_cons (pe_op op_modU (pe_op (op_addU (K := K)) (pe_op (op_addU (K := K)) (pe_op (op_mulA (K := K)) (pv 2) (pv 2)) (pe_op (op_mulA (K := K)) pe_int (pv 2))) (pv 1)) pe_int) pa_nil)))))), ?_⟩
  exact (ss_seq (ss_set (se_op os_mod (se_op os_mul (se_op os_add (se_op os_add se_var (se_op os_mul se_int se_var)) se_int) se_int) se_int)) (ss_ret (se_lst (sa_cons (se_op os_mul se_var (se_cb cs_intT (sa_cons (se_op os_ge se_var (se_op os_pow se_int se_int)) sa_nil))) (sa_cons (se_op os_mod (se_op os_add (se_op os_add (se_op os_mul se_var se_var) (se_op os_mul se_int se_var)) se_var) se_int) sa_nil)))))
abbrev s_l_too_long : Stmt := topS 57
abbrev N_l_too_long : List Str := ["_law_data_here", "_law_code_here", "_law_reader", "_law_told"]
theorem sc_l_too_long : FnScope N_l_too_long ["_law_data_here", "_law_code_here"] (defScope s_l_too_long) := ⟨rfl, rfl, rfl, by decide +kernel, rfl, by decide +kernel, by decide +kernel⟩
theorem ok_l_too_long {P : Program} {w : World} {K : PySem.W.Frag} {mg : Str → Option Value} {base : Heap} {a : Addr} {fd : FuncData} {ca : CaT} (T : Txt K mg ca) (F : Fun K "_law_too_long" "_law_too_long" s_l_too_long a fd) (M_Reader : Mx P w K mg base 3 "Reader" (ca "Reader") (SpF K ca F_Reader___init__)) (M_Reader_take : SM.Mt P w K mg base 7 (ca "Reader") "take" (SpF K ca F_Reader_take)) (C_l_framed : Dx P w K mg base 3 "_law_framed" (SpF K ca F_l_framed)) :
    FnOk P w K mg base (L2.CX P w) 8 a fd ["_law_data_here", "_law_code_here"] (SpF K ca F_l_too_long) := by
  refine SM.Fn.ofF F sc_l_too_long rfl fun cdv A outer s H E hr => ?_
  have nd := sc_l_too_long.nd
  refine ⟨_, (pss_cons (ps_set (i := 2) nd rfl (by first | exact Or.inl rfl | exact Or.inr rfl) (pe_mx M_Reader (takes_of rfl rfl rfl rfl) hr (by decide) rfl (pa_cons (pv 1) pa_nil))) (pss_cons (ps_set (i := 3) nd rfl (by first | exact Or.inl rfl | exact Or.inr rfl) (pe_mtX M_Reader_take (takes_of rfl rfl rfl rfl) hr (by decide) T.cl_Reader (pv 2) (pa_cons (pe_dx C_l_framed (takes_of rfl rfl rfl rfl) hr (by decide) rfl (pa_cons (pe_op (op_addU (K := K)) (pv 0) (pe_tup (pa_cons pe_int pa_nil))) (pa_cons (pv 1) pa_nil))) pa_nil))) (pss_one (ps_ret (pe_and (pe_cmpR (op_eqPK (K := K) (DL.room65 hr)) (pv 3) (pe_lst pa_nil) (nomark _)) (pe_one (pe_cmpR (op_eqPK (K := K) (DL.room65 hr)) (pe_mtX M_Reader_take (takes_of rfl rfl rfl rfl) hr (by decide) T.cl_Reader (pv 2) (pa_cons (pe_dx C_l_framed (takes_of rfl rfl rfl rfl) hr (by decide) rfl (pa_cons (pv 0) (pa_cons (pv 1) pa_nil))) pa_nil)) (pe_lst (pa_cons (pv 0) pa_nil)) (nomark _)))))))), ?_⟩
  exact (ss_seq (ss_set (se_make (sa_cons se_var sa_nil))) (ss_seq (ss_set (meth_one (by decide +kernel) se_var (sa_cons (se_call (sa_cons (se_op os_add se_var (se_tup (sa_cons se_int sa_nil))) (sa_cons se_var sa_nil))) sa_nil))) (ss_ret (se_and (se_op os_eq se_var (se_lst sa_nil)) (se_op os_eq (meth_one (by decide +kernel) se_var (sa_cons (se_call (sa_cons se_var (sa_cons se_var sa_nil))) sa_nil)) (se_lst (sa_cons se_var sa_nil)))))))
abbrev s_law : Stmt := topS 58
abbrev N_law : List Str := ["_law_script", "_law_k", "_law_cell", "_law_state_here", "_law_code_here", "_law_data_here", "_law_byte", "_law_more"]
theorem sc_law : FnScope N_law ["_law_script"] (defScope s_law) := ⟨rfl, rfl, rfl, by decide +kernel, rfl, by decide +kernel, by decide +kernel⟩
theorem ok_law {P : Program} {w : World} {K : PySem.W.Frag} {mg : Str → Option Value} {base : Heap} {a : Addr} {fd : FuncData} {ca : CaT} (T : Txt K mg ca) (F : Fun K "law" "law" s_law a fd) (C_l_code : Dx P w K mg base 2 "_law_code" (SpF K ca F_l_code)) (C_l_data : Dx P w K mg base 2 "_law_data" (SpF K ca F_l_data)) (C_l_framed : Dx P w K mg base 3 "_law_framed" (SpF K ca F_l_framed)) (C_l_next : Dx P w K mg base 1 "_law_next" (SpF K ca F_l_next)) (C_l_read_on : Dx P w K mg base 11 "_law_read_on" (SpF K ca F_l_read_on)) (C_l_refused : Dx P w K mg base 10 "_law_refused" (SpF K ca F_l_refused)) (C_l_same_row : Dx P w K mg base 1 "_law_same_row" (SpF K ca F_l_same_row)) (C_l_state : Dx P w K mg base 1 "_law_state" (SpF K ca F_l_state)) (C_l_too_long : Dx P w K mg base 8 "_law_too_long" (SpF K ca F_l_too_long)) (C_framed : Dx P w K mg base 6 "framed" (SpF K ca F_framed)) :
    FnOk P w K mg base CX0 12 a fd ["_law_script"] (SpF K ca F_law) := by
  refine SM.Fn.ofF0 F sc_law rfl fun cdv A outer s H E hr => ?_
  have nd := sc_law.nd
  refine ⟨_, (pss_cons (ps_for PassesOwn.never rfl (pi_enumA (by rfl) T.b_enumerate (pa_cons (pe_op (op_catS (K := K)) (pv 0) (pe_lst (pa_cons pe_int pa_nil))) pa_nil)) (pg_tup rfl (pgs_cons (pg_name (i := 1) nd rfl (by first | exact Or.inl rfl | exact Or.inr rfl)) (pgs_cons (pg_name (i := 2) nd rfl (by first | exact Or.inl rfl | exact Or.inr rfl)) pgs_nil))) (pss_cons (ps_set (i := 3) nd rfl (by first | exact Or.inl rfl | exact Or.inr rfl) (pe_dx0 C_l_state hr (by decide) rfl (pa_cons (pv 2) (pa_cons (pe_op (op_addU (K := K)) pe_int (pv 1)) pa_nil)))) (pss_cons (ps_set (i := 4) nd rfl (by first | exact Or.inl rfl | exact Or.inr rfl) (pe_dx0 C_l_code hr (by decide) rfl (pa_cons (pv 3) pa_nil))) (pss_cons (ps_set (i := 5) nd rfl (by first | exact Or.inl rfl | exact Or.inr rfl) (pe_dx0 C_l_data hr (by decide) rfl (pa_cons (pv 3) (pa_cons pe_int pa_nil)))) (pss_cons (ps_if (PW.pt (pw_and (pt_cmpR (op_eqPK (K := K) (DL.room65 hr)) (pe_dx0 C_l_next hr (by decide) rfl (pa_cons (pv 3) (pa_cons pe_int pa_nil))) pe_int (nomark _)) (pw_and1 (pt_cmpR (op_eqPK (K := K) (DL.room65 hr)) (pv 1) pe_int (nomark _))))) (pss_cons (ps_set (i := 5) nd rfl (by first | exact Or.inl rfl | exact Or.inr rfl) (pe_op (op_addU (K := K)) (pv 5) (pe_op (op_mulA (K := K)) (pe_tup (pa_cons pe_int pa_nil)) (pe_op op_subU pe_int (pe_callB (call_lenU (K := K)) (by rfl) T.b_len (by decide +kernel) (pa_cons (pv 5) pa_nil)))))) (pss_one (ps_if (pt_not (pt_val (pe_dx0 C_l_too_long hr (by decide) rfl (pa_cons (pv 5) (pa_cons (pv 4) pa_nil))))) (pss_one (ps_ret pe_bl)) pss_nil))) (pss_one (ps_if (PW.pt (pw_and (pt_cmpR (op_eqPK (K := K) (DL.room65 hr)) (pv 1) pe_int (nomark _)) (pw_and1 (pt_cmpR (op_eqPK (K := K) (DL.room65 hr)) (pe_dx0 C_l_next hr (by decide) rfl (pa_cons (pv 3) (pa_cons pe_int pa_nil))) pe_int (nomark _))))) (pss_cons (ps_set (i := 6) nd rfl (by first | exact Or.inl rfl | exact Or.inr rfl) (pe_dx0 C_l_next hr (by decide) rfl (pa_cons (pv 3) (pa_cons pe_int pa_nil)))) (pss_cons (ps_set (i := 7) nd rfl (by first | exact Or.inl rfl | exact Or.inr rfl) (pe_ix (ix_U (K := K)) (pe_lst (pa_cons pe_int (pa_cons pe_int (pa_cons pe_int pa_nil)))) (pe_dx0 C_l_next hr (by decide) rfl (pa_cons (pv 3) (pa_cons pe_int pa_nil))) (fun _ _ => rfl))) (pss_one (ps_set (i := 5) nd rfl (by first | exact Or.inl rfl | exact Or.inr rfl) (pe_op (op_addU (K := K)) (pv 5) (pe_op (op_mulA (K := K)) (pe_tup (pa_cons (pv 6) pa_nil)) (pe_dx0 C_l_next hr (by decide) rfl (pa_cons (pv 3) (pa_cons (pv 7) pa_nil))))))))) pss_nil))) (pss_cons (ps_if (pt_not (pt_val (pe_dx0 C_l_same_row hr (by decide) rfl (pa_cons (pe_dx0 C_framed hr (by decide) rfl (pa_cons (pv 5) (pa_cons (pv 4) pa_nil))) (pa_cons (pe_dx0 C_l_framed hr (by decide) rfl (pa_cons (pv 5) (pa_cons (pv 4) pa_nil))) pa_nil))))) (pss_one (ps_ret pe_bl)) pss_nil) (pss_one (ps_if (PW.pt (pw_or (pt_not (pt_val (pe_dx0 C_l_refused hr (by decide) rfl (pa_cons (pv 3) (pa_cons (pv 5) (pa_cons (pv 4) pa_nil)))))) (pw_or1 (pt_not (pt_val (pe_dx0 C_l_read_on hr (by decide) rfl (pa_cons (pv 3) (pa_cons (pv 5) (pa_cons (pv 4) pa_nil))))))))) (pss_one (ps_ret pe_bl)) pss_nil)))))))) (pss_one (ps_ret pe_bl))), ?_⟩
  exact (ss_seq (ss_for (sw_enumA (se_op os_addS se_var (se_lst (sa_cons se_int sa_nil)))) (sg_tup (sgs_cons sg_name (sgs_cons sg_name sgs_nil)) rfl) (ss_seq (ss_set (se_call0 (sa_cons se_var (sa_cons (se_op os_add se_int se_var) sa_nil)))) (ss_seq (ss_set (se_call0 (sa_cons se_var sa_nil))) (ss_seq (ss_set (se_call0 (sa_cons se_var (sa_cons se_int sa_nil)))) (ss_seq (ss_if (st_and (st_test (se_op os_eq (se_call0 (sa_cons se_var (sa_cons se_int sa_nil))) se_int)) (st_test (se_op os_eq se_var se_int))) (ss_seq (ss_set (se_op os_add se_var (se_op os_mul (se_tup (sa_cons se_int sa_nil)) (se_op os_sub se_int (se_cb cs_len (sa_cons se_var sa_nil)))))) (ss_if (st_not (st_b (se_call0 (sa_cons se_var (sa_cons se_var sa_nil))))) (ss_ret se_bl) ss_next)) (ss_if (st_and (st_test (se_op os_eq se_var se_int)) (st_test (se_op os_eq (se_call0 (sa_cons se_var (sa_cons se_int sa_nil))) se_int))) (ss_seq (ss_set (se_call0 (sa_cons se_var (sa_cons se_int sa_nil)))) (ss_seq (ss_set (se_op os_ix (se_lst (sa_cons se_int (sa_cons se_int (sa_cons se_int sa_nil)))) (se_call0 (sa_cons se_var (sa_cons se_int sa_nil))))) (ss_set (se_op os_add se_var (se_op os_mul (se_tup (sa_cons se_var sa_nil)) (se_call0 (sa_cons se_var (sa_cons se_var sa_nil)))))))) ss_next)) (ss_seq (ss_if (st_not (st_b (se_call0 (sa_cons (se_call0 (sa_cons se_var (sa_cons se_var sa_nil))) (sa_cons (se_call0 (sa_cons se_var (sa_cons se_var sa_nil))) sa_nil))))) (ss_ret se_bl) ss_next) (ss_if (st_or (st_not (st_b (se_call0 (sa_cons se_var (sa_cons se_var (sa_cons se_var sa_nil)))))) (st_not (st_b (se_call0 (sa_cons se_var (sa_cons se_var (sa_cons se_var sa_nil))))))) (ss_ret se_bl) ss_next))))))) (ss_ret se_bl))
def spLaw (K : PySem.W.Frag) (cs : List (Addr × Addr)) : Sp := fun vs H Q _ => ∃ (a : Addr) (ns : List Int), vs = [.ref a] ∧ SqL K H a (ns.map V.int) ∧ ns.length ≤ 63 ∧ (∀ p ∈ cs, H p.2 = some (.tbl #[])) ∧ ∀ H1, Q (.bl true) H1
theorem law_imp {K : PySem.W.Frag} {ca : CaT} {cs : List (Addr × Addr)} (hcs : ∀ p ∈ ca.T, ∃ c, (c, p.1) ∈ cs) : ∀ (vs : List V) (H : Hp) (Q : VK) (E : XK), spLaw K cs vs H Q E → SpF K ca F_law vs H Q E := fun vs H Q E ⟨a, ns, e, h, hl, hT, k⟩ => by
  subst e
  obtain ⟨A, hA⟩ := law_true ns hl
  refine ⟨SM.noT H, [], [], [.scr (ns.map D.int)], Rl.start fun p hp => (by obtain ⟨c, hc⟩ := hcs p hp; exact hT _ hc), .cons (.scr (SM.SqL.noT h) RepL.of_ints) .nil, ?_⟩
  rw [hA]
  intro v F' m' H' _ _ r
  cases r
  exact k H'
theorem all_mk {l : PySem.W.OpenLaw} {w : World} {K : PySem.W.Frag} {h : Heap} {mg : Str → Option Value} {fa f0 f1 f2 f3 f4 f5 f6 f7 f8 f9 f10 f11 f12 f13 f14 f15 f16 f17 f18 f19 f20 f21 f22 f23 f24 f25 f26 f27 f28 f29 f30 f31 f32 f33 f34 f35 f36 f37 : Addr} (X : K.In h) (G : h.Ns mainGlobals mg) (hfa : mg "law" = some (.ref fa)) (OT : ∀ y ∈ (["_law_read_on", "_law_refused"] : List Str), ∀ g, mg y = some (.ref g) → LamX.OwnTab K g h)
    {od0 an0 od1 an1 od2 an2 od3 an3 od4 an4 od5 an5 od6 an6 od7 an7 od8 an8 od9 an9 od10 an10 od11 an11 od12 an12 od13 an13 od14 an14 od15 an15 od16 an16 od17 an17 od18 an18 od19 an19 od20 an20 od21 an21 od22 an22 od23 an23 od24 an24 od25 an25 od26 an26 od27 an27 od28 an28 od29 an29 od30 an30 od31 an31 od32 an32 od33 an33 od34 an34 od35 an35 od36 an36 od37 an37 : Option Addr} {sl0 sl1 sl2 sl3 sl4 sl5 sl6 sl7 sl8 sl9 sl10 sl11 sl12 sl13 sl14 sl15 sl16 sl17 sl18 sl19 sl20 sl21 sl22 sl23 sl24 sl25 sl26 sl27 sl28 sl29 sl30 sl31 sl32 sl33 sl34 sl35 sl36 sl37 : Array (Option Value)} {oc0 kV0 dc0 pm0 cd0 ct0 oc1 kV1 dc1 pm1 cd1 ct1 oc2 kV2 dc2 pm2 cd2 ct2 oc3 kV3 dc3 pm3 cd3 ct3 oc4 kV4 dc4 pm4 cd4 ct4 oc5 kV5 dc5 pm5 cd5 ct5 oc6 kV6 dc6 pm6 cd6 ct6 oc7 kV7 dc7 pm7 cd7 ct7 oc8 kV8 dc8 pm8 cd8 ct8 oc9 kV9 dc9 pm9 cd9 ct9 oc10 kV10 dc10 pm10 cd10 ct10 oc11 kV11 dc11 pm11 cd11 ct11 oc12 kV12 dc12 pm12 cd12 ct12 oc13 kV13 dc13 pm13 cd13 ct13 oc14 kV14 dc14 pm14 cd14 ct14 oc15 kV15 dc15 pm15 cd15 ct15 oc16 kV16 dc16 pm16 cd16 ct16 oc17 kV17 dc17 pm17 cd17 ct17 oc18 kV18 dc18 pm18 cd18 ct18 oc19 kV19 dc19 pm19 cd19 ct19 oc20 kV20 dc20 pm20 cd20 ct20 oc21 kV21 dc21 pm21 cd21 ct21 oc22 kV22 dc22 pm22 cd22 ct22 oc23 kV23 dc23 pm23 cd23 ct23 oc24 kV24 dc24 pm24 cd24 ct24 oc25 kV25 dc25 pm25 cd25 ct25 oc26 kV26 dc26 pm26 cd26 ct26 oc27 kV27 dc27 pm27 cd27 ct27 oc28 kV28 dc28 pm28 cd28 ct28 oc29 kV29 dc29 pm29 cd29 ct29 oc30 kV30 dc30 pm30 cd30 ct30 oc31 kV31 dc31 pm31 cd31 ct31 oc32 kV32 dc32 pm32 cd32 ct32 oc33 kV33 dc33 pm33 cd33 ct33 oc34 kV34 dc34 pm34 cd34 ct34 oc35 kV35 dc35 pm35 cd35 ct35 oc36 kV36 dc36 pm36 cd36 ct36 oc37 kV37 dc37 pm37 cd37 ct37 : Value}
    {ca_FLAG : Addr} (g_FLAG : PySem.W.nsIn K mainGlobals "FLAG" = some (some (.ref ca_FLAG))) {ca_NoBits : Addr} (g_NoBits : PySem.W.nsIn K mainGlobals "NoBits" = some (some (.ref ca_NoBits))) {ca_NoCode : Addr} (g_NoCode : PySem.W.nsIn K mainGlobals "NoCode" = some (some (.ref ca_NoCode))) {ca_NoData : Addr} (g_NoData : PySem.W.nsIn K mainGlobals "NoData" = some (some (.ref ca_NoData))) {ca_NoNumber : Addr} (g_NoNumber : PySem.W.nsIn K mainGlobals "NoNumber" = some (some (.ref ca_NoNumber))) {ca_NoPacket : Addr} (g_NoPacket : PySem.W.nsIn K mainGlobals "NoPacket" = some (some (.ref ca_NoPacket))) {ca_NoPlace : Addr} (g_NoPlace : PySem.W.nsIn K mainGlobals "NoPlace" = some (some (.ref ca_NoPlace))) {ca_NoText : Addr} (g_NoText : PySem.W.nsIn K mainGlobals "NoText" = some (some (.ref ca_NoText))) {ca_NoTick : Addr} (g_NoTick : PySem.W.nsIn K mainGlobals "NoTick" = some (some (.ref ca_NoTick))) {ca_Reader : Addr} (g_Reader : PySem.W.nsIn K mainGlobals "Reader" = some (some (.ref ca_Reader))) {ca_WireError : Addr} (g_WireError : PySem.W.nsIn K mainGlobals "WireError" = some (some (.ref ca_WireError)))
    (a0 : PySem.W.nsIn K mainGlobals "_law_next" = some (some (.ref f0))) (l0 : K.lookup f0 = some ⟨oc0, od0, .func (PySem.W.fnOf "_law_next" "_law_next" (defArgs s_l_next) (defBody s_l_next) (defScope s_l_next) .none kV0 dc0 pm0 an0 cd0 ct0), sl0⟩) (c0 : PySem.W.codeIn K cd0 "_law_next" = true) (k0 : PySem.W.keepIn K (.ref f0) = true)
    (a1 : PySem.W.nsIn K mainGlobals "_law_code" = some (some (.ref f1))) (l1 : K.lookup f1 = some ⟨oc1, od1, .func (PySem.W.fnOf "_law_code" "_law_code" (defArgs s_l_code) (defBody s_l_code) (defScope s_l_code) .none kV1 dc1 pm1 an1 cd1 ct1), sl1⟩) (c1 : PySem.W.codeIn K cd1 "_law_code" = true) (k1 : PySem.W.keepIn K (.ref f1) = true)
    (a2 : PySem.W.nsIn K mainGlobals "_law_data" = some (some (.ref f2))) (l2 : K.lookup f2 = some ⟨oc2, od2, .func (PySem.W.fnOf "_law_data" "_law_data" (defArgs s_l_data) (defBody s_l_data) (defScope s_l_data) .none kV2 dc2 pm2 an2 cd2 ct2), sl2⟩) (c2 : PySem.W.codeIn K cd2 "_law_data" = true) (k2 : PySem.W.keepIn K (.ref f2) = true)
    (a3 : PySem.W.nsIn K mainGlobals "_law_rest" = some (some (.ref f3))) (l3 : K.lookup f3 = some ⟨oc3, od3, .func (PySem.W.fnOf "_law_rest" "_law_rest" (defArgs s_l_rest) (defBody s_l_rest) (defScope s_l_rest) .none kV3 dc3 pm3 an3 cd3 ct3), sl3⟩) (c3 : PySem.W.codeIn K cd3 "_law_rest" = true) (k3 : PySem.W.keepIn K (.ref f3) = true)
    (a4 : PySem.W.nsIn K mainGlobals "_law_coded" = some (some (.ref f4))) (l4 : K.lookup f4 = some ⟨oc4, od4, .func (PySem.W.fnOf "_law_coded" "_law_coded" (defArgs s_l_coded) (defBody s_l_coded) (defScope s_l_coded) .none kV4 dc4 pm4 an4 cd4 ct4), sl4⟩) (c4 : PySem.W.codeIn K cd4 "_law_coded" = true) (k4 : PySem.W.keepIn K (.ref f4) = true)
    (a5 : PySem.W.nsIn K mainGlobals "_law_of_bytes" = some (some (.ref f5))) (l5 : K.lookup f5 = some ⟨oc5, od5, .func (PySem.W.fnOf "_law_of_bytes" "_law_of_bytes" (defArgs s_l_of_bytes) (defBody s_l_of_bytes) (defScope s_l_of_bytes) .none kV5 dc5 pm5 an5 cd5 ct5), sl5⟩) (c5 : PySem.W.codeIn K cd5 "_law_of_bytes" = true) (k5 : PySem.W.keepIn K (.ref f5) = true)
    (a6 : PySem.W.nsIn K mainGlobals "_law_stuffed" = some (some (.ref f6))) (l6 : K.lookup f6 = some ⟨oc6, od6, .func (PySem.W.fnOf "_law_stuffed" "_law_stuffed" (defArgs s_l_stuffed) (defBody s_l_stuffed) (defScope s_l_stuffed) .none kV6 dc6 pm6 an6 cd6 ct6), sl6⟩) (c6 : PySem.W.codeIn K cd6 "_law_stuffed" = true) (k6 : PySem.W.keepIn K (.ref f6) = true)
    (a7 : PySem.W.nsIn K mainGlobals "_law_framed" = some (some (.ref f7))) (l7 : K.lookup f7 = some ⟨oc7, od7, .func (PySem.W.fnOf "_law_framed" "_law_framed" (defArgs s_l_framed) (defBody s_l_framed) (defScope s_l_framed) .none kV7 dc7 pm7 an7 cd7 ct7), sl7⟩) (c7 : PySem.W.codeIn K cd7 "_law_framed" = true) (k7 : PySem.W.keepIn K (.ref f7) = true)
    (a8 : PySem.W.nsIn K mainGlobals "need_code" = some (some (.ref f8))) (l8 : K.lookup f8 = some ⟨oc8, od8, .func (PySem.W.fnOf "need_code" "need_code" (defArgs s_need_code) (defBody s_need_code) (defScope s_need_code) .none kV8 dc8 pm8 an8 cd8 ct8), sl8⟩) (c8 : PySem.W.codeIn K cd8 "need_code" = true) (k8 : PySem.W.keepIn K (.ref f8) = true)
    (a9 : PySem.W.nsIn K mainGlobals "width" = some (some (.ref f9))) (l9 : K.lookup f9 = some ⟨oc9, od9, .func (PySem.W.fnOf "width" "width" (defArgs s_width) (defBody s_width) (defScope s_width) .none kV9 dc9 pm9 an9 cd9 ct9), sl9⟩) (c9 : PySem.W.codeIn K cd9 "width" = true) (k9 : PySem.W.keepIn K (.ref f9) = true)
    (a10 : PySem.W.findIn K (.ref ca_Reader) "__init__" = some (some (.ref f10))) (i10 : PySem.W.isFn K (.ref f10) = true) (l10 : K.lookup f10 = some ⟨oc10, od10, .func (PySem.W.fnOf "__init__" "Reader.__init__" (defArgs s_Reader___init__) (defBody s_Reader___init__) (defScope s_Reader___init__) .none kV10 dc10 pm10 an10 cd10 ct10), sl10⟩) (c10 : PySem.W.codeIn K cd10 "Reader.__init__" = true) (k10 : PySem.W.keepIn K (.ref f10) = true)
    (a11 : PySem.W.nsIn K mainGlobals "gathered" = some (some (.ref f11))) (l11 : K.lookup f11 = some ⟨oc11, od11, .func (PySem.W.fnOf "gathered" "gathered" (defArgs s_gathered) (defBody s_gathered) (defScope s_gathered) .none kV11 dc11 pm11 an11 cd11 ct11), sl11⟩) (c11 : PySem.W.codeIn K cd11 "gathered" = true) (k11 : PySem.W.keepIn K (.ref f11) = true)
    (a12 : PySem.W.nsIn K mainGlobals "is_whole" = some (some (.ref f12))) (l12 : K.lookup f12 = some ⟨oc12, od12, .func (PySem.W.fnOf "is_whole" "is_whole" (defArgs s_is_whole) (defBody s_is_whole) (defScope s_is_whole) .none kV12 dc12 pm12 an12 cd12 ct12), sl12⟩) (c12 : PySem.W.codeIn K cd12 "is_whole" = true) (k12 : PySem.W.keepIn K (.ref f12) = true)
    (a13 : PySem.W.nsIn K mainGlobals "is_bits" = some (some (.ref f13))) (l13 : K.lookup f13 = some ⟨oc13, od13, .func (PySem.W.fnOf "is_bits" "is_bits" (defArgs s_is_bits) (defBody s_is_bits) (defScope s_is_bits) .none kV13 dc13 pm13 an13 cd13 ct13), sl13⟩) (c13 : PySem.W.codeIn K cd13 "is_bits" = true) (k13 : PySem.W.keepIn K (.ref f13) = true)
    (a14 : PySem.W.nsIn K mainGlobals "data_of" = some (some (.ref f14))) (l14 : K.lookup f14 = some ⟨oc14, od14, .func (PySem.W.fnOf "data_of" "data_of" (defArgs s_data_of) (defBody s_data_of) (defScope s_data_of) .none kV14 dc14 pm14 an14 cd14 ct14), sl14⟩) (c14 : PySem.W.codeIn K cd14 "data_of" = true) (k14 : PySem.W.keepIn K (.ref f14) = true)
    (a15 : PySem.W.nsIn K mainGlobals "divided" = some (some (.ref f15))) (l15 : K.lookup f15 = some ⟨oc15, od15, .func (PySem.W.fnOf "divided" "divided" (defArgs s_divided) (defBody s_divided) (defScope s_divided) .none kV15 dc15 pm15 an15 cd15 ct15), sl15⟩) (c15 : PySem.W.codeIn K cd15 "divided" = true) (k15 : PySem.W.keepIn K (.ref f15) = true)
    (a16 : PySem.W.nsIn K mainGlobals "number_of" = some (some (.ref f16))) (l16 : K.lookup f16 = some ⟨oc16, od16, .func (PySem.W.fnOf "number_of" "number_of" (defArgs s_number_of) (defBody s_number_of) (defScope s_number_of) .none kV16 dc16 pm16 an16 cd16 ct16), sl16⟩) (c16 : PySem.W.codeIn K cd16 "number_of" = true) (k16 : PySem.W.keepIn K (.ref f16) = true)
    (a17 : PySem.W.nsIn K mainGlobals "number_by" = some (some (.ref f17))) (l17 : K.lookup f17 = some ⟨oc17, od17, .func (PySem.W.fnOf "number_by" "number_by" (defArgs s_number_by) (defBody s_number_by) (defScope s_number_by) .none kV17 dc17 pm17 an17 cd17 ct17), sl17⟩) (c17 : PySem.W.codeIn K cd17 "number_by" = true) (k17 : PySem.W.keepIn K (.ref f17) = true)
    (a18 : PySem.W.nsIn K mainGlobals "is_right" = some (some (.ref f18))) (l18 : K.lookup f18 = some ⟨oc18, od18, .func (PySem.W.fnOf "is_right" "is_right" (defArgs s_is_right) (defBody s_is_right) (defScope s_is_right) .none kV18 dc18 pm18 an18 cd18 ct18), sl18⟩) (c18 : PySem.W.codeIn K cd18 "is_right" = true) (k18 : PySem.W.keepIn K (.ref f18) = true)
    (a19 : PySem.W.nsIn K mainGlobals "need_bits" = some (some (.ref f19))) (l19 : K.lookup f19 = some ⟨oc19, od19, .func (PySem.W.fnOf "need_bits" "need_bits" (defArgs s_need_bits) (defBody s_need_bits) (defScope s_need_bits) .none kV19 dc19 pm19 an19 cd19 ct19), sl19⟩) (c19 : PySem.W.codeIn K cd19 "need_bits" = true) (k19 : PySem.W.keepIn K (.ref f19) = true)
    (a20 : PySem.W.nsIn K mainGlobals "plain" = some (some (.ref f20))) (l20 : K.lookup f20 = some ⟨oc20, od20, .func (PySem.W.fnOf "plain" "plain" (defArgs s_plain) (defBody s_plain) (defScope s_plain) .none kV20 dc20 pm20 an20 cd20 ct20), sl20⟩) (c20 : PySem.W.codeIn K cd20 "plain" = true) (k20 : PySem.W.keepIn K (.ref f20) = true)
    (a21 : PySem.W.findIn K (.ref ca_Reader) "frame_there" = some (some (.ref f21))) (i21 : PySem.W.isFn K (.ref f21) = true) (l21 : K.lookup f21 = some ⟨oc21, od21, .func (PySem.W.fnOf "frame_there" "Reader.frame_there" (defArgs s_Reader_frame_there) (defBody s_Reader_frame_there) (defScope s_Reader_frame_there) .none kV21 dc21 pm21 an21 cd21 ct21), sl21⟩) (c21 : PySem.W.codeIn K cd21 "Reader.frame_there" = true) (k21 : PySem.W.keepIn K (.ref f21) = true)
    (a22 : PySem.W.findIn K (.ref ca_Reader) "take" = some (some (.ref f22))) (i22 : PySem.W.isFn K (.ref f22) = true) (l22 : K.lookup f22 = some ⟨oc22, od22, .func (PySem.W.fnOf "take" "Reader.take" (defArgs s_Reader_take) (defBody s_Reader_take) (defScope s_Reader_take) .none kV22 dc22 pm22 an22 cd22 ct22), sl22⟩) (c22 : PySem.W.codeIn K cd22 "Reader.take" = true) (k22 : PySem.W.keepIn K (.ref f22) = true)
    (a23 : PySem.W.nsIn K mainGlobals "_law_kinds" = some (some (.ref f23))) (l23 : K.lookup f23 = some ⟨oc23, od23, .func (PySem.W.fnOf "_law_kinds" "_law_kinds" (defArgs s_l_kinds) (defBody s_l_kinds) (defScope s_l_kinds) .none kV23 dc23 pm23 an23 cd23 ct23), sl23⟩) (c23 : PySem.W.codeIn K cd23 "_law_kinds" = true) (k23 : PySem.W.keepIn K (.ref f23) = true)
    (a24 : PySem.W.nsIn K mainGlobals "_law_tried" = some (some (.ref f24))) (l24 : K.lookup f24 = some ⟨oc24, od24, .func (PySem.W.fnOf "_law_tried" "_law_tried" (defArgs s_l_tried) (defBody s_l_tried) (defScope s_l_tried) .none kV24 dc24 pm24 an24 cd24 ct24), sl24⟩) (c24 : PySem.W.codeIn K cd24 "_law_tried" = true) (k24 : PySem.W.keepIn K (.ref f24) = true)
    (a25 : PySem.W.nsIn K mainGlobals "_law_read_on" = some (some (.ref f25))) (l25 : K.lookup f25 = some ⟨oc25, od25, .func (PySem.W.fnOf "_law_read_on" "_law_read_on" (defArgs s_l_read_on) (defBody s_l_read_on) (defScope s_l_read_on) .none kV25 dc25 pm25 an25 cd25 ct25), sl25⟩) (c25 : PySem.W.codeIn K cd25 "_law_read_on" = true) (k25 : PySem.W.keepIn K (.ref f25) = true) {cc25 P25 : Addr} {ce25 : Value} {cz25 : Option Addr} {cv25 : Array Value} {cw25 : Array (Option Value)} (r25 : cd25 = .ref cc25) (w25 : K.lookup cc25 = some ⟨ce25, cz25, .fields cv25, cw25⟩) (x25 : cv25[11]? = some (.ref P25)) (h25 : PySem.W.codeHdIn [(cc25, (⟨ce25, cz25, .fields cv25, cw25⟩ : Obj))] cc25 P25 = true) (n25 : K.lookup P25 = none)
    (a26 : PySem.W.nsIn K mainGlobals "is_data" = some (some (.ref f26))) (l26 : K.lookup f26 = some ⟨oc26, od26, .func (PySem.W.fnOf "is_data" "is_data" (defArgs s_is_data) (defBody s_is_data) (defScope s_is_data) .none kV26 dc26 pm26 an26 cd26 ct26), sl26⟩) (c26 : PySem.W.codeIn K cd26 "is_data" = true) (k26 : PySem.W.keepIn K (.ref f26) = true)
    (a27 : PySem.W.nsIn K mainGlobals "spread" = some (some (.ref f27))) (l27 : K.lookup f27 = some ⟨oc27, od27, .func (PySem.W.fnOf "spread" "spread" (defArgs s_spread) (defBody s_spread) (defScope s_spread) .none kV27 dc27 pm27 an27 cd27 ct27), sl27⟩) (c27 : PySem.W.codeIn K cd27 "spread" = true) (k27 : PySem.W.keepIn K (.ref f27) = true)
    (a28 : PySem.W.nsIn K mainGlobals "bits_of" = some (some (.ref f28))) (l28 : K.lookup f28 = some ⟨oc28, od28, .func (PySem.W.fnOf "bits_of" "bits_of" (defArgs s_bits_of) (defBody s_bits_of) (defScope s_bits_of) .none kV28 dc28 pm28 an28 cd28 ct28), sl28⟩) (c28 : PySem.W.codeIn K cd28 "bits_of" = true) (k28 : PySem.W.keepIn K (.ref f28) = true)
    (a29 : PySem.W.nsIn K mainGlobals "bits_by" = some (some (.ref f29))) (l29 : K.lookup f29 = some ⟨oc29, od29, .func (PySem.W.fnOf "bits_by" "bits_by" (defArgs s_bits_by) (defBody s_bits_by) (defScope s_bits_by) .none kV29 dc29 pm29 an29 cd29 ct29), sl29⟩) (c29 : PySem.W.codeIn K cd29 "bits_by" = true) (k29 : PySem.W.keepIn K (.ref f29) = true)
    (a30 : PySem.W.nsIn K mainGlobals "coded" = some (some (.ref f30))) (l30 : K.lookup f30 = some ⟨oc30, od30, .func (PySem.W.fnOf "coded" "coded" (defArgs s_coded) (defBody s_coded) (defScope s_coded) .none kV30 dc30 pm30 an30 cd30 ct30), sl30⟩) (c30 : PySem.W.codeIn K cd30 "coded" = true) (k30 : PySem.W.keepIn K (.ref f30) = true)
    (a31 : PySem.W.nsIn K mainGlobals "stuffed" = some (some (.ref f31))) (l31 : K.lookup f31 = some ⟨oc31, od31, .func (PySem.W.fnOf "stuffed" "stuffed" (defArgs s_stuffed) (defBody s_stuffed) (defScope s_stuffed) .none kV31 dc31 pm31 an31 cd31 ct31), sl31⟩) (c31 : PySem.W.codeIn K cd31 "stuffed" = true) (k31 : PySem.W.keepIn K (.ref f31) = true)
    (a32 : PySem.W.nsIn K mainGlobals "framed" = some (some (.ref f32))) (l32 : K.lookup f32 = some ⟨oc32, od32, .func (PySem.W.fnOf "framed" "framed" (defArgs s_framed) (defBody s_framed) (defScope s_framed) .none kV32 dc32 pm32 an32 cd32 ct32), sl32⟩) (c32 : PySem.W.codeIn K cd32 "framed" = true) (k32 : PySem.W.keepIn K (.ref f32) = true)
    (a33 : PySem.W.nsIn K mainGlobals "_law_refused" = some (some (.ref f33))) (l33 : K.lookup f33 = some ⟨oc33, od33, .func (PySem.W.fnOf "_law_refused" "_law_refused" (defArgs s_l_refused) (defBody s_l_refused) (defScope s_l_refused) .none kV33 dc33 pm33 an33 cd33 ct33), sl33⟩) (c33 : PySem.W.codeIn K cd33 "_law_refused" = true) (k33 : PySem.W.keepIn K (.ref f33) = true) {cc33 P33 : Addr} {ce33 : Value} {cz33 : Option Addr} {cv33 : Array Value} {cw33 : Array (Option Value)} (r33 : cd33 = .ref cc33) (w33 : K.lookup cc33 = some ⟨ce33, cz33, .fields cv33, cw33⟩) (x33 : cv33[11]? = some (.ref P33)) (h33 : PySem.W.codeHdIn [(cc33, (⟨ce33, cz33, .fields cv33, cw33⟩ : Obj))] cc33 P33 = true) (n33 : K.lookup P33 = none)
    (a34 : PySem.W.nsIn K mainGlobals "_law_same_row" = some (some (.ref f34))) (l34 : K.lookup f34 = some ⟨oc34, od34, .func (PySem.W.fnOf "_law_same_row" "_law_same_row" (defArgs s_l_same_row) (defBody s_l_same_row) (defScope s_l_same_row) .none kV34 dc34 pm34 an34 cd34 ct34), sl34⟩) (c34 : PySem.W.codeIn K cd34 "_law_same_row" = true) (k34 : PySem.W.keepIn K (.ref f34) = true)
    (a35 : PySem.W.nsIn K mainGlobals "_law_state" = some (some (.ref f35))) (l35 : K.lookup f35 = some ⟨oc35, od35, .func (PySem.W.fnOf "_law_state" "_law_state" (defArgs s_l_state) (defBody s_l_state) (defScope s_l_state) .none kV35 dc35 pm35 an35 cd35 ct35), sl35⟩) (c35 : PySem.W.codeIn K cd35 "_law_state" = true) (k35 : PySem.W.keepIn K (.ref f35) = true)
    (a36 : PySem.W.nsIn K mainGlobals "_law_too_long" = some (some (.ref f36))) (l36 : K.lookup f36 = some ⟨oc36, od36, .func (PySem.W.fnOf "_law_too_long" "_law_too_long" (defArgs s_l_too_long) (defBody s_l_too_long) (defScope s_l_too_long) .none kV36 dc36 pm36 an36 cd36 ct36), sl36⟩) (c36 : PySem.W.codeIn K cd36 "_law_too_long" = true) (k36 : PySem.W.keepIn K (.ref f36) = true)
    (a37 : PySem.W.nsIn K mainGlobals "law" = some (some (.ref f37))) (l37 : K.lookup f37 = some ⟨oc37, od37, .func (PySem.W.fnOf "law" "law" (defArgs s_law) (defBody s_law) (defScope s_law) .none kV37 dc37 pm37 an37 cd37 ct37), sl37⟩) (c37 : PySem.W.codeIn K cd37 "law" = true) (k37 : PySem.W.keepIn K (.ref f37) = true)
    (z_ValueError : PySem.W.nsIn K mainGlobals "ValueError" = some none) (z_all : PySem.W.nsIn K mainGlobals "all" = some none) (z_bool : PySem.W.nsIn K mainGlobals "bool" = some none) (z_enumerate : PySem.W.nsIn K mainGlobals "enumerate" = some none) (z_int : PySem.W.nsIn K mainGlobals "int" = some none) (z_isinstance : PySem.W.nsIn K mainGlobals "isinstance" = some none) (z_len : PySem.W.nsIn K mainGlobals "len" = some none) (z_range : PySem.W.nsIn K mainGlobals "range" = some none) (z_str : PySem.W.nsIn K mainGlobals "str" = some none) (z_tuple : PySem.W.nsIn K mainGlobals "tuple" = some none) {t_BYTE : Tok} (y_BYTE : PySem.W.nsIn K mainGlobals "BYTE" = some (some (.int 8 t_BYTE))) {t_GREATEST : Tok} (y_GREATEST : PySem.W.nsIn K mainGlobals "GREATEST" = some (some (.int 131071 t_GREATEST))) {t_LEAST : Tok} (y_LEAST : PySem.W.nsIn K mainGlobals "LEAST" = some (some (.int 3 t_LEAST))) {t_MOST_BITS : Tok} (y_MOST_BITS : PySem.W.nsIn K mainGlobals "MOST_BITS" = some (some (.int 8000 t_MOST_BITS))) {t_MOST_BYTE : Tok} (y_MOST_BYTE : PySem.W.nsIn K mainGlobals "MOST_BYTE" = some (some (.int 255 t_MOST_BYTE))) {t_MOST_DATA : Tok} (y_MOST_DATA : PySem.W.nsIn K mainGlobals "MOST_DATA" = some (some (.int 1000 t_MOST_DATA))) {t_ONES : Tok} (y_ONES : PySem.W.nsIn K mainGlobals "ONES" = some (some (.int 5 t_ONES))) (e_NoBits : PySem.W.excIn K ca_NoBits [.type "ValueError", .type "Exception", .type "BaseException", .type "object"] "ValueError.__new__" = true) (k_NoBits : PySem.W.keepIn K (.ref ca_NoBits) = true) (b_NoBits : PySem.W.subIn K (.ref ca_NoBits) (.type "BaseException") = some true) (t_NoBits : PySem.W.typeIn K (.ref ca_NoBits) = some (.type "type")) (e_NoCode : PySem.W.excIn K ca_NoCode [.type "ValueError", .type "Exception", .type "BaseException", .type "object"] "ValueError.__new__" = true) (k_NoCode : PySem.W.keepIn K (.ref ca_NoCode) = true) (b_NoCode : PySem.W.subIn K (.ref ca_NoCode) (.type "BaseException") = some true) (t_NoCode : PySem.W.typeIn K (.ref ca_NoCode) = some (.type "type")) (e_NoData : PySem.W.excIn K ca_NoData [.type "ValueError", .type "Exception", .type "BaseException", .type "object"] "ValueError.__new__" = true) (k_NoData : PySem.W.keepIn K (.ref ca_NoData) = true) (b_NoData : PySem.W.subIn K (.ref ca_NoData) (.type "BaseException") = some true) (t_NoData : PySem.W.typeIn K (.ref ca_NoData) = some (.type "type")) (e_NoNumber : PySem.W.excIn K ca_NoNumber [.type "ValueError", .type "Exception", .type "BaseException", .type "object"] "ValueError.__new__" = true) (k_NoNumber : PySem.W.keepIn K (.ref ca_NoNumber) = true) (b_NoNumber : PySem.W.subIn K (.ref ca_NoNumber) (.type "BaseException") = some true) (t_NoNumber : PySem.W.typeIn K (.ref ca_NoNumber) = some (.type "type")) (mm_WireError_NoBits : PySem.W.exmOne K (.ref ca_NoBits) (.ref ca_WireError) = some true) (mm_WireError_NoCode : PySem.W.exmOne K (.ref ca_NoCode) (.ref ca_WireError) = some true) (mm_WireError_NoData : PySem.W.exmOne K (.ref ca_NoData) (.ref ca_WireError) = some true) (mm_WireError_NoNumber : PySem.W.exmOne K (.ref ca_NoNumber) (.ref ca_WireError) = some true) (cl_Reader : Cls K ca_Reader) (mk_Reader : PySem.W.makesIn K ca_Reader = true) (kc_Reader : PySem.W.keepIn K (.ref ca_Reader) = true) (n_Reader_check_bits : PySem.W.findIn K (.ref ca_Reader) "check_bits" = some none) (n_Reader_divisor : PySem.W.findIn K (.ref ca_Reader) "divisor" = some none) (n_Reader_latest : PySem.W.findIn K (.ref ca_Reader) "latest" = some none) (n_Reader_since_flag : PySem.W.findIn K (.ref ca_Reader) "since_flag" = some none) (in_Reader : DL.InC K ca_Reader) (x_NoBits : ExcC K ca_NoBits) (x_NoCode : ExcC K ca_NoCode) (x_NoData : ExcC K ca_NoData) (x_NoNumber : ExcC K ca_NoNumber) (i_Reader_NoBits : PySem.W.kitOne K (.ref ca_Reader) (.ref ca_NoBits) = some false) (i_Reader_NoCode : PySem.W.kitOne K (.ref ca_Reader) (.ref ca_NoCode) = some false) (i_Reader_NoData : PySem.W.kitOne K (.ref ca_Reader) (.ref ca_NoData) = some false) (i_Reader_NoNumber : PySem.W.kitOne K (.ref ca_Reader) (.ref ca_NoNumber) = some false) (i_Reader_NoPacket : PySem.W.kitOne K (.ref ca_Reader) (.ref ca_NoPacket) = some false) (i_Reader_NoPlace : PySem.W.kitOne K (.ref ca_Reader) (.ref ca_NoPlace) = some false) (i_Reader_NoText : PySem.W.kitOne K (.ref ca_Reader) (.ref ca_NoText) = some false) (i_Reader_NoTick : PySem.W.kitOne K (.ref ca_Reader) (.ref ca_NoTick) = some false) (i_Reader_ValueError : PySem.W.kitOne K (.ref ca_Reader) (.type "ValueError") = some false) (i_Reader_bool : PySem.W.kitOne K (.ref ca_Reader) (.type "bool") = some false) (i_Reader_int : PySem.W.kitOne K (.ref ca_Reader) (.type "int") = some false) (i_Reader_tuple : PySem.W.kitOne K (.ref ca_Reader) (.type "tuple") = some false) (i_NoBits_NoBits : PySem.W.kitOne K (.ref ca_NoBits) (.ref ca_NoBits) = some true) (i_NoBits_NoCode : PySem.W.kitOne K (.ref ca_NoBits) (.ref ca_NoCode) = some false) (i_NoBits_NoData : PySem.W.kitOne K (.ref ca_NoBits) (.ref ca_NoData) = some false) (i_NoBits_NoNumber : PySem.W.kitOne K (.ref ca_NoBits) (.ref ca_NoNumber) = some false) (i_NoBits_NoPacket : PySem.W.kitOne K (.ref ca_NoBits) (.ref ca_NoPacket) = some false) (i_NoBits_NoPlace : PySem.W.kitOne K (.ref ca_NoBits) (.ref ca_NoPlace) = some false) (i_NoBits_NoText : PySem.W.kitOne K (.ref ca_NoBits) (.ref ca_NoText) = some false) (i_NoBits_NoTick : PySem.W.kitOne K (.ref ca_NoBits) (.ref ca_NoTick) = some false) (i_NoBits_ValueError : PySem.W.kitOne K (.ref ca_NoBits) (.type "ValueError") = some true) (i_NoBits_bool : PySem.W.kitOne K (.ref ca_NoBits) (.type "bool") = some false) (i_NoBits_int : PySem.W.kitOne K (.ref ca_NoBits) (.type "int") = some false) (i_NoBits_tuple : PySem.W.kitOne K (.ref ca_NoBits) (.type "tuple") = some false) (i_NoCode_NoBits : PySem.W.kitOne K (.ref ca_NoCode) (.ref ca_NoBits) = some false) (i_NoCode_NoCode : PySem.W.kitOne K (.ref ca_NoCode) (.ref ca_NoCode) = some true) (i_NoCode_NoData : PySem.W.kitOne K (.ref ca_NoCode) (.ref ca_NoData) = some false) (i_NoCode_NoNumber : PySem.W.kitOne K (.ref ca_NoCode) (.ref ca_NoNumber) = some false) (i_NoCode_NoPacket : PySem.W.kitOne K (.ref ca_NoCode) (.ref ca_NoPacket) = some false) (i_NoCode_NoPlace : PySem.W.kitOne K (.ref ca_NoCode) (.ref ca_NoPlace) = some false) (i_NoCode_NoText : PySem.W.kitOne K (.ref ca_NoCode) (.ref ca_NoText) = some false) (i_NoCode_NoTick : PySem.W.kitOne K (.ref ca_NoCode) (.ref ca_NoTick) = some false) (i_NoCode_ValueError : PySem.W.kitOne K (.ref ca_NoCode) (.type "ValueError") = some true) (i_NoCode_bool : PySem.W.kitOne K (.ref ca_NoCode) (.type "bool") = some false) (i_NoCode_int : PySem.W.kitOne K (.ref ca_NoCode) (.type "int") = some false) (i_NoCode_tuple : PySem.W.kitOne K (.ref ca_NoCode) (.type "tuple") = some false) (i_NoData_NoBits : PySem.W.kitOne K (.ref ca_NoData) (.ref ca_NoBits) = some false) (i_NoData_NoCode : PySem.W.kitOne K (.ref ca_NoData) (.ref ca_NoCode) = some false) (i_NoData_NoData : PySem.W.kitOne K (.ref ca_NoData) (.ref ca_NoData) = some true) (i_NoData_NoNumber : PySem.W.kitOne K (.ref ca_NoData) (.ref ca_NoNumber) = some false) (i_NoData_NoPacket : PySem.W.kitOne K (.ref ca_NoData) (.ref ca_NoPacket) = some false) (i_NoData_NoPlace : PySem.W.kitOne K (.ref ca_NoData) (.ref ca_NoPlace) = some false) (i_NoData_NoText : PySem.W.kitOne K (.ref ca_NoData) (.ref ca_NoText) = some false) (i_NoData_NoTick : PySem.W.kitOne K (.ref ca_NoData) (.ref ca_NoTick) = some false) (i_NoData_ValueError : PySem.W.kitOne K (.ref ca_NoData) (.type "ValueError") = some true) (i_NoData_bool : PySem.W.kitOne K (.ref ca_NoData) (.type "bool") = some false) (i_NoData_int : PySem.W.kitOne K (.ref ca_NoData) (.type "int") = some false) (i_NoData_tuple : PySem.W.kitOne K (.ref ca_NoData) (.type "tuple") = some false) (i_NoNumber_NoBits : PySem.W.kitOne K (.ref ca_NoNumber) (.ref ca_NoBits) = some false) (i_NoNumber_NoCode : PySem.W.kitOne K (.ref ca_NoNumber) (.ref ca_NoCode) = some false) (i_NoNumber_NoData : PySem.W.kitOne K (.ref ca_NoNumber) (.ref ca_NoData) = some false) (i_NoNumber_NoNumber : PySem.W.kitOne K (.ref ca_NoNumber) (.ref ca_NoNumber) = some true) (i_NoNumber_NoPacket : PySem.W.kitOne K (.ref ca_NoNumber) (.ref ca_NoPacket) = some false) (i_NoNumber_NoPlace : PySem.W.kitOne K (.ref ca_NoNumber) (.ref ca_NoPlace) = some false) (i_NoNumber_NoText : PySem.W.kitOne K (.ref ca_NoNumber) (.ref ca_NoText) = some false) (i_NoNumber_NoTick : PySem.W.kitOne K (.ref ca_NoNumber) (.ref ca_NoTick) = some false) (i_NoNumber_ValueError : PySem.W.kitOne K (.ref ca_NoNumber) (.type "ValueError") = some true) (i_NoNumber_bool : PySem.W.kitOne K (.ref ca_NoNumber) (.type "bool") = some false) (i_NoNumber_int : PySem.W.kitOne K (.ref ca_NoNumber) (.type "int") = some false) (i_NoNumber_tuple : PySem.W.kitOne K (.ref ca_NoNumber) (.type "tuple") = some false) (kt_FLAG : KTpl K ca_FLAG [0, 1, 1, 1, 1, 1, 1, 0]) (d_25_33 : P25 ≠ P33) :
    ∃ (fd : FuncData) (cs : List (Addr × Addr)), (∀ p ∈ cs, h.get? p.2 = some { cls := .none, data := .fields #[] }) ∧ (∀ p ∈ cs, K.lookup p.2 = none) ∧ (∀ p ∈ cs, PySem.W.CodeHd h p.1 p.2) ∧ (∀ (s : Shared) (v : Value), BindsTo s fd ⟨[v], []⟩ [("_law_script", v)]) ∧ ∀ base : Heap, K.In base → base.Ns mainGlobals mg → (∀ p ∈ cs, LamX.TabB base mg p.1 p.2) → FnOk l.prog w K mg base CX0 12 fa fd ["_law_script"] (spLaw K cs) := by
  have e := hfa.symm.trans (PySem.W.mg_of X G a37)
  cases e
  obtain ⟨ca, hT, q_FLAG, q_NoBits, q_NoCode, q_NoData, q_NoNumber, q_NoPacket, q_NoPlace, q_NoText, q_NoTick, q_Reader, q_WireError⟩ : ∃ ca : CaT, ca.T = [(P25, ("_law_read_on.<locals>.<lambda>" : Str)), (P33, ("_law_refused.<locals>.<lambda>" : Str))] ∧ ca "FLAG" = ca_FLAG ∧ ca "NoBits" = ca_NoBits ∧ ca "NoCode" = ca_NoCode ∧ ca "NoData" = ca_NoData ∧ ca "NoNumber" = ca_NoNumber ∧ ca "NoPacket" = ca_NoPacket ∧ ca "NoPlace" = ca_NoPlace ∧ ca "NoText" = ca_NoText ∧ ca "NoTick" = ca_NoTick ∧ ca "Reader" = ca_Reader ∧ ca "WireError" = ca_WireError := ⟨⟨fun x => if x = "FLAG" then ca_FLAG else if x = "NoBits" then ca_NoBits else if x = "NoCode" then ca_NoCode else if x = "NoData" then ca_NoData else if x = "NoNumber" then ca_NoNumber else if x = "NoPacket" then ca_NoPacket else if x = "NoPlace" then ca_NoPlace else if x = "NoText" then ca_NoText else if x = "NoTick" then ca_NoTick else if x = "Reader" then ca_Reader else if x = "WireError" then ca_WireError else 0, [(P25, ("_law_read_on.<locals>.<lambda>" : Str)), (P33, ("_law_refused.<locals>.<lambda>" : Str))]⟩, rfl, by simp, by simp, by simp, by simp, by simp, by simp, by simp, by simp, by simp, by simp, by simp⟩
  subst q_FLAG q_NoBits q_NoCode q_NoData q_NoNumber q_NoPacket q_NoPlace q_NoText q_NoTick q_Reader q_WireError
  have T : Txt K mg ca := ⟨PySem.W.mg_of X G g_FLAG, PySem.W.mg_of X G g_NoBits, PySem.W.mg_of X G g_NoCode, PySem.W.mg_of X G g_NoData, PySem.W.mg_of X G g_NoNumber, PySem.W.mg_of X G g_NoPacket, PySem.W.mg_of X G g_NoPlace, PySem.W.mg_of X G g_NoText, PySem.W.mg_of X G g_NoTick, PySem.W.mg_of X G g_Reader, PySem.W.mg_of X G g_WireError, e_NoBits, k_NoBits, b_NoBits, t_NoBits, e_NoCode, k_NoCode, b_NoCode, t_NoCode, e_NoData, k_NoData, b_NoData, t_NoData, e_NoNumber, k_NoNumber, b_NoNumber, t_NoNumber, ⟨mm_WireError_NoBits, mm_WireError_NoCode, mm_WireError_NoData, mm_WireError_NoNumber, trivial⟩, cl_Reader, mk_Reader, kc_Reader, n_Reader_check_bits, n_Reader_divisor, n_Reader_latest, n_Reader_since_flag, ⟨⟨in_Reader, by decide⟩, trivial⟩, ⟨⟨x_NoBits, by decide⟩, ⟨x_NoCode, by decide⟩, ⟨x_NoData, by decide⟩, ⟨x_NoNumber, by decide⟩, trivial⟩, (by unfold tb_; exact .cons (by simpa [vOf, btn] using i_Reader_NoBits) (.cons (by simpa [vOf, btn] using i_Reader_NoCode) (.cons (by simpa [vOf, btn] using i_Reader_NoData) (.cons (by simpa [vOf, btn] using i_Reader_NoNumber) (.cons (by simpa [vOf, btn] using i_Reader_NoPacket) (.cons (by simpa [vOf, btn] using i_Reader_NoPlace) (.cons (by simpa [vOf, btn] using i_Reader_NoText) (.cons (by simpa [vOf, btn] using i_Reader_NoTick) (.cons (by simpa [vOf, btn] using i_Reader_ValueError) (.cons (by simpa [vOf, btn] using i_Reader_bool) (.cons (by simpa [vOf, btn] using i_Reader_int) (.cons (by simpa [vOf, btn] using i_Reader_tuple) (.cons (by simpa [vOf, btn] using i_NoBits_NoBits) (.cons (by simpa [vOf, btn] using i_NoBits_NoCode) (.cons (by simpa [vOf, btn] using i_NoBits_NoData) (.cons (by simpa [vOf, btn] using i_NoBits_NoNumber) (.cons (by simpa [vOf, btn] using i_NoBits_NoPacket) (.cons (by simpa [vOf, btn] using i_NoBits_NoPlace) (.cons (by simpa [vOf, btn] using i_NoBits_NoText) (.cons (by simpa [vOf, btn] using i_NoBits_NoTick) (.cons (by simpa [vOf, btn] using i_NoBits_ValueError) (.cons (by simpa [vOf, btn] using i_NoBits_bool) (.cons (by simpa [vOf, btn] using i_NoBits_int) (.cons (by simpa [vOf, btn] using i_NoBits_tuple) (.cons (by simpa [vOf, btn] using i_NoCode_NoBits) (.cons (by simpa [vOf, btn] using i_NoCode_NoCode) (.cons (by simpa [vOf, btn] using i_NoCode_NoData) (.cons (by simpa [vOf, btn] using i_NoCode_NoNumber) (.cons (by simpa [vOf, btn] using i_NoCode_NoPacket) (.cons (by simpa [vOf, btn] using i_NoCode_NoPlace) (.cons (by simpa [vOf, btn] using i_NoCode_NoText) (.cons (by simpa [vOf, btn] using i_NoCode_NoTick) (.cons (by simpa [vOf, btn] using i_NoCode_ValueError) (.cons (by simpa [vOf, btn] using i_NoCode_bool) (.cons (by simpa [vOf, btn] using i_NoCode_int) (.cons (by simpa [vOf, btn] using i_NoCode_tuple) (.cons (by simpa [vOf, btn] using i_NoData_NoBits) (.cons (by simpa [vOf, btn] using i_NoData_NoCode) (.cons (by simpa [vOf, btn] using i_NoData_NoData) (.cons (by simpa [vOf, btn] using i_NoData_NoNumber) (.cons (by simpa [vOf, btn] using i_NoData_NoPacket) (.cons (by simpa [vOf, btn] using i_NoData_NoPlace) (.cons (by simpa [vOf, btn] using i_NoData_NoText) (.cons (by simpa [vOf, btn] using i_NoData_NoTick) (.cons (by simpa [vOf, btn] using i_NoData_ValueError) (.cons (by simpa [vOf, btn] using i_NoData_bool) (.cons (by simpa [vOf, btn] using i_NoData_int) (.cons (by simpa [vOf, btn] using i_NoData_tuple) (.cons (by simpa [vOf, btn] using i_NoNumber_NoBits) (.cons (by simpa [vOf, btn] using i_NoNumber_NoCode) (.cons (by simpa [vOf, btn] using i_NoNumber_NoData) (.cons (by simpa [vOf, btn] using i_NoNumber_NoNumber) (.cons (by simpa [vOf, btn] using i_NoNumber_NoPacket) (.cons (by simpa [vOf, btn] using i_NoNumber_NoPlace) (.cons (by simpa [vOf, btn] using i_NoNumber_NoText) (.cons (by simpa [vOf, btn] using i_NoNumber_NoTick) (.cons (by simpa [vOf, btn] using i_NoNumber_ValueError) (.cons (by simpa [vOf, btn] using i_NoNumber_bool) (.cons (by simpa [vOf, btn] using i_NoNumber_int) (.cons (by simpa [vOf, btn] using i_NoNumber_tuple) (.nil))))))))))))))))))))))))))))))))))))))))))))))))))))))))))))), KTpl.rep kt_FLAG, PySem.W.mg_none_of X G z_ValueError, PySem.W.mg_none_of X G z_all, PySem.W.mg_none_of X G z_bool, PySem.W.mg_none_of X G z_enumerate, PySem.W.mg_none_of X G z_int, PySem.W.mg_none_of X G z_isinstance, PySem.W.mg_none_of X G z_len, PySem.W.mg_none_of X G z_range, PySem.W.mg_none_of X G z_str, PySem.W.mg_none_of X G z_tuple, ⟨_, PySem.W.mg_of X G y_BYTE⟩, ⟨_, PySem.W.mg_of X G y_GREATEST⟩, ⟨_, PySem.W.mg_of X G y_LEAST⟩, ⟨_, PySem.W.mg_of X G y_MOST_BITS⟩, ⟨_, PySem.W.mg_of X G y_MOST_BYTE⟩, ⟨_, PySem.W.mg_of X G y_MOST_DATA⟩, ⟨_, PySem.W.mg_of X G y_ONES⟩, True.intro⟩
  have F0 := fun_mk (st := s_l_next) l0 c0 k0
  have b0 := F0.binds (ps := ["_law_state_here", "_law_size"]) fun _ _ _ _ _ _ us hl => match us, hl with | [_, _], _ => rfl
  have F1 := fun_mk (st := s_l_code) l1 c1 k1
  have b1 := F1.binds (ps := ["_law_state_here"]) fun _ _ _ _ _ _ us hl => match us, hl with | [_], _ => rfl
  have F2 := fun_mk (st := s_l_data) l2 c2 k2
  have b2 := F2.binds (ps := ["_law_state_here", "_law_most"]) fun _ _ _ _ _ _ us hl => match us, hl with | [_, _], _ => rfl
  have F3 := fun_mk (st := s_l_rest) l3 c3 k3
  have b3 := F3.binds (ps := ["_law_bits", "_law_code_here"]) fun _ _ _ _ _ _ us hl => match us, hl with | [_, _], _ => rfl
  have F4 := fun_mk (st := s_l_coded) l4 c4 k4
  have b4 := F4.binds (ps := ["_law_bits", "_law_code_here"]) fun _ _ _ _ _ _ us hl => match us, hl with | [_, _], _ => rfl
  have F5 := fun_mk (st := s_l_of_bytes) l5 c5 k5
  have b5 := F5.binds (ps := ["_law_data_here"]) fun _ _ _ _ _ _ us hl => match us, hl with | [_], _ => rfl
  have F6 := fun_mk (st := s_l_stuffed) l6 c6 k6
  have b6 := F6.binds (ps := ["_law_bits"]) fun _ _ _ _ _ _ us hl => match us, hl with | [_], _ => rfl
  have F7 := fun_mk (st := s_l_framed) l7 c7 k7
  have b7 := F7.binds (ps := ["_law_data_here", "_law_code_here"]) fun _ _ _ _ _ _ us hl => match us, hl with | [_, _], _ => rfl
  have F8 := fun_mk (st := s_need_code) l8 c8 k8
  have b8 := F8.binds (ps := ["code"]) fun _ _ _ _ _ _ us hl => match us, hl with | [_], _ => rfl
  have F9 := fun_mk (st := s_width) l9 c9 k9
  have b9 := F9.binds (ps := ["code"]) fun _ _ _ _ _ _ us hl => match us, hl with | [_], _ => rfl
  have F10 := fun_mk (st := s_Reader___init__) l10 c10 k10
  have b10 := F10.binds (ps := ["self", "code"]) fun _ _ _ _ _ _ us hl => match us, hl with | [_, _], _ => rfl
  have F11 := fun_mk (st := s_gathered) l11 c11 k11
  have b11 := F11.binds (ps := ["bits"]) fun _ _ _ _ _ _ us hl => match us, hl with | [_], _ => rfl
  have F12 := fun_mk (st := s_is_whole) l12 c12 k12
  have b12 := F12.binds (ps := ["thing", "least", "most"]) fun _ _ _ _ _ _ us hl => match us, hl with | [_, _, _], _ => rfl
  have F13 := fun_mk (st := s_is_bits) l13 c13 k13
  have b13 := F13.binds (ps := ["thing"]) fun _ _ _ _ _ _ us hl => match us, hl with | [_], _ => rfl
  have F14 := fun_mk (st := s_data_of) l14 c14 k14
  have b14 := F14.binds (ps := ["bits"]) fun _ _ _ _ _ _ us hl => match us, hl with | [_], _ => rfl
  have F15 := fun_mk (st := s_divided) l15 c15 k15
  have b15 := F15.binds (ps := ["number", "code"]) fun _ _ _ _ _ _ us hl => match us, hl with | [_, _], _ => rfl
  have F16 := fun_mk (st := s_number_of) l16 c16 k16
  have b16 := F16.binds (ps := ["bits"]) fun _ _ _ _ _ _ us hl => match us, hl with | [_], _ => rfl
  have F17 := fun_mk (st := s_number_by) l17 c17 k17
  have b17 := F17.binds (ps := ["bits"]) fun _ _ _ _ _ _ us hl => match us, hl with | [_], _ => rfl
  have F18 := fun_mk (st := s_is_right) l18 c18 k18
  have b18 := F18.binds (ps := ["bits", "code"]) fun _ _ _ _ _ _ us hl => match us, hl with | [_, _], _ => rfl
  have F19 := fun_mk (st := s_need_bits) l19 c19 k19
  have b19 := F19.binds (ps := ["thing"]) fun _ _ _ _ _ _ us hl => match us, hl with | [_], _ => rfl
  have F20 := fun_mk (st := s_plain) l20 c20 k20
  have b20 := F20.binds (ps := ["bits"]) fun _ _ _ _ _ _ us hl => match us, hl with | [_], _ => rfl
  have F21 := fun_mk (st := s_Reader_frame_there) l21 c21 k21
  have b21 := F21.binds (ps := ["self"]) fun _ _ _ _ _ _ us hl => match us, hl with | [_], _ => rfl
  have F22 := fun_mk (st := s_Reader_take) l22 c22 k22
  have b22 := F22.binds (ps := ["self", "bits"]) fun _ _ _ _ _ _ us hl => match us, hl with | [_, _], _ => rfl
  have F23 := fun_mk (st := s_l_kinds) l23 c23 k23
  have b23 := F23.binds (ps := ["_law_e"]) fun _ _ _ _ _ _ us hl => match us, hl with | [_], _ => rfl
  have F24 := fun_mk (st := s_l_tried) l24 c24 k24
  have b24 := F24.binds (ps := ["_law_work"]) fun _ _ _ _ _ _ us hl => match us, hl with | [_], _ => rfl
  have F25 := fun_mk (st := s_l_read_on) l25 c25 k25
  have b25 := F25.binds (ps := ["_law_state_here", "_law_data_here", "_law_code_here"]) fun _ _ _ _ _ _ us hl => match us, hl with | [_, _, _], _ => rfl
  have F26 := fun_mk (st := s_is_data) l26 c26 k26
  have b26 := F26.binds (ps := ["thing"]) fun _ _ _ _ _ _ us hl => match us, hl with | [_], _ => rfl
  have F27 := fun_mk (st := s_spread) l27 c27 k27
  have b27 := F27.binds (ps := ["number", "many"]) fun _ _ _ _ _ _ us hl => match us, hl with | [_, _], _ => rfl
  have F28 := fun_mk (st := s_bits_of) l28 c28 k28
  have b28 := F28.binds (ps := ["data"]) fun _ _ _ _ _ _ us hl => match us, hl with | [_], _ => rfl
  have F29 := fun_mk (st := s_bits_by) l29 c29 k29
  have b29 := F29.binds (ps := ["number", "many"]) fun _ _ _ _ _ _ us hl => match us, hl with | [_, _], _ => rfl
  have F30 := fun_mk (st := s_coded) l30 c30 k30
  have b30 := F30.binds (ps := ["bits", "code"]) fun _ _ _ _ _ _ us hl => match us, hl with | [_, _], _ => rfl
  have F31 := fun_mk (st := s_stuffed) l31 c31 k31
  have b31 := F31.binds (ps := ["bits"]) fun _ _ _ _ _ _ us hl => match us, hl with | [_], _ => rfl
  have F32 := fun_mk (st := s_framed) l32 c32 k32
  have b32 := F32.binds (ps := ["data", "code"]) fun _ _ _ _ _ _ us hl => match us, hl with | [_, _], _ => rfl
  have F33 := fun_mk (st := s_l_refused) l33 c33 k33
  have b33 := F33.binds (ps := ["_law_state_here", "_law_data_here", "_law_code_here"]) fun _ _ _ _ _ _ us hl => match us, hl with | [_, _, _], _ => rfl
  have F34 := fun_mk (st := s_l_same_row) l34 c34 k34
  have b34 := F34.binds (ps := ["_law_found", "_law_due"]) fun _ _ _ _ _ _ us hl => match us, hl with | [_, _], _ => rfl
  have F35 := fun_mk (st := s_l_state) l35 c35 k35
  have b35 := F35.binds (ps := ["_law_cell", "_law_k"]) fun _ _ _ _ _ _ us hl => match us, hl with | [_, _], _ => rfl
  have F36 := fun_mk (st := s_l_too_long) l36 c36 k36
  have b36 := F36.binds (ps := ["_law_data_here", "_law_code_here"]) fun _ _ _ _ _ _ us hl => match us, hl with | [_, _], _ => rfl
  have F37 := fun_mk (st := s_law) l37 c37 k37
  have b37 := F37.binds (ps := ["_law_script"]) fun _ _ _ _ _ _ us hl => match us, hl with | [_], _ => rfl
  refine ⟨PySem.W.fnOf "law" "law" (defArgs s_law) (defBody s_law) (defScope s_law) .none kV37 dc37 pm37 an37 cd37 ct37, [(cc25, P25), (cc33, P33)], ?_, ?_, ?_, fun s v => .of_eq rfl, fun base _ _ hTB => ?_⟩
  · intro p hp
    simp only [List.mem_cons, List.not_mem_nil, or_false] at hp; rcases hp with rfl | rfl
    · exact OT "_law_read_on" (by simp) _ (PySem.W.mg_of X G a25) cc25 P25 _ _ _ _ _ _ l25 rfl r25 w25 x25
    · exact OT "_law_refused" (by simp) _ (PySem.W.mg_of X G a33) cc33 P33 _ _ _ _ _ _ l33 rfl r33 w33 x33
  · intro p hp
    simp only [List.mem_cons, List.not_mem_nil, or_false] at hp; rcases hp with rfl | rfl
    · exact n25
    · exact n33
  · intro p hp
    simp only [List.mem_cons, List.not_mem_nil, or_false] at hp; rcases hp with rfl | rfl
    · exact codeHd1 X w25 h25
    · exact codeHd1 X w33 h33
  have TBL25 : ∀ {kV dc pm : Value} {an : Option Addr} {ct : Value}, TbD base mg ca (PySem.W.fnOf "_law_read_on" "_law_read_on" (defArgs s_l_read_on) (defBody s_l_read_on) (defScope s_l_read_on) .none kV dc pm an cd25 ct) "_law_read_on.<locals>.<lambda>" := fun {_ _ _ _ _} => ⟨cc25, P25, r25, hTB (cc25, P25) (by simp), (by rw [hT]; simp), (by rw [hT]; intro p hp e; simp only [List.mem_cons, List.not_mem_nil, or_false] at hp; rcases hp with rfl | rfl <;> first | rfl | exact absurd e d_25_33 | exact absurd e d_25_33.symm)⟩
  have TBL33 : ∀ {kV dc pm : Value} {an : Option Addr} {ct : Value}, TbD base mg ca (PySem.W.fnOf "_law_refused" "_law_refused" (defArgs s_l_refused) (defBody s_l_refused) (defScope s_l_refused) .none kV dc pm an cd33 ct) "_law_refused.<locals>.<lambda>" := fun {_ _ _ _ _} => ⟨cc33, P33, r33, hTB (cc33, P33) (by simp), (by rw [hT]; simp), (by rw [hT]; intro p hp e; simp only [List.mem_cons, List.not_mem_nil, or_false] at hp; rcases hp with rfl | rfl <;> first | rfl | exact absurd e d_25_33 | exact absurd e d_25_33.symm)⟩
  have C_l_next := Dx.of2 (ok_l_next (P := l.prog) (w := w) (mg := mg) (base := base) T F0 ) F0 (PySem.W.mg_of X G a0) b0
  have C_l_code := Dx.of2 (ok_l_code (P := l.prog) (w := w) (mg := mg) (base := base) T F1 C_l_next) F1 (PySem.W.mg_of X G a1) b1
  have C_l_data := Dx.of2 (ok_l_data (P := l.prog) (w := w) (mg := mg) (base := base) T F2 C_l_next) F2 (PySem.W.mg_of X G a2) b2
  have C_l_rest := Dx.of2 (ok_l_rest (P := l.prog) (w := w) (mg := mg) (base := base) T F3 ) F3 (PySem.W.mg_of X G a3) b3
  have C_l_coded := Dx.of2 (ok_l_coded (P := l.prog) (w := w) (mg := mg) (base := base) T F4 C_l_rest) F4 (PySem.W.mg_of X G a4) b4
  have C_l_of_bytes := Dx.of2 (ok_l_of_bytes (P := l.prog) (w := w) (mg := mg) (base := base) T F5 ) F5 (PySem.W.mg_of X G a5) b5
  have C_l_stuffed := Dx.of2 (ok_l_stuffed (P := l.prog) (w := w) (mg := mg) (base := base) T F6 ) F6 (PySem.W.mg_of X G a6) b6
  have C_l_framed := Dx.of2 (ok_l_framed (P := l.prog) (w := w) (mg := mg) (base := base) T F7 C_l_coded C_l_of_bytes C_l_stuffed) F7 (PySem.W.mg_of X G a7) b7
  have C_need_code := Dx.of2 (ok_need_code (P := l.prog) (w := w) (mg := mg) (base := base) T F8 ) F8 (PySem.W.mg_of X G a8) b8
  have C_width := Dx.of2 (ok_width (P := l.prog) (w := w) (mg := mg) (base := base) T F9 C_need_code) F9 (PySem.W.mg_of X G a9) b9
  have M_Reader := Mx.of ⟨mk_Reader, a10, i10, kc_Reader⟩ (ok_Reader___init__ (P := l.prog) (w := w) (mg := mg) (base := base) T F10 C_width) (PySem.W.mg_of X G g_Reader) b10
  have C_gathered := Dx.of2 (ok_gathered (P := l.prog) (w := w) (mg := mg) (base := base) T F11 ) F11 (PySem.W.mg_of X G a11) b11
  have C_is_whole := Dx.of2 (ok_is_whole (P := l.prog) (w := w) (mg := mg) (base := base) T F12 ) F12 (PySem.W.mg_of X G a12) b12
  have C_is_bits := Dx.of2 (ok_is_bits (P := l.prog) (w := w) (mg := mg) (base := base) T F13 C_is_whole) F13 (PySem.W.mg_of X G a13) b13
  have C_data_of := Dx.of2 (ok_data_of (P := l.prog) (w := w) (mg := mg) (base := base) T F14 C_gathered C_is_bits) F14 (PySem.W.mg_of X G a14) b14
  have C_divided := Dx.of2 (ok_divided (P := l.prog) (w := w) (mg := mg) (base := base) T F15 ) F15 (PySem.W.mg_of X G a15) b15
  have C_number_of := Dx.of2 (ok_number_of (P := l.prog) (w := w) (mg := mg) (base := base) T F16 C_gathered C_is_bits) F16 (PySem.W.mg_of X G a16) b16
  have C_number_by := Dx.of2 (ok_number_by (P := l.prog) (w := w) (mg := mg) (base := base) T F17 C_is_bits C_number_of) F17 (PySem.W.mg_of X G a17) b17
  have C_is_right := Dx.of2 (ok_is_right (P := l.prog) (w := w) (mg := mg) (base := base) T F18 C_divided C_need_code C_number_by) F18 (PySem.W.mg_of X G a18) b18
  have C_need_bits := Dx.of2 (ok_need_bits (P := l.prog) (w := w) (mg := mg) (base := base) T F19 C_is_bits) F19 (PySem.W.mg_of X G a19) b19
  have C_plain := Dx.of2 (ok_plain (P := l.prog) (w := w) (mg := mg) (base := base) T F20 C_need_bits) F20 (PySem.W.mg_of X G a20) b20
  have M_Reader_frame_there := SM.Mt.of ⟨a21, i21, k21⟩ (ok_Reader_frame_there (P := l.prog) (w := w) (mg := mg) (base := base) T F21 C_data_of C_is_right C_plain) b21
  have M_Reader_take := SM.Mt.of ⟨a22, i22, k22⟩ (ok_Reader_take (P := l.prog) (w := w) (mg := mg) (base := base) T F22 M_Reader_frame_there C_need_bits) b22
  have C_l_kinds := Dx.of2 (ok_l_kinds (P := l.prog) (w := w) (mg := mg) (base := base) T F23 ) F23 (PySem.W.mg_of X G a23) b23
  have L_l_tried : LamD K mg "_law_tried" "_law_work" s_l_tried f24 _ := ⟨F24, b24, PySem.W.mg_of X G a24⟩
  have C_l_read_on := Dx.of2 (ok_l_read_on (P := l.prog) (w := w) (mg := mg) (base := base) T F25 M_Reader M_Reader_take C_l_framed C_l_next L_l_tried C_l_kinds TBL25) F25 (PySem.W.mg_of X G a25) b25
  have C_is_data := Dx.of2 (ok_is_data (P := l.prog) (w := w) (mg := mg) (base := base) T F26 C_is_whole) F26 (PySem.W.mg_of X G a26) b26
  have C_spread := Dx.of2 (ok_spread (P := l.prog) (w := w) (mg := mg) (base := base) T F27 ) F27 (PySem.W.mg_of X G a27) b27
  have C_bits_of := Dx.of2 (ok_bits_of (P := l.prog) (w := w) (mg := mg) (base := base) T F28 C_is_data C_spread) F28 (PySem.W.mg_of X G a28) b28
  have C_bits_by := Dx.of2 (ok_bits_by (P := l.prog) (w := w) (mg := mg) (base := base) T F29 C_spread) F29 (PySem.W.mg_of X G a29) b29
  have C_coded := Dx.of2 (ok_coded (P := l.prog) (w := w) (mg := mg) (base := base) T F30 C_bits_by C_divided C_need_code C_number_by C_width) F30 (PySem.W.mg_of X G a30) b30
  have C_stuffed := Dx.of2 (ok_stuffed (P := l.prog) (w := w) (mg := mg) (base := base) T F31 C_need_bits) F31 (PySem.W.mg_of X G a31) b31
  have C_framed := Dx.of2 (ok_framed (P := l.prog) (w := w) (mg := mg) (base := base) T F32 C_bits_of C_coded C_stuffed) F32 (PySem.W.mg_of X G a32) b32
  have C_l_refused := Dx.of2 (ok_l_refused (P := l.prog) (w := w) (mg := mg) (base := base) T F33 M_Reader C_l_next L_l_tried C_framed C_l_kinds TBL33) F33 (PySem.W.mg_of X G a33) b33
  have C_l_same_row := Dx.of2 (ok_l_same_row (P := l.prog) (w := w) (mg := mg) (base := base) T F34 ) F34 (PySem.W.mg_of X G a34) b34
  have C_l_state := Dx.of2 (ok_l_state (P := l.prog) (w := w) (mg := mg) (base := base) T F35 ) F35 (PySem.W.mg_of X G a35) b35
  have C_l_too_long := Dx.of2 (ok_l_too_long (P := l.prog) (w := w) (mg := mg) (base := base) T F36 M_Reader M_Reader_take C_l_framed) F36 (PySem.W.mg_of X G a36) b36
  exact (ok_law T F37 C_l_code C_l_data C_l_framed C_l_next C_l_read_on C_l_refused C_l_same_row C_l_state C_l_too_long C_framed).imp (law_imp (by rw [hT]; intro p hp; simp only [List.mem_cons, List.not_mem_nil, or_false] at hp; rcases hp with rfl | rfl <;> first | exact ⟨cc25, List.Mem.head _⟩ | exact ⟨cc33, List.Mem.tail _ (List.Mem.head _)⟩))
theorem walk {l : PySem.W.OpenLaw} {q : Program} {loose : List Str} {XP : (Str → Option Value) → Heap → Prop} {YP : World → Heap → Prop} {d : DefRec} {K : Params → PySem.W.Frag} (hn : l.most = some 63) (hdf : d.params.defaults = []) (hrec : ∀ y ∈ (["_law_read_on", "_law_refused"] : List Str), ((PyProof.Rows.recsOf q).any fun e => e.name == y) = true)
    (hY : ∀ (w : World) (h : Heap), YP w h → (K w.params).In h)
    (F : ∀ (w : World) (mg : Str → Option Value) (fa : Addr) (h : Heap), (K w.params).In h → h.Ns mainGlobals mg → mg d.name = some (.ref fa) → (∀ y ∈ (["_law_read_on", "_law_refused"] : List Str), ∀ g, mg y = some (.ref g) → LamX.OwnTab (K w.params) g h) →
      ∃ (fd : FuncData) (cs : List (Addr × Addr)), (∀ p ∈ cs, h.get? p.2 = some { cls := .none, data := .fields #[] }) ∧ (∀ p ∈ cs, (K w.params).lookup p.2 = none) ∧ (∀ p ∈ cs, PySem.W.CodeHd h p.1 p.2) ∧ (∀ (s : Shared) (u : Value), BindsTo s fd ⟨[u], []⟩ [("_law_script", u)]) ∧ ∀ base : Heap, (K w.params).In base → base.Ns mainGlobals mg → (∀ p ∈ cs, LamX.TabB base mg p.1 p.2) → FnOk l.prog w (K w.params) mg base CX0 12 fa fd ["_law_script"] (spLaw (K w.params) cs)) :
    PySem.W.WalkO q loose XP YP l.row.toRowW d [] (fun f vs => PySem.call f vs) :=
  SM.walk_tabs (n := 63) (k := 12) (x := "_law_script") (CX := fun _ => CX0) _ hn (by decide) hdf ⟨rfl, by decide, by decide⟩ hrec hY (fun w mg fa h Y KX G hmg OT => by
    obtain ⟨fd, cs, h1, h2, h3, h4, h5⟩ := F w mg fa h KX G hmg OT
    exact ⟨fd, cs, spLaw (K w.params) cs, h1, h2, h3, h4, fun H a ns hl _ hT hS => ⟨a, ns, rfl, hS, hl, hT, fun _ => rfl⟩, h5⟩) fun _ _ _ _ _ z => z
end Kk
open PySem PySem.W PyProof.Rows in
set_option maxRecDepth 100000 in
set_option maxHeartbeats 0 in
theorem PySem.Challenge.cw_surewire_k22_framed_and_refused_holds : PySem.Challenge.rw_surewire_k22_framed_and_refused.Holds := by
  w_on; o_law; k_head; (case hw => w_witness2)
  k_fill
  refine Kk.walk (l := PySem.Challenge.rw_surewire_k22_framed_and_refused) rfl rfl ?hrec (fun w h Y => PySem.W.km_in_of Y) ?F
  case hrec =>
    intro p hp
    simp only [List.mem_cons, List.not_mem_nil, or_false] at hp; rcases hp with rfl | rfl <;> decide +kernel
  case F =>
    intro w mg fa h KX G hmg OT
    refine' Kk.all_mk KX G hmg OT ?g_FLAG ?g_NoBits ?g_NoCode ?g_NoData ?g_NoNumber ?g_NoPacket ?g_NoPlace ?g_NoText ?g_NoTick ?g_Reader ?g_WireError ?a0 ?l0 ?c0 ?k0 ?a1 ?l1 ?c1 ?k1 ?a2 ?l2 ?c2 ?k2 ?a3 ?l3 ?c3 ?k3 ?a4 ?l4 ?c4 ?k4 ?a5 ?l5 ?c5 ?k5 ?a6 ?l6 ?c6 ?k6 ?a7 ?l7 ?c7 ?k7 ?a8 ?l8 ?c8 ?k8 ?a9 ?l9 ?c9 ?k9 ?a10 ?i10 ?l10 ?c10 ?k10 ?a11 ?l11 ?c11 ?k11 ?a12 ?l12 ?c12 ?k12 ?a13 ?l13 ?c13 ?k13 ?a14 ?l14 ?c14 ?k14 ?a15 ?l15 ?c15 ?k15 ?a16 ?l16 ?c16 ?k16 ?a17 ?l17 ?c17 ?k17 ?a18 ?l18 ?c18 ?k18 ?a19 ?l19 ?c19 ?k19 ?a20 ?l20 ?c20 ?k20 ?a21 ?i21 ?l21 ?c21 ?k21 ?a22 ?i22 ?l22 ?c22 ?k22 ?a23 ?l23 ?c23 ?k23 ?a24 ?l24 ?c24 ?k24 ?a25 ?l25 ?c25 ?k25 ?r25 ?w25 ?x25 ?h25 ?n25 ?a26 ?l26 ?c26 ?k26 ?a27 ?l27 ?c27 ?k27 ?a28 ?l28 ?c28 ?k28 ?a29 ?l29 ?c29 ?k29 ?a30 ?l30 ?c30 ?k30 ?a31 ?l31 ?c31 ?k31 ?a32 ?l32 ?c32 ?k32 ?a33 ?l33 ?c33 ?k33 ?r33 ?w33 ?x33 ?h33 ?n33 ?a34 ?l34 ?c34 ?k34 ?a35 ?l35 ?c35 ?k35 ?a36 ?l36 ?c36 ?k36 ?a37 ?l37 ?c37 ?k37 ?z_ValueError ?z_all ?z_bool ?z_enumerate ?z_int ?z_isinstance ?z_len ?z_range ?z_str ?z_tuple ?y_BYTE ?y_GREATEST ?y_LEAST ?y_MOST_BITS ?y_MOST_BYTE ?y_MOST_DATA ?y_ONES ?e_NoBits ?k_NoBits ?b_NoBits ?t_NoBits ?e_NoCode ?k_NoCode ?b_NoCode ?t_NoCode ?e_NoData ?k_NoData ?b_NoData ?t_NoData ?e_NoNumber ?k_NoNumber ?b_NoNumber ?t_NoNumber ?mm_WireError_NoBits ?mm_WireError_NoCode ?mm_WireError_NoData ?mm_WireError_NoNumber ?cl_Reader ?mk_Reader ?kc_Reader ?n_Reader_check_bits ?n_Reader_divisor ?n_Reader_latest ?n_Reader_since_flag ?in_Reader ?x_NoBits ?x_NoCode ?x_NoData ?x_NoNumber ?i_Reader_NoBits ?i_Reader_NoCode ?i_Reader_NoData ?i_Reader_NoNumber ?i_Reader_NoPacket ?i_Reader_NoPlace ?i_Reader_NoText ?i_Reader_NoTick ?i_Reader_ValueError ?i_Reader_bool ?i_Reader_int ?i_Reader_tuple ?i_NoBits_NoBits ?i_NoBits_NoCode ?i_NoBits_NoData ?i_NoBits_NoNumber ?i_NoBits_NoPacket ?i_NoBits_NoPlace ?i_NoBits_NoText ?i_NoBits_NoTick ?i_NoBits_ValueError ?i_NoBits_bool ?i_NoBits_int ?i_NoBits_tuple ?i_NoCode_NoBits ?i_NoCode_NoCode ?i_NoCode_NoData ?i_NoCode_NoNumber ?i_NoCode_NoPacket ?i_NoCode_NoPlace ?i_NoCode_NoText ?i_NoCode_NoTick ?i_NoCode_ValueError ?i_NoCode_bool ?i_NoCode_int ?i_NoCode_tuple ?i_NoData_NoBits ?i_NoData_NoCode ?i_NoData_NoData ?i_NoData_NoNumber ?i_NoData_NoPacket ?i_NoData_NoPlace ?i_NoData_NoText ?i_NoData_NoTick ?i_NoData_ValueError ?i_NoData_bool ?i_NoData_int ?i_NoData_tuple ?i_NoNumber_NoBits ?i_NoNumber_NoCode ?i_NoNumber_NoData ?i_NoNumber_NoNumber ?i_NoNumber_NoPacket ?i_NoNumber_NoPlace ?i_NoNumber_NoText ?i_NoNumber_NoTick ?i_NoNumber_ValueError ?i_NoNumber_bool ?i_NoNumber_int ?i_NoNumber_tuple ?kt_FLAG ?d_25_33
    (case g_FLAG => k_is)
    (case g_NoBits => k_is)
    (case g_NoCode => k_is)
    (case g_NoData => k_is)
    (case g_NoNumber => k_is)
    (case g_NoPacket => k_is)
    (case g_NoPlace => k_is)
    (case g_NoText => k_is)
    (case g_NoTick => k_is)
    (case g_Reader => k_is)
    (case g_WireError => k_is)
    (case a0 => k_is)
    (case l0 => k_is)
    (case c0 => k_is)
    (case k0 => k_is)
    (case a1 => k_is)
    (case l1 => k_is)
    (case c1 => k_is)
    (case k1 => k_is)
    (case a2 => k_is)
    (case l2 => k_is)
    (case c2 => k_is)
    (case k2 => k_is)
    (case a3 => k_is)
    (case l3 => k_is)
    (case c3 => k_is)
    (case k3 => k_is)
    (case a4 => k_is)
    (case l4 => k_is)
    (case c4 => k_is)
    (case k4 => k_is)
    (case a5 => k_is)
    (case l5 => k_is)
    (case c5 => k_is)
    (case k5 => k_is)
    (case a6 => k_is)
    (case l6 => k_is)
    (case c6 => k_is)
    (case k6 => k_is)
    (case a7 => k_is)
    (case l7 => k_is)
    (case c7 => k_is)
    (case k7 => k_is)
    (case a8 => k_is)
    (case l8 => k_is)
    (case c8 => k_is)
    (case k8 => k_is)
    (case a9 => k_is)
    (case l9 => k_is)
    (case c9 => k_is)
    (case k9 => k_is)
    (case a10 => k_is)
    (case i10 => k_is)
    (case l10 => k_is)
    (case c10 => k_is)
    (case k10 => k_is)
    (case a11 => k_is)
    (case l11 => k_is)
    (case c11 => k_is)
    (case k11 => k_is)
    (case a12 => k_is)
    (case l12 => k_is)
    (case c12 => k_is)
    (case k12 => k_is)
    (case a13 => k_is)
    (case l13 => k_is)
    (case c13 => k_is)
    (case k13 => k_is)
    (case a14 => k_is)
    (case l14 => k_is)
    (case c14 => k_is)
    (case k14 => k_is)
    (case a15 => k_is)
    (case l15 => k_is)
    (case c15 => k_is)
    (case k15 => k_is)
    (case a16 => k_is)
    (case l16 => k_is)
    (case c16 => k_is)
    (case k16 => k_is)
    (case a17 => k_is)
    (case l17 => k_is)
    (case c17 => k_is)
    (case k17 => k_is)
    (case a18 => k_is)
    (case l18 => k_is)
    (case c18 => k_is)
    (case k18 => k_is)
    (case a19 => k_is)
    (case l19 => k_is)
    (case c19 => k_is)
    (case k19 => k_is)
    (case a20 => k_is)
    (case l20 => k_is)
    (case c20 => k_is)
    (case k20 => k_is)
    (case a21 => k_is)
    (case i21 => k_is)
    (case l21 => k_is)
    (case c21 => k_is)
    (case k21 => k_is)
    (case a22 => k_is)
    (case i22 => k_is)
    (case l22 => k_is)
    (case c22 => k_is)
    (case k22 => k_is)
    (case a23 => k_is)
    (case l23 => k_is)
    (case c23 => k_is)
    (case k23 => k_is)
    (case a24 => k_is)
    (case l24 => k_is)
    (case c24 => k_is)
    (case k24 => k_is)
    (case a25 => k_is)
    (case l25 => k_is)
    (case c25 => k_is)
    (case k25 => k_is)
    (case r25 => exact rfl)
    (case w25 => k_is)
    (case x25 => exact rfl)
    (case h25 => first | kernel_rfl | rfl | decide +kernel)
    (case n25 => first | kernel_rfl | rfl | decide +kernel)
    (case a26 => k_is)
    (case l26 => k_is)
    (case c26 => k_is)
    (case k26 => k_is)
    (case a27 => k_is)
    (case l27 => k_is)
    (case c27 => k_is)
    (case k27 => k_is)
    (case a28 => k_is)
    (case l28 => k_is)
    (case c28 => k_is)
    (case k28 => k_is)
    (case a29 => k_is)
    (case l29 => k_is)
    (case c29 => k_is)
    (case k29 => k_is)
    (case a30 => k_is)
    (case l30 => k_is)
    (case c30 => k_is)
    (case k30 => k_is)
    (case a31 => k_is)
    (case l31 => k_is)
    (case c31 => k_is)
    (case k31 => k_is)
    (case a32 => k_is)
    (case l32 => k_is)
    (case c32 => k_is)
    (case k32 => k_is)
    (case a33 => k_is)
    (case l33 => k_is)
    (case c33 => k_is)
    (case k33 => k_is)
    (case r33 => exact rfl)
    (case w33 => k_is)
    (case x33 => exact rfl)
    (case h33 => first | kernel_rfl | rfl | decide +kernel)
    (case n33 => first | kernel_rfl | rfl | decide +kernel)
    (case a34 => k_is)
    (case l34 => k_is)
    (case c34 => k_is)
    (case k34 => k_is)
    (case a35 => k_is)
    (case l35 => k_is)
    (case c35 => k_is)
    (case k35 => k_is)
    (case a36 => k_is)
    (case l36 => k_is)
    (case c36 => k_is)
    (case k36 => k_is)
    (case a37 => k_is)
    (case l37 => k_is)
    (case c37 => k_is)
    (case k37 => k_is)
    (case z_ValueError => k_is)
    (case z_all => k_is)
    (case z_bool => k_is)
    (case z_enumerate => k_is)
    (case z_int => k_is)
    (case z_isinstance => k_is)
    (case z_len => k_is)
    (case z_range => k_is)
    (case z_str => k_is)
    (case z_tuple => k_is)
    (case y_BYTE => k_is)
    (case y_GREATEST => k_is)
    (case y_LEAST => k_is)
    (case y_MOST_BITS => k_is)
    (case y_MOST_BYTE => k_is)
    (case y_MOST_DATA => k_is)
    (case y_ONES => k_is)
    (case e_NoBits => k_exc)
    (case k_NoBits => k_is)
    (case b_NoBits => k_is)
    (case t_NoBits => k_is)
    (case e_NoCode => k_exc)
    (case k_NoCode => k_is)
    (case b_NoCode => k_is)
    (case t_NoCode => k_is)
    (case e_NoData => k_exc)
    (case k_NoData => k_is)
    (case b_NoData => k_is)
    (case t_NoData => k_is)
    (case e_NoNumber => k_exc)
    (case k_NoNumber => k_is)
    (case b_NoNumber => k_is)
    (case t_NoNumber => k_is)
    (case mm_WireError_NoBits => exact DL.exm_mk (by k_is) (by k_is) (by k_is) (by k_is))
    (case mm_WireError_NoCode => exact DL.exm_mk (by k_is) (by k_is) (by k_is) (by k_is))
    (case mm_WireError_NoData => exact DL.exm_mk (by k_is) (by k_is) (by k_is) (by k_is))
    (case mm_WireError_NoNumber => exact DL.exm_mk (by k_is) (by k_is) (by k_is) (by k_is))
    (case cl_Reader => exact ⟨by k_is, by k_is, by k_is, by k_is⟩)
    (case mk_Reader => k_is)
    (case kc_Reader => k_is)
    (case n_Reader_check_bits => k_is)
    (case n_Reader_divisor => k_is)
    (case n_Reader_latest => k_is)
    (case n_Reader_since_flag => k_is)
    (case in_Reader => exact ⟨⟨by k_is, by k_is, by k_is, by k_is⟩, by k_is, by k_is, by k_is, by k_is⟩)
    (case x_NoBits => exact ⟨by k_is, by k_is, by k_is, by k_is, by k_is, by k_is, by k_is, by k_is⟩)
    (case x_NoCode => exact ⟨by k_is, by k_is, by k_is, by k_is, by k_is, by k_is, by k_is, by k_is⟩)
    (case x_NoData => exact ⟨by k_is, by k_is, by k_is, by k_is, by k_is, by k_is, by k_is, by k_is⟩)
    (case x_NoNumber => exact ⟨by k_is, by k_is, by k_is, by k_is, by k_is, by k_is, by k_is, by k_is⟩)
    (case i_Reader_NoBits => first | k_is | kit_is)
    (case i_Reader_NoCode => first | k_is | kit_is)
    (case i_Reader_NoData => first | k_is | kit_is)
    (case i_Reader_NoNumber => first | k_is | kit_is)
    (case i_Reader_NoPacket => first | k_is | kit_is)
    (case i_Reader_NoPlace => first | k_is | kit_is)
    (case i_Reader_NoText => first | k_is | kit_is)
    (case i_Reader_NoTick => first | k_is | kit_is)
    (case i_Reader_ValueError => first | k_is | kit_is)
    (case i_Reader_bool => first | k_is | kit_is)
    (case i_Reader_int => first | k_is | kit_is)
    (case i_Reader_tuple => first | k_is | kit_is)
    (case i_NoBits_NoBits => first | k_is | kit_is)
    (case i_NoBits_NoCode => first | k_is | kit_is)
    (case i_NoBits_NoData => first | k_is | kit_is)
    (case i_NoBits_NoNumber => first | k_is | kit_is)
    (case i_NoBits_NoPacket => first | k_is | kit_is)
    (case i_NoBits_NoPlace => first | k_is | kit_is)
    (case i_NoBits_NoText => first | k_is | kit_is)
    (case i_NoBits_NoTick => first | k_is | kit_is)
    (case i_NoBits_ValueError => first | k_is | kit_is)
    (case i_NoBits_bool => first | k_is | kit_is)
    (case i_NoBits_int => first | k_is | kit_is)
    (case i_NoBits_tuple => first | k_is | kit_is)
    (case i_NoCode_NoBits => first | k_is | kit_is)
    (case i_NoCode_NoCode => first | k_is | kit_is)
    (case i_NoCode_NoData => first | k_is | kit_is)
    (case i_NoCode_NoNumber => first | k_is | kit_is)
    (case i_NoCode_NoPacket => first | k_is | kit_is)
    (case i_NoCode_NoPlace => first | k_is | kit_is)
    (case i_NoCode_NoText => first | k_is | kit_is)
    (case i_NoCode_NoTick => first | k_is | kit_is)
    (case i_NoCode_ValueError => first | k_is | kit_is)
    (case i_NoCode_bool => first | k_is | kit_is)
    (case i_NoCode_int => first | k_is | kit_is)
    (case i_NoCode_tuple => first | k_is | kit_is)
    (case i_NoData_NoBits => first | k_is | kit_is)
    (case i_NoData_NoCode => first | k_is | kit_is)
    (case i_NoData_NoData => first | k_is | kit_is)
    (case i_NoData_NoNumber => first | k_is | kit_is)
    (case i_NoData_NoPacket => first | k_is | kit_is)
    (case i_NoData_NoPlace => first | k_is | kit_is)
    (case i_NoData_NoText => first | k_is | kit_is)
    (case i_NoData_NoTick => first | k_is | kit_is)
    (case i_NoData_ValueError => first | k_is | kit_is)
    (case i_NoData_bool => first | k_is | kit_is)
    (case i_NoData_int => first | k_is | kit_is)
    (case i_NoData_tuple => first | k_is | kit_is)
    (case i_NoNumber_NoBits => first | k_is | kit_is)
    (case i_NoNumber_NoCode => first | k_is | kit_is)
    (case i_NoNumber_NoData => first | k_is | kit_is)
    (case i_NoNumber_NoNumber => first | k_is | kit_is)
    (case i_NoNumber_NoPacket => first | k_is | kit_is)
    (case i_NoNumber_NoPlace => first | k_is | kit_is)
    (case i_NoNumber_NoText => first | k_is | kit_is)
    (case i_NoNumber_NoTick => first | k_is | kit_is)
    (case i_NoNumber_ValueError => first | k_is | kit_is)
    (case i_NoNumber_bool => first | k_is | kit_is)
    (case i_NoNumber_int => first | k_is | kit_is)
    (case i_NoNumber_tuple => first | k_is | kit_is)
    (case kt_FLAG => exact ⟨_, _, _, by k_is, rfl, rfl, by decide, .cons ⟨_, rfl⟩ (.cons ⟨_, rfl⟩ (.cons ⟨_, rfl⟩ (.cons ⟨_, rfl⟩ (.cons ⟨_, rfl⟩ (.cons ⟨_, rfl⟩ (.cons ⟨_, rfl⟩ (.cons ⟨_, rfl⟩ (.nil))))))))⟩)
    (case d_25_33 => decide)
#print axioms PySem.Challenge.cw_surewire_k22_framed_and_refused_holds
