import PyProof.Rows.All
import Wide.All
import OpenK.AllK
import Wide.FinOn
import HandS.ForMost
import HandS.IsInst
import HandS.Style
import HandS.Flow
import HandS.Exc
import HandS.TryOnly
import HandS.ExcOwn
import HandS.WordsExc
import HandS.WideBits
import HandS.Wide
import HandS.TupAny
import HandS.Walk
import HandS.ExcIs
import HandS.RaiseMore
import HandS.TupMul
import KE.KBits
import HandS.Zip
import HandS.Deep
import HandS.More
import HandS.SetFor
import HandS.FStrTup
import HandS.Ends
import PyProof.ReprRoads
import PyProof.FitsInt
import PyProof.CallFns
import HandS.Text
import HandS.StrMore
import HandS.RevRange
import KE.DataEq
import HandS.Flt
import HandS.Steps
import KE.GoesEnum
import HandS.Defaults
import PyProof.StrOps2
import HandS.ReplaceList
import HandS.SortInts
import PySem.Challenge.RW_surewire_k53_turned_bits_dropped
set_option Elab.async false
set_option linter.all false
set_option maxRecDepth 100000
set_option maxHeartbeats 2000000
/-! ## the data layer: what a reading gives, told by plain data; what stands is told by slots -/
namespace DL
open PySem L2

/-- plain data -/
inductive D where
  | non | bl (b : Bool) | int (i : Int) | str (x : Str) | ty (n : String) | ref (a : Addr)
  | tup (l : List D) | lst (l : List D) | scr (l : List D)
  | dic (l : List (Key × D)) | dit (l : List (List Key × D))
  | obj (C : Addr) (fs : List (Str × D))
  | exc (C : Addr)
/-- what one owned object holds -/
inductive OB where
  | lst (l : List D) | dic (l : List (Key × D)) | dit (l : List (List Key × D)) | obj (C : Addr) (fs : List (Str × D))
def OB.d : OB → D
  | .lst l => .lst l
  | .dic l => .dic l
  | .dit l => .dit l
  | .obj C fs => .obj C fs
/-- what is known of a slot -/
inductive EV where
  | any | val (d : D) | own (o : OB)
abbrev Env := List EV

def Ex (H H' : Hp) : Prop := ∀ a o, H a = some o → H' a = some o
theorem Ex.refl (H : Hp) : Ex H H := fun _ _ h => h
theorem Ex.trans {H H1 H2 : Hp} (a : Ex H H1) (b : Ex H1 H2) : Ex H H2 := fun x o h => b x o (a x o h)
theorem Ex.new {H : Hp} {p : Addr} {o : HO} (h : H p = none) : Ex H (upd H p o) := fun a u e => by
  rw [upd_ne (ne_of_none e h)]; exact e
theorem Ex.back {H H' : Hp} {p : Addr} (e : Ex H H') (h : H' p = none) : H p = none := by
  cases h1 : H p with
  | none => rfl
  | some o => rw [e p o h1] at h; cases h
theorem Ex.both {F H : Hp} {p : Addr} {o : HO} (e : Ex F H) : Ex (upd F p o) (upd H p o) := fun a u h => by
  by_cases q : a = p
  · subst q; rw [upd_same] at h ⊢; exact h
  · rw [upd_ne q] at h ⊢; exact e a u h
theorem Ex.right {F H : Hp} {p : Addr} {o : HO} (e : Ex F H) (h : F p = none) : Ex F (upd H p o) := fun a u q => by
  rw [upd_ne (ne_of_none q h)]; exact e a u q
theorem Ex.left {F H : Hp} {p : Addr} {o : HO} (e : Ex F H) (h : H p = some o) : Ex (upd F p o) H := fun a u q => by
  by_cases z : a = p
  · subst z; rw [upd_same] at q; rw [h]; exact q
  · rw [upd_ne z] at q; exact e a u q
theorem Ex.rd {H H' : Hp} {a : Addr} {u : HO} (e : Ex H H') (h : Rd H a u) : Rd H' a u := by
  rcases h with h | ⟨o, h⟩
  · exact Or.inl (e a _ h)
  · exact Or.inr ⟨o, e a _ h⟩
theorem Ex.l {K : PySem.W.Frag} {H H' : Hp} {a : Addr} {xs : List V} (e : Ex H H') (h : SqL K H a xs) : SqL K H' a xs := by
  rcases h with h | h
  · exact Or.inl (e.rd h)
  · exact Or.inr h
theorem Ex.t {K : PySem.W.Frag} {H H' : Hp} {a : Addr} {xs : List V} (e : Ex H H') (h : SqT K H a xs) : SqT K H' a xs := by
  rcases h with h | h
  · exact Or.inl (e.rd h)
  · exact Or.inr h

/-- an exception of the class at C, caught and kept -/
def ExK (C a : Addr) : HO := .ext fun h => ∃ (oe : Obj) (vs : Array Value), h.get? a = some oe ∧ Zc (.ref C) none oe ∧ oe.data = .fields vs
mutual
/-- the value v is the data d, all of it standing in F -/
inductive Rep (K : PySem.W.Frag) (F : Hp) : V → D → Prop
  | non : Rep K F .non .non
  | bl (b : Bool) : Rep K F (.bl b) (.bl b)
  | int (i : Int) : Rep K F (.int i) (.int i)
  | str (x : Str) : Rep K F (.str x) (.str x)
  | ty (n : String) : Rep K F (.ty n) (.ty n)
  | ref (a : Addr) : Rep K F (.ref a) (.ref a)
  | tup {a : Addr} {vs : List V} {l : List D} : SqT K F a vs → RepL K F vs l → Rep K F (.ref a) (.tup l)
  | lst {a : Addr} {vs : List V} {l : List D} : F a = some (.lst vs) → RepL K F vs l → Rep K F (.ref a) (.lst l)
  | scr {a : Addr} {vs : List V} {l : List D} : SqL K F a vs → RepL K F vs l → Rep K F (.ref a) (.scr l)
  | dic {a : Addr} {ks : List Key} {vs : List V} {ds : List D} : F a = some (.dK (ks.zip vs)) → ks.length = ds.length → RepL K F vs ds → Rep K F (.ref a) (.dic (ks.zip ds))
  | dit {a : Addr} {ks : List (List Key)} {vs : List V} {ds : List D} : F a = some (.dT (ks.zip vs)) → ks.length = ds.length → RepL K F vs ds → Rep K F (.ref a) (.dit (ks.zip ds))
  | obj {a C dx : Addr} {ks : List Str} {vs : List V} {ds : List D} : F a = some (.ins C dx (ks.zip vs)) → ks.length = ds.length → RepL K F vs ds → Rep K F (.ref a) (.obj C (ks.zip ds))
  | exc {a C : Addr} : F a = some (ExK C a) → Rep K F (.ref a) (.exc C)
inductive RepL (K : PySem.W.Frag) (F : Hp) : List V → List D → Prop
  | nil : RepL K F [] []
  | cons {v : V} {vs : List V} {d : D} {ds : List D} : Rep K F v d → RepL K F vs ds → RepL K F (v :: vs) (d :: ds)
end
section
variable {K : PySem.W.Frag} {F F' : Hp}
mutual
theorem Rep.mono (e : Ex F F') : ∀ {v : V} {d : D}, Rep K F v d → Rep K F' v d
  | _, _, .non => .non
  | _, _, .bl b => .bl b
  | _, _, .int i => .int i
  | _, _, .str x => .str x
  | _, _, .ty n => .ty n
  | _, _, .ref a => .ref a
  | _, _, .tup h r => .tup (e.t h) (RepL.mono e r)
  | _, _, .lst h r => .lst (e _ _ h) (RepL.mono e r)
  | _, _, .scr h r => .scr (e.l h) (RepL.mono e r)
  | _, _, .dic h l r => .dic (e _ _ h) l (RepL.mono e r)
  | _, _, .dit h l r => .dit (e _ _ h) l (RepL.mono e r)
  | _, _, .obj h l r => .obj (e _ _ h) l (RepL.mono e r)
  | _, _, .exc h => .exc (e _ _ h)
theorem RepL.mono (e : Ex F F') : ∀ {vs : List V} {ds : List D}, RepL K F vs ds → RepL K F' vs ds
  | _, _, .nil => .nil
  | _, _, .cons h r => .cons (Rep.mono e h) (RepL.mono e r)
end
theorem RepL.length : ∀ {vs : List V} {ds : List D}, RepL K F vs ds → vs.length = ds.length
  | _, _, .nil => rfl
  | _, _, .cons _ r => by rw [List.length_cons, List.length_cons, r.length]
theorem RepL.get : ∀ {vs : List V} {ds : List D} {i : Nat} {d : D}, RepL K F vs ds → ds[i]? = some d → ∃ v, vs[i]? = some v ∧ Rep K F v d
  | _, _, _, _, .nil, h => by simp at h
  | _, _, 0, _, .cons h _, e => by simp at e; subst e; exact ⟨_, rfl, h⟩
  | _, _, i + 1, _, .cons _ r, e => by
    obtain ⟨v, h1, h2⟩ := RepL.get (i := i) r (by simpa using e)
    exact ⟨v, by simpa using h1, h2⟩
theorem RepL.append : ∀ {vs ws : List V} {ds es : List D}, RepL K F vs ds → RepL K F ws es → RepL K F (vs ++ ws) (ds ++ es)
  | _, _, _, _, .nil, s => s
  | _, _, _, _, .cons h r, s => .cons h (RepL.append r s)
theorem RepL.take : ∀ {vs : List V} {ds : List D} (n : Nat), RepL K F vs ds → RepL K F (vs.take n) (ds.take n)
  | _, _, 0, _ => .nil
  | _, _, _ + 1, .nil => .nil
  | _, _, n + 1, .cons h r => .cons h (RepL.take n r)
theorem RepL.drop : ∀ {vs : List V} {ds : List D} (n : Nat), RepL K F vs ds → RepL K F (vs.drop n) (ds.drop n)
  | _, _, 0, r => r
  | _, _, _ + 1, .nil => .nil
  | _, _, n + 1, .cons _ r => RepL.drop n r
theorem RepL.set {v : V} {d : D} (h : Rep K F v d) : ∀ {vs : List V} {ds : List D} (n : Nat), RepL K F vs ds → RepL K F (vs.set n v) (ds.set n d)
  | _, _, _, .nil => .nil
  | _, _, 0, .cons _ r => .cons h r
  | _, _, n + 1, .cons q r => .cons q (RepL.set h n r)
theorem RepL.reverse : ∀ {vs : List V} {ds : List D}, RepL K F vs ds → RepL K F vs.reverse ds.reverse
  | _, _, .nil => .nil
  | _, _, .cons h r => by
    rw [List.reverse_cons, List.reverse_cons]
    exact (RepL.reverse r).append (.cons h .nil)
/-- ints, truths, texts: the values are those of the data -/
theorem RepL.ints : ∀ {vs : List V} {ns : List Int}, RepL K F vs (ns.map D.int) → vs = ns.map V.int
  | _, [], h => by cases h; rfl
  | _, n :: r, h => by
    cases h with
    | cons q t => cases q; rw [RepL.ints t]; rfl
theorem RepL.bools : ∀ {vs : List V} {ns : List Bool}, RepL K F vs (ns.map D.bl) → vs = ns.map V.bl
  | _, [], h => by cases h; rfl
  | _, n :: r, h => by
    cases h with
    | cons q t => cases q; rw [RepL.bools t]; rfl
theorem RepL.of_ints : ∀ {ns : List Int}, RepL K F (ns.map V.int) (ns.map D.int)
  | [] => .nil
  | n :: _ => .cons (.int n) RepL.of_ints
/-- data that no heap is asked for -/
def flat : D → Bool
  | .non | .bl _ | .int _ | .str _ | .ty _ | .ref _ => true
  | _ => false
theorem Rep.flat {v : V} {d : D} (h : Rep K F v d) (f : flat d = true) : Rep K F' v d := by
  cases h <;> first | (cases f; done) | constructor
theorem RepL.flat : ∀ {vs : List V} {ds : List D}, RepL K F vs ds → ds.all DL.flat = true → RepL K F' vs ds
  | _, _, .nil, _ => .nil
  | _, _, .cons h r, f => by
    rw [List.all_cons, Bool.and_eq_true] at f
    exact .cons (h.flat f.1) (RepL.flat r f.2)
end

/-- the owned object at a holds o; its parts stand in F -/
def ORep (K : PySem.W.Frag) (F H : Hp) (a : Addr) : OB → Prop
  | .lst l => ∃ vs, H a = some (.lst vs) ∧ RepL K F vs l
  | .dic l => ∃ ks vs ds, H a = some (.dK (List.zip ks vs)) ∧ List.length ks = List.length ds ∧ RepL K F vs ds ∧ l = ks.zip ds
  | .dit l => ∃ ks vs ds, H a = some (.dT (List.zip ks vs)) ∧ List.length ks = List.length ds ∧ RepL K F vs ds ∧ l = ks.zip ds
  | .obj C fs => ∃ dx ks vs ds, H a = some (.ins C dx (List.zip ks vs)) ∧ List.length ks = List.length ds ∧ RepL K F vs ds ∧ fs = ks.zip ds
section
variable {K : PySem.W.Frag} {F F' H H' : Hp} {a : Addr} {o : OB}
theorem ORep.mono (h : ORep K F H a o) (e : Ex F F') (k : ∀ u, H a = some u → H' a = some u) : ORep K F' H' a o := by
  cases o with
  | lst l => obtain ⟨vs, x, r⟩ := h; exact ⟨vs, k _ x, r.mono e⟩
  | dic l => obtain ⟨ks, vs, ds, x, z, r, q⟩ := h; exact ⟨ks, vs, ds, k _ x, z, r.mono e, q⟩
  | dit l => obtain ⟨ks, vs, ds, x, z, r, q⟩ := h; exact ⟨ks, vs, ds, k _ x, z, r.mono e, q⟩
  | obj C fs => obtain ⟨dx, ks, vs, ds, x, z, r, q⟩ := h; exact ⟨dx, ks, vs, ds, k _ x, z, r.mono e, q⟩
theorem ORep.ho (h : ORep K F H a o) : ∃ u, H a = some u := by
  cases o with
  | lst l => obtain ⟨vs, x, r⟩ := h; exact ⟨_, x⟩
  | dic l => obtain ⟨ks, vs, ds, x, _⟩ := h; exact ⟨_, x⟩
  | dit l => obtain ⟨ks, vs, ds, x, _⟩ := h; exact ⟨_, x⟩
  | obj C fs => obtain ⟨dx, ks, vs, ds, x, _⟩ := h; exact ⟨_, x⟩
/-- an owned object, given up: from now on it stands -/
theorem ORep.give (h : ORep K F H a o) (n : F a = none) : ∃ u, H a = some u ∧ Rep K (upd F a u) (.ref a) o.d := by
  cases o with
  | lst l => obtain ⟨vs, x, r⟩ := h; exact ⟨_, x, .lst upd_same (r.mono (Ex.new n))⟩
  | dic l => obtain ⟨ks, vs, ds, x, z, r, q⟩ := h; subst q; exact ⟨_, x, .dic upd_same z (r.mono (Ex.new n))⟩
  | dit l => obtain ⟨ks, vs, ds, x, z, r, q⟩ := h; subst q; exact ⟨_, x, .dit upd_same z (r.mono (Ex.new n))⟩
  | obj C fs => obtain ⟨dx, ks, vs, ds, x, z, r, q⟩ := h; subst q; exact ⟨_, x, .obj upd_same z (r.mono (Ex.new n))⟩
end

/-- what grows between two moments: what stands (F) and all that is tracked (H) -/
structure Grow (F0 H0 F H : Hp) : Prop where
  gf : Ex F0 F
  gh : Ex H0 H
  fh : Ex F H
  gn : ∀ a, F a ≠ none → F0 a ≠ none ∨ H0 a = none
section
variable {F0 H0 F1 H1 F H : Hp}
theorem Grow.refl (e : Ex F H) : Grow F H F H := ⟨Ex.refl _, Ex.refl _, e, fun _ h => .inl h⟩
theorem Grow.trans (a : Grow F0 H0 F1 H1) (b : Grow F1 H1 F H) : Grow F0 H0 F H := ⟨a.gf.trans b.gf, a.gh.trans b.gh, b.fh, fun x h => by
  rcases b.gn x h with q | q
  · exact a.gn x q
  · exact .inr (a.gh.back q)⟩
/-- a new object, standing -/
theorem Grow.new {p : Addr} {o : HO} (g : Grow F0 H0 F H) (n : H p = none) : Grow F0 H0 (upd F p o) (upd H p o) := ⟨g.gf.trans (Ex.new (g.fh.back n)), g.gh.trans (Ex.new n), g.fh.both, fun x h => by
  by_cases q : x = p
  · subst q; exact .inr (g.gh.back n)
  · rw [upd_ne q] at h; exact g.gn x h⟩
/-- an owned new one is given up -/
theorem Grow.give {p : Addr} {o : HO} (g : Grow F0 H0 F H) (n : F p = none) (n0 : H0 p = none) (e : H p = some o) : Grow F0 H0 (upd F p o) H := ⟨g.gf.trans (Ex.new n), g.gh, g.fh.left e, fun x h => by
  by_cases q : x = p
  · subst q; exact .inr n0
  · rw [upd_ne q] at h; exact g.gn x h⟩
end

/-- where a def begins: what stands, what is tracked, which slots hold the objects handed in to be changed -/
structure Bs where
  F : Hp
  H : Hp
  fx : Nat → Option Addr
/-- the slots as they are known; oa i the address of what slot i owns -/
structure Sig (K : PySem.W.Frag) (b : Bs) (F : Hp) (oa : Nat → Addr) (σ : L2.St) (H : Hp) (env : Env) : Prop where
  g : Grow b.F b.H F H
  len : σ.length = env.length
  val : ∀ (i : Nat) (d : D), env[i]? = some (EV.val d) → ∃ v : V, σ[i]? = some (some v) ∧ Rep K F v d
  own : ∀ (i : Nat) (o : OB), env[i]? = some (EV.own o) → σ[i]? = some (some (.ref (oa i))) ∧ F (oa i) = none ∧ b.H (oa i) = none ∧ ORep K F H (oa i) o
  dist : ∀ (i j : Nat) (o u : OB), env[i]? = some (EV.own o) → env[j]? = some (.own u) → oa i = oa j → i = j
  fix : ∀ (i : Nat) (a : Addr), b.fx i = some a → oa i = a ∧ H a ≠ none
section
variable {K : PySem.W.Frag} {b : Bs} {F F1 H H1 : Hp} {oa : Nat → Addr} {σ : L2.St} {env env' : Env} {i : Nat} {v : V} {d : D} {o : OB}
/-- what is owned is not there where nothing is -/
theorem Sig.ne (S : Sig K b F oa σ H env) {p : Addr} (n : H p = none) (e : env[i]? = some (.own o)) : oa i ≠ p := fun q => by
  obtain ⟨_, _, _, r⟩ := S.own i o e
  obtain ⟨u, hu⟩ := r.ho
  rw [q, n] at hu; cases hu
/-- more stands, all else as it was -/
theorem Sig.grow (S : Sig K b F oa σ H env) (g : Grow F H F1 H1) : Sig K b F1 oa σ H1 env where
  g := S.g.trans g
  len := S.len
  val := fun i d e => by
    obtain ⟨v, h1, h2⟩ := S.val i d e
    exact ⟨v, h1, h2.mono g.gf⟩
  own := fun i o e => by
    obtain ⟨h1, h2, h3, h4⟩ := S.own i o e
    refine ⟨h1, ?_, h3, h4.mono g.gf fun u q => g.gh _ _ q⟩
    cases q : F1 (oa i) with
    | none => rfl
    | some u =>
      rcases g.gn (oa i) (by rw [q]; simp) with z | z
      · exact absurd h2 z
      · obtain ⟨w, hw⟩ := h4.ho
        rw [z] at hw; cases hw
  dist := S.dist
  fix := fun i c e => by
    obtain ⟨h1, h2⟩ := S.fix i c e
    refine ⟨h1, fun z => ?_⟩
    exact h2 (g.gh.back z)
theorem Sig.new {p : Addr} {u : HO} (S : Sig K b F oa σ H env) (n : H p = none) : Sig K b (upd F p u) oa σ (upd H p u) env := S.grow ((Grow.refl S.g.fh).new n)
/-- slot i holds v -/
theorem Sig.set (S : Sig K b F oa σ H env) (r : Rep K F v d) : Sig K b F oa (σ.set i (some v)) H (env.set i (.val d)) where
  g := S.g
  len := by simp [S.len]
  val := fun j e h => by
    by_cases q : i = j
    · subst q
      rw [List.getElem?_set] at h
      rw [List.getElem?_set]
      have l := S.len
      split at h
      · split at h
        · cases h
          refine ⟨v, ?_, r⟩
          simp_all
        · cases h
      · rename_i z; exact absurd rfl z
    · rw [List.getElem?_set_ne q] at h
      rw [List.getElem?_set_ne q]
      exact S.val j e h
  own := fun j e h => by
    by_cases q : i = j
    · subst q
      rw [List.getElem?_set] at h
      split at h
      · split at h <;> cases h
      · rename_i z; exact absurd rfl z
    · rw [List.getElem?_set_ne q] at h
      rw [List.getElem?_set_ne q]
      exact S.own j e h
  dist := fun j k e u h1 h2 => by
    have t : ∀ (j : Nat) (e : OB), (env.set i (.val d))[j]? = some (.own e) → env[j]? = some (.own e) := fun j e h => by
      by_cases q : i = j
      · subst q
        rw [List.getElem?_set] at h
        split at h
        · split at h <;> cases h
        · rename_i z; exact absurd rfl z
      · rw [List.getElem?_set_ne q] at h; exact h
    exact S.dist j k e u (t _ _ h1) (t _ _ h2)
  fix := S.fix
/-- the slot of what is owned, given up -/
theorem Sig.give (S : Sig K b F oa σ H env) (e : env[i]? = some (.own o)) : ∃ F', Sig K b F' oa σ H (env.set i (.val o.d)) ∧ Ex F F' := by
  obtain ⟨h1, h2, h3, h4⟩ := S.own i o e
  obtain ⟨u, hu, r⟩ := h4.give h2
  refine ⟨upd F (oa i) u, ⟨S.g.give h2 h3 hu, by simp [S.len], fun j w h => ?_, fun j w h => ?_, fun j k w x p q z => ?_, S.fix⟩, Ex.new h2⟩
  · by_cases q : i = j
    · subst q
      rw [List.getElem?_set] at h
      split at h
      · split at h
        · cases h; exact ⟨_, h1, r⟩
        · cases h
      · rename_i z; exact absurd rfl z
    · rw [List.getElem?_set_ne q] at h
      obtain ⟨v, x, y⟩ := S.val j w h
      exact ⟨v, x, y.mono (Ex.new h2)⟩
  · by_cases q : i = j
    · subst q
      rw [List.getElem?_set] at h
      split at h
      · split at h <;> cases h
      · rename_i z; exact absurd rfl z
    · rw [List.getElem?_set_ne q] at h
      obtain ⟨x1, x2, x3, x4⟩ := S.own j w h
      refine ⟨x1, ?_, x3, x4.mono (Ex.new h2) fun _ y => y⟩
      rw [upd_ne fun z => q (S.dist j i w o h e z).symm]
      exact x2
  · have t : ∀ (j : Nat) (e : OB), (env.set i (.val o.d))[j]? = some (.own e) → env[j]? = some (.own e) := fun j e h => by
      by_cases q : i = j
      · subst q
        rw [List.getElem?_set] at h
        split at h
        · split at h <;> cases h
        · rename_i z; exact absurd rfl z
      · rw [List.getElem?_set_ne q] at h; exact h
    exact S.dist j k w x (t _ _ p) (t _ _ q) z
/-- less is known: every slot as it was, or not told -/
def Env.le : Env → Env → Prop
  | [], [] => True
  | a :: r, b :: s => (b = .any ∨ b = a) ∧ Env.le r s
  | _, _ => False
theorem Env.le.get : ∀ {env env' : Env} {i : Nat} {x : EV}, Env.le env env' → env'[i]? = some x → x = .any ∨ env[i]? = some x
  | [], [], _, _, _, h => by simp at h
  | _ :: _, _ :: _, 0, _, l, h => by
    simp at h; subst h
    rcases l.1 with q | q
    · exact .inl q
    · exact .inr (by rw [q]; rfl)
  | _ :: r, _ :: s, i + 1, _, l, h => by
    rcases Env.le.get (i := i) l.2 (by simpa using h) with q | q
    · exact .inl q
    · exact .inr (by simpa using q)
  | [], _ :: _, _, _, l, _ => l.elim
  | _ :: _, [], _, _, l, _ => l.elim
theorem Env.le.length : ∀ {env env' : Env}, Env.le env env' → env.length = env'.length
  | [], [], _ => rfl
  | _ :: _, _ :: _, l => by rw [List.length_cons, List.length_cons, Env.le.length l.2]
  | [], _ :: _, l => l.elim
  | _ :: _, [], l => l.elim
theorem Env.le.rfl : ∀ {env : Env}, Env.le env env
  | [] => trivial
  | _ :: _ => ⟨.inr (by rfl), Env.le.rfl⟩
theorem Sig.le (S : Sig K b F oa σ H env) (l : Env.le env env') : Sig K b F oa σ H env' where
  g := S.g
  len := by rw [S.len, l.length]
  val := fun i d e => by
    rcases l.get e with q | q
    · cases q
    · exact S.val i d q
  own := fun i o e => by
    rcases l.get e with q | q
    · cases q
    · exact S.own i o q
  dist := fun i j o u e f z => by
    rcases l.get e with q | q
    · cases q
    · rcases l.get f with p | p
      · cases p
      · exact S.dist i j o u q p z
  fix := S.fix
/-- a new one that no slot owns stands from now on -/
theorem Sig.stand {a : Addr} {u : HO} (S : Sig K b F oa σ H env) (n : F a = none) (n0 : b.H a = none) (ne : ∀ (j : Nat) (o : OB), env[j]? = some (.own o) → oa j ≠ a) (h : H a = some u) : Sig K b (upd F a u) oa σ H env where
  g := S.g.give n n0 h
  len := S.len
  val := fun i d e => by
    obtain ⟨v, h1, h2⟩ := S.val i d e
    exact ⟨v, h1, h2.mono (Ex.new n)⟩
  own := fun i o e => by
    obtain ⟨h1, h2, h3, h4⟩ := S.own i o e
    exact ⟨h1, by rw [upd_ne (ne i o e)]; exact h2, h3, h4.mono (Ex.new n) fun _ q => q⟩
  dist := S.dist
  fix := S.fix
end
end DL

namespace DL
open PySem L2

/-- what an expression gives: data that stands, or what a slot owns -/
inductive Res where
  | val (d : D) | slot (i : Nat)
def RR (K : PySem.W.Frag) (F : Hp) (oa : Nat → Addr) (v : V) : Res → Prop
  | .val d => Rep K F v d
  | .slot i => v = .ref (oa i)
/-- it reads as d -/
def Rd (env : Env) : Res → D → Prop
  | .val d, e => d = e
  | .slot i, e => ∃ o, env[i]? = some (.own o) ∧ o.d = e
section
variable {K : PySem.W.Frag} {b : Bs} {F F' H : Hp} {oa : Nat → Addr} {σ : L2.St} {env env' : Env} {v : V} {r : Res} {d : D} {l : List D}
theorem RR.mono (h : RR K F oa v r) (e : Ex F F') : RR K F' oa v r := by
  cases r with
  | val d => exact Rep.mono e h
  | slot i => exact h
theorem Rd.lst' (S : Sig K b F oa σ H env) (h : RR K F oa v r) (q : Rd env r (.lst l)) : ∃ a vs, v = .ref a ∧ H a = some (.lst vs) ∧ RepL K F vs l := by
  cases r with
  | val d =>
    cases (show d = .lst l from q)
    cases h with
    | lst x y => exact ⟨_, _, rfl, S.g.fh _ _ x, y⟩
  | slot i =>
    obtain ⟨o, e, z⟩ := q
    obtain ⟨_, _, _, x⟩ := S.own i o e
    cases o with
    | lst l' =>
      cases z
      obtain ⟨vs, x1, x2⟩ := x
      exact ⟨_, vs, h, x1, x2⟩
    | dic _ => cases z
    | dit _ => cases z
    | obj _ _ => cases z
theorem Rd.scr (S : Sig K b F oa σ H env) (h : RR K F oa v r) (q : Rd env r (.scr l)) : ∃ a vs, v = .ref a ∧ SqL K H a vs ∧ RepL K F vs l := by
  cases r with
  | val d =>
    cases (show d = .scr l from q)
    cases h with
    | scr x y => exact ⟨_, _, rfl, S.g.fh.l x, y⟩
  | slot i =>
    obtain ⟨o, e, z⟩ := q
    cases o <;> cases z
/-- a list to be read: one of the call's own, or the script -/
def RdL (env : Env) (r : Res) (k : List D) : Prop := Rd env r (.lst k) ∨ Rd env r (.scr k)
theorem RdL.g (S : Sig K b F oa σ H env) (h : RR K F oa v r) (q : RdL env r l) : ∃ a vs, v = .ref a ∧ SqL K H a vs ∧ RepL K F vs l := by
  rcases q with q | q
  · obtain ⟨a, vs, e, s, p⟩ := Rd.lst' S h q
    exact ⟨a, vs, e, .inl (.inl s), p⟩
  · exact Rd.scr S h q
theorem Rd.tup (S : Sig K b F oa σ H env) (h : RR K F oa v r) (q : Rd env r (.tup l)) : ∃ a vs, v = .ref a ∧ SqT K H a vs ∧ RepL K F vs l := by
  cases r with
  | val d =>
    cases (show d = .tup l from q)
    cases h with
    | tup x y => exact ⟨_, _, rfl, S.g.fh.t x, y⟩
  | slot i =>
    obtain ⟨o, e, z⟩ := q
    cases o <;> cases z
theorem Rd.flat (h : RR K F oa v r) (q : Rd env r d) (f : flat d = true) : Rep K F v d := by
  cases r with
  | val e => cases (show e = d from q); exact h
  | slot i =>
    obtain ⟨o, e, z⟩ := q
    cases o <;> (subst z; cases f)
/-- read as it stands in the whole heap -/
theorem Rd.rep (S : Sig K b F oa σ H env) (h : RR K F oa v r) (q : Rd env r d) : Rep K H v d := by
  cases r with
  | val e => cases (show e = d from q); exact Rep.mono S.g.fh h
  | slot i =>
    obtain ⟨o, e, z⟩ := q
    subst z
    cases (show v = .ref (oa i) from h)
    obtain ⟨_, _, _, x⟩ := S.own i o e
    cases o with
    | lst l' => obtain ⟨vs, x1, x2⟩ := x; exact .lst x1 (x2.mono S.g.fh)
    | dic l' => obtain ⟨ks, vs, ds, x1, x2, x3, x4⟩ := x; subst x4; exact .dic x1 x2 (x3.mono S.g.fh)
    | dit l' => obtain ⟨ks, vs, ds, x1, x2, x3, x4⟩ := x; subst x4; exact .dit x1 x2 (x3.mono S.g.fh)
    | obj C fs => obtain ⟨dx, ks, vs, ds, x1, x2, x3, x4⟩ := x; subst x4; exact .obj x1 x2 (x3.mono S.g.fh)
end

/-- what a step leaves: what stands stands; what no slot owns is as it was -/
structure Stp (oa : Nat → Addr) (env : Env) (F H : Hp) (env' : Env) (F' H' : Hp) : Prop where
  ff : Ex F F'
  kp : ∀ a u, H a = some u → (∀ (j : Nat) (o : OB), env[j]? = some (.own o) → oa j ≠ a) → H' a = some u
  gn : ∀ a, F' a ≠ none → F a ≠ none ∨ H a = none
  th : ∀ a, H a ≠ none → H' a ≠ none
  sub : ∀ (j : Nat) (o : OB), env'[j]? = some (.own o) → ∃ o', env[j]? = some (.own o')
section
variable {K : PySem.W.Frag} {b : Bs} {F F1 F2 H H1 H2 : Hp} {oa : Nat → Addr} {σ : L2.St} {env e1 e2 : Env} {p : Addr} {u : HO}
theorem Stp.refl : Stp oa env F H env F H := ⟨Ex.refl _, fun _ _ h _ => h, fun _ h => .inl h, fun _ h => h, fun j o h => ⟨o, h⟩⟩
theorem Stp.trans (x : Stp oa env F H e1 F1 H1) (y : Stp oa e1 F1 H1 e2 F2 H2) : Stp oa env F H e2 F2 H2 := ⟨x.ff.trans y.ff, fun a u h n => y.kp a u (x.kp a u h n) fun j o e => by
    obtain ⟨o', e'⟩ := x.sub j o e
    exact n j o' e', fun a h => by
    rcases y.gn a h with z | z
    · exact x.gn a z
    · refine .inr ?_
      cases w : H a with
      | none => rfl
      | some v => exact absurd z (x.th a (by rw [w]; simp)), fun a h => y.th a (x.th a h), fun j o e => by
    obtain ⟨o', e'⟩ := y.sub j o e
    exact x.sub j o' e'⟩
theorem Stp.new (n : H p = none) (nf : F p = none) : Stp oa env F H env (upd F p u) (upd H p u) := ⟨Ex.new nf, fun a v h _ => Ex.new n a v h, fun a h => by
    by_cases q : a = p
    · subst q; exact .inr n
    · rw [upd_ne q] at h; exact .inl h, fun a h z => h ((Ex.new n).back z), fun j o e => ⟨o, e⟩⟩
theorem Stp.newH (n : H p = none) : Stp oa env F H env F (upd H p u) := ⟨Ex.refl _, fun a v h _ => Ex.new n a v h, fun a h => .inl h, fun a h z => h ((Ex.new n).back z), fun j o e => ⟨o, e⟩⟩
theorem Stp.none (x : Stp oa env F H e1 F1 H1) (n : H1 p = none) : H p = none := by
  cases w : H p with
  | none => rfl
  | some v => exact absurd n (x.th p (by rw [w]; simp))
end

def Ev (K : PySem.W.Frag) (te : TE) (env : Env) (r : Res) (env' : Env) : Prop := ∀ (b : Bs) (F : Hp) (oa : Nat → Addr) (σ : L2.St) (H : Hp), Sig K b F oa σ H env → ∀ Q : VK,
  (∀ v F' H', Sig K b F' oa σ H' env' → Stp oa env F H env' F' H' → RR K F' oa v r → Q v H') → te σ H Q
/-- a new object that nobody has yet -/
def NewAt (K : PySem.W.Frag) (b : Bs) (F : Hp) (oa : Nat → Addr) (H : Hp) (env : Env) (a : Addr) (o : OB) : Prop :=
  F a = none ∧ b.H a = none ∧ (∀ (j : Nat) (u : OB), env[j]? = some (.own u) → oa j ≠ a) ∧ (∀ j, b.fx j ≠ some a) ∧ ORep K F H a o
def EvN (K : PySem.W.Frag) (te : TE) (env : Env) (o : OB) (env' : Env) : Prop := ∀ (b : Bs) (F : Hp) (oa : Nat → Addr) (σ : L2.St) (H : Hp), Sig K b F oa σ H env → ∀ Q : VK,
  (∀ a F' H', Sig K b F' oa σ H' env' → Stp oa env F H env' F' H' → H a = none → NewAt K b F' oa H' env' a o → Q (.ref a) H') → te σ H Q
def RRs (K : PySem.W.Frag) (F : Hp) (oa : Nat → Addr) : List V → List Res → Prop
  | [], [] => True
  | v :: vs, r :: rs => RR K F oa v r ∧ RRs K F oa vs rs
  | _, _ => False
theorem RRs.mono {K : PySem.W.Frag} {F F' : Hp} {oa : Nat → Addr} (e : Ex F F') : ∀ {vs : List V} {rs : List Res}, RRs K F oa vs rs → RRs K F' oa vs rs
  | [], [], _ => trivial
  | _ :: _, _ :: _, h => ⟨h.1.mono e, RRs.mono e h.2⟩
  | [], _ :: _, h => h.elim
  | _ :: _, [], h => h.elim
section
variable {K : PySem.W.Frag} {te ta tb tc : TE} {t u : TT} {env e1 e2 e3 : Env} {r r1 r2 : Res} {d : D} {o : OB} {i j : Nat} {n m : Int}
theorem Ev.give (h : EvN K te env o e1) : Ev K te env (.val o.d) e1 := fun b F oa σ H S Q k => h b F oa σ H S Q fun a F' H' S' e na ⟨n, n0, ne, _, x⟩ => by
  obtain ⟨u, hu, r⟩ := x.give n
  refine k _ _ _ (S'.stand n n0 ne hu) ⟨e.ff.trans (Ex.new n), e.kp, fun c h => ?_, e.th, e.sub⟩ r
  by_cases q : c = a
  · subst q; exact .inr na
  · rw [upd_ne q] at h; exact e.gn c h
end
end DL

namespace DL
open PySem L2

/-! ### operators by all that they serve -/
theorem OpR.or {X : Cx} {f : Value → Value → Sem Value} {r1 r2 : R2} (h1 : OpR X f r1) (h2 : OpR X f r2) : OpR X f (fun x y H Q => r1 x y H Q ∨ r2 x y H Q) := by
  intro pins s σ H x y v u Q I rx ry h
  rcases h with h | h
  · exact h1 pins s σ H x y v u Q I rx ry h
  · exact h2 pins s σ H x y v u Q I rx ry h
theorem CallR.or {X : Cx} {f : Value} {r1 r2 : List V → Hp → VK → Prop} (h1 : CallR X f r1) (h2 : CallR X f r2) : CallR X f (fun xs H Q => r1 xs H Q ∨ r2 xs H Q) := by
  intro pins s σ H xs us Q I r h
  rcases h with h | h
  · exact h1 pins s σ H xs us Q I r h
  · exact h2 pins s σ H xs us Q I r h
def rS : R2 := fun x y H Q => ∃ i j, x = .str i ∧ y = .str j ∧ i.length + j.length ≤ sizeLine ∧ Q (.str (i ++ j)) H
def rAddU (K : PySem.W.Frag) : R2 := fun x y H Q => rI0 (fun i j => .int (i + j)) x y H Q ∨ (rS x y H Q ∨ (rCatA K x y H Q ∨ rCat x y H Q))
theorem op_addU {X : Cx} {K : PySem.W.Frag} (e : X.K = K := by rfl) : OpR X (binaryOp .Add) (rAddU K) := by subst e; exact OpR.or op_add (OpR.or op_add_str (OpR.or op_catA op_cat))
def rSubU : R2 := rI0 fun i j => .int (i - j)
theorem op_subU {X : Cx} : OpR X (binaryOp .Sub) rSubU := op_sub
def rMulU : R2 := fun x y H Q => rI CMul (fun i j => .int (i * j)) x y H Q ∨ (rI CMulX (fun i j => .int (i * j)) x y H Q ∨ rRep x y H Q)
theorem op_mulU {X : Cx} : OpR X (binaryOp .Mult) rMulU := OpR.or op_mul (OpR.or op_mulX op_rep)
def rDivU : R2 := rI CDivW fun i j => .int (i / j)
theorem op_divU {X : Cx} : OpR X (binaryOp .FloorDiv) rDivU := op_fdivW
def rModU : R2 := rI (fun _ j => 0 < j) fun i j => .int (i % j)
theorem op_modU {X : Cx} : OpR X (binaryOp .Mod) rModU := op_mod
def rPowU : R2 := rI CPow fun i j => .int (i ^ j.toNat)
theorem op_powU {X : Cx} : OpR X (binaryOp .Pow) rPowU := op_pow
def rShlU : R2 := rI CShl fun i j => .int (i * 2 ^ j.toNat)
theorem op_shlU {X : Cx} : OpR X (binaryOp .LShift) rShlU := op_shlW
def rShrU : R2 := rI (fun _ j => 0 ≤ j) fun i j => .int (i / 2 ^ j.toNat)
theorem op_shrU {X : Cx} : OpR X (binaryOp .RShift) rShrU := op_shr
def rAndU : R2 := rI0 fun i j => .int (Builtin.bitAnd i j)
theorem op_andU {X : Cx} : OpR X (binaryOp .BitAnd) rAndU := op_and
def rOrU : R2 := rI0 fun i j => .int (Builtin.bitOr i j)
theorem op_orU {X : Cx} : OpR X (binaryOp .BitOr) rOrU := op_or
def rXorU : R2 := rI0 fun i j => .int (Builtin.bitXor i j)
theorem op_xorU {X : Cx} : OpR X (binaryOp .BitXor) rXorU := op_xor
def rLtU : R2 := rI0 fun i j => .bl (decide (i < j))
def rLeU : R2 := rI0 fun i j => .bl (decide (i ≤ j))
def rGtU : R2 := rI0 fun i j => .bl (decide (j < i))
def rGeU : R2 := rI0 fun i j => .bl (decide (j ≤ i))
theorem op_ltU {X : Cx} : OpR X (compareOp .Lt) rLtU := op_lt
theorem op_leU {X : Cx} : OpR X (compareOp .LtE) rLeU := op_le
theorem op_gtU {X : Cx} : OpR X (compareOp .Gt) rGtU := op_gt
theorem op_geU {X : Cx} : OpR X (compareOp .GtE) rGeU := op_ge
def rIsNn : R2 := fun x y H Q => y = .non ∧ Q (.bl (decide (x = .non))) H
def rNotNn : R2 := fun x y H Q => y = .non ∧ Q (.bl (!decide (x = .non))) H
def rIsU : R2 := fun x y H Q => rIsNn x y H Q ∨ rIsB x y H Q
def rNotU : R2 := fun x y H Q => rNotNn x y H Q ∨ rNotB x y H Q
theorem op_isU {X : Cx} : OpR X (compareOp .Is) rIsU := OpR.or op_isN op_isBl
theorem op_notU {X : Cx} : OpR X (compareOp .IsNot) rNotU := OpR.or op_notN op_notBl
def rLen1 (K : PySem.W.Frag) : List V → Hp → VK → Prop := fun xs H Q => ∃ x n, xs = [x] ∧ LenV K x H n ∧ Q (.int n) H
def rLen2 : List V → Hp → VK → Prop := fun xs H Q => ∃ a kvs, xs = [V.ref a] ∧ H a = some (.dK kvs) ∧ Q (.int kvs.length) H
def rLenU (K : PySem.W.Frag) : List V → Hp → VK → Prop := fun xs H Q => rLen1 K xs H Q ∨ rLen2 xs H Q
theorem call_lenU {X : Cx} {K : PySem.W.Frag} (e : X.K = K := by rfl) : CallR X (.builtin "len") (rLenU K) := by subst e; exact CallR.or call_len call_lenD
theorem call_allU {X : Cx} {K : PySem.W.Frag} (hc : X.calm = true) (e : X.K = K := by rfl) : CallR X (.builtin "all") (rAll K) := by subst e; exact cr_all hc
theorem call_sumU {X : Cx} {K : PySem.W.Frag} (hc : X.calm = true) (e : X.K = K := by rfl) : CallR X (.builtin "sum") (rSum K) := by subst e; exact cr_sum hc
theorem ix_U {X : Cx} {K : PySem.W.Frag} (e : X.K = K := by rfl) : IxR X (rIx K) := by subst e; exact ix_seq
def rAbs : List V → Hp → VK → Prop := fun xs H Q => ∃ i, xs = [.int i] ∧ Q (.int (if i < 0 then -i else i)) H
theorem call_absU {X : Cx} : CallR X (.builtin "abs") rAbs := call_abs
def rMax2 : List V → Hp → VK → Prop := fun xs H Q => ∃ i j, xs = [.int i, .int j] ∧ Q (.int (if j > i then j else i)) H
def rMin2 : List V → Hp → VK → Prop := fun xs H Q => ∃ i j, xs = [.int i, .int j] ∧ Q (.int (if j < i then j else i)) H
theorem call_max2U {X : Cx} (hc : X.calm = true) : CallR X (.builtin "max") rMax2 := call_max2 hc
theorem call_min2U {X : Cx} (hc : X.calm = true) : CallR X (.builtin "min") rMin2 := call_min2 hc
def rInt1 : List V → Hp → VK → Prop := fun xs H Q => (∃ i, xs = [.int i] ∧ Q (.int i) H) ∨ ∃ k, xs = [.bl k] ∧ Q (.int (if k then 1 else 0)) H
theorem call_intU {X : Cx} : CallR X (.type "int") rInt1 := call_int1
def rListOf (K : PySem.W.Frag) : List V → Hp → VK → Prop := fun xs H Q => ∃ p ys, xs = [.ref p] ∧ (SqL K H p ys ∨ SqT K H p ys) ∧ ∀ l, H l = none → Q (.ref l) (upd H l (.lst ys))
theorem call_listU {X : Cx} {K : PySem.W.Frag} (e : X.K = K := by rfl) : CallR X (.type "list") (rListOf K) := by subst e; exact call_list_of
def rTupleOf (K : PySem.W.Frag) : List V → Hp → VK → Prop := fun xs H Q => ∃ p ys, xs = [.ref p] ∧ ((SqL K H p ys ∧ ∀ l, H l = none → Q (.ref l) (upd H l (.tup ys))) ∨ (SqT K H p ys ∧ Q (.ref p) H))
theorem call_tupleU {X : Cx} {K : PySem.W.Frag} (e : X.K = K := by rfl) : CallR X (.type "tuple") (rTupleOf K) := by subst e; exact call_tuple_of
def rSlU (K : PySem.W.Frag) : V → Option Int → Option Int → Hp → VK → Prop := fun x lo hi H Q => rSlL K x lo hi H Q ∨ (rSlA K x lo hi H Q ∨ rSlS x lo hi H Q)
theorem SlR.or {X : Cx} {r1 r2 : V → Option Int → Option Int → Hp → VK → Prop} (h1 : SlR X r1) (h2 : SlR X r2) : SlR X (fun x l u H Q => r1 x l u H Q ∨ r2 x l u H Q) := by
  intro pins s σ H x v vl vu l u sl Q I rx hs pl pu h
  rcases h with h | h
  · exact h1 pins s σ H x v vl vu l u sl Q I rx hs pl pu h
  · exact h2 pins s σ H x v vl vu l u sl Q I rx hs pl pu h
theorem sl_U {X : Cx} {K : PySem.W.Frag} (e : X.K = K := by rfl) : SlR X (rSlU K) := by subst e; exact SlR.or sl_list (SlR.or sl_tupA sl_str)

/-! ### PyData of data -/
mutual
def py : D → Option PyData
  | .non => some .none
  | .bl b => some (.bool b)
  | .int i => some (.int i)
  | .str x => some (.str x)
  | .tup l => (pys l).map .tuple
  | .lst l => (pys l).map .list
  | .ty _ => none
  | .scr _ => none
  | .ref _ => none
  | .dic _ => none
  | .dit _ => none
  | .obj _ _ => none
  | .exc _ => none
def pys : List D → Option (List PyData)
  | [] => some []
  | d :: r => match py d, pys r with
    | some x, some y => some (x :: y)
    | _, _ => none
end
mutual
theorem Rep.dp {K : PySem.W.Frag} {H : Hp} : ∀ {v : V} {d : D} {p : PyData}, Rep K H v d → py d = some p → Dp K H v p
  | _, _, _, .non, e => by unfold py at e; cases e; exact .non
  | _, _, _, .bl b, e => by unfold py at e; cases e; exact .bl b
  | _, _, _, .int b, e => by unfold py at e; cases e; exact .int b
  | _, _, _, .str b, e => by unfold py at e; cases e; exact .str b
  | _, _, _, .tup (l := l) h r, e => by
    unfold py at e
    cases q : pys l with
    | none => rw [q] at e; cases e
    | some x => rw [q] at e; cases e; exact .tup h (RepL.dp r q)
  | _, _, _, .lst (l := l) h r, e => by
    unfold py at e
    cases q : pys l with
    | none => rw [q] at e; cases e
    | some x => rw [q] at e; cases e; exact .lst (.inl (.inl h)) (RepL.dp r q)
  | _, _, _, .ty _, e => by unfold py at e; cases e
  | _, _, _, .scr _ _, e => by unfold py at e; cases e
  | _, _, _, .ref _, e => by unfold py at e; cases e
  | _, _, _, .dic _ _ _, e => by unfold py at e; cases e
  | _, _, _, .dit _ _ _, e => by unfold py at e; cases e
  | _, _, _, .obj _ _ _, e => by unfold py at e; cases e
  | _, _, _, .exc _, e => by unfold py at e; cases e
theorem RepL.dp {K : PySem.W.Frag} {H : Hp} : ∀ {vs : List V} {ds : List D} {ps : List PyData}, RepL K H vs ds → pys ds = some ps → DpAll K H vs ps
  | _, _, _, .nil, e => by unfold pys at e; cases e; exact .nil
  | _, _, _, .cons (d := d) (ds := ds) h r, e => by
    unfold pys at e
    cases q1 : py d with
    | none => rw [q1] at e; cases e
    | some x =>
      cases q2 : pys ds with
      | none => rw [q1, q2] at e; cases e
      | some y => rw [q1, q2] at e; cases e; exact .cons (Rep.dp h q1) (RepL.dp r q2)
end
section
variable {K : PySem.W.Frag} {te ta tb tc : TE} {t u : TT} {env e1 e2 e3 : Env} {r r1 r2 : Res} {d d1 d2 : D} {o : OB} {i j : Int} {x y : Str} {c c1 c2 : Bool} {l m : List D}
/-! ### operators -/
def isNon : D → Bool
  | .non => true
  | _ => false
theorem rep_non {F : Hp} {v : V} (h : Rep K F v d) : decide (v = V.non) = isNon d := by
  cases h <;> first | rfl | simp [isNon]
/-! ### tests -/
/-! ### calls of built-ins -/
end
end DL

namespace DL
open PySem L2

section
variable {K : PySem.W.Frag} {te ta tb tc : TE} {t u : TT} {env e1 e2 e3 : Env} {r r1 r2 : Res} {d d1 d2 : D} {o : OB} {i j : Int} {x y : Str} {c c1 c2 : Bool} {l m : List D}
/-! ### isinstance -/
/-! ### subscripts -/
def cutD {α : Type} (xs : List α) (lo hi : Option Int) : List α := (xs.drop (HT.sIx xs.length 0 lo)).take (HT.sIx xs.length xs.length hi - HT.sIx xs.length 0 lo)
theorem cut_rep {F : Hp} {vs : List V} {lo hi : Option Int} (h : RepL K F vs l) : RepL K F (cutV vs lo hi) (cutD l lo hi) := by
  unfold cutV cutD
  rw [h.length]
  exact (h.drop _).take _
/-! ### displays, list(..), tuple(..), + -/
/-! ### what is walked -/
/-- both: for x in e, by what e is -/
def iSeqU (K : PySem.W.Frag) (te : TE) : TI := fun σ H R => iList K te σ H R ∨ (iTup K te σ H R ∨ iStr te σ H R)
theorem PI.or {X : Cx} {tg e : Expr} {w1 w2 : TI} (h1 : PI X tg e w1) (h2 : PI X tg e w2) : PI X tg e (fun σ H R => w1 σ H R ∨ w2 σ H R) := ⟨fun pins s σ H R I h => by
  rcases h with h | h
  · exact h1.run pins s σ H R I h
  · exact h2.run pins s σ H R I h⟩
theorem pi_seqU {X : Cx} {K : PySem.W.Frag} {tg e : Expr} {te : TE} (h : PE X e te) (q : X.K = K := by rfl) : PI X tg e (iSeqU K te) := by subst q; exact PI.or (pi_list h) (PI.or (pi_tup h) (pi_str h))
/-- the ints of a range -/
def rng (lo : Int) (n : Nat) : List D := (List.range n).map fun i => .int (lo + (i : Nat))
def rngC (lo c : Int) (n : Nat) : List D := (List.range n).map fun i => .int (lo + (i : Nat) * c)
theorem rng_get {lo : Int} {n i : Nat} {d : D} (h : (rng lo n)[i]? = some d) : d = .int (lo + (i : Nat)) ∧ i < n := by
  unfold rng at h
  rw [List.getElem?_map] at h
  by_cases q : i < n
  · rw [List.getElem?_range q] at h; cases h; exact ⟨rfl, q⟩
  · rw [List.getElem?_eq_none (by simpa using Nat.le_of_not_lt q)] at h; cases h
theorem rngC_get {lo c : Int} {n i : Nat} {d : D} (h : (rngC lo c n)[i]? = some d) : d = .int (lo + (i : Nat) * c) ∧ i < n := by
  unfold rngC at h
  rw [List.getElem?_map] at h
  by_cases q : i < n
  · rw [List.getElem?_range q] at h; cases h; exact ⟨rfl, q⟩
  · rw [List.getElem?_eq_none (by simpa using Nat.le_of_not_lt q)] at h; cases h
theorem rng_len {lo : Int} {n : Nat} : (rng lo n).length = n := by unfold rng; simp
theorem rngC_len {lo c : Int} {n : Nat} : (rngC lo c n).length = n := by unfold rngC; simp
end
end DL

namespace DL
open PySem L2

/-! ### targets -/
section
variable {K : PySem.W.Frag} {te ta tb tc : TE} {t u : TT} {env env' e1 e2 e3 : Env} {r r1 r2 : Res} {d d1 d2 : D} {o : OB} {i j : Nat} {c c1 c2 : Bool} {l m : List D} {g : TG}
/-! ### comprehensions -/
def wipeE (env : Env) : List Nat → Env
  | [] => env
  | v :: vs => (wipeE env vs).set v .any
theorem wipeE_len (env : Env) : ∀ vs : List Nat, (wipeE env vs).length = env.length
  | [] => rfl
  | v :: vs => by unfold wipeE; rw [List.length_set, wipeE_len env vs]
theorem wipeE_get {x : EV} : ∀ {vs : List Nat} {i : Nat}, (wipeE env vs)[i]? = some x → x = .any ∨ (i ∉ vs ∧ env[i]? = some x)
  | [], i, h => .inr ⟨by simp, h⟩
  | v :: vs, i, h => by
    unfold wipeE at h
    by_cases q : v = i
    · subst q
      rw [List.getElem?_set] at h
      split at h
      · split at h
        · cases h; exact .inl rfl
        · cases h
      · rename_i z; exact absurd rfl z
    · rw [List.getElem?_set_ne q] at h
      rcases wipeE_get h with z | ⟨z1, z2⟩
      · exact .inl z
      · exact .inr ⟨by simp only [List.mem_cons, not_or]; exact ⟨fun z => q z.symm, z1⟩, z2⟩
theorem wipe_out {σ : L2.St} : ∀ {vs : List Nat} {i : Nat}, i ∉ vs → (wipe σ vs)[i]? = σ[i]?
  | [], _, _ => rfl
  | v :: vs, i, h => by
    simp only [List.mem_cons, not_or] at h
    unfold wipe
    rw [List.getElem?_set_ne (Ne.symm h.1), wipe_out h.2]
theorem Sig.wiped {b : Bs} {F : Hp} {oa : Nat → Addr} {σ : L2.St} {H : Hp} (S : Sig K b F oa σ H env) (vs : List Nat) : Sig K b F oa (L2.wipe σ vs) H (wipeE env vs) where
  g := S.g
  len := by rw [wipe_length, wipeE_len, S.len]
  val := fun i d e => by
    rcases wipeE_get e with q | ⟨q, e⟩
    · cases q
    · rw [wipe_out q]; exact S.val i d e
  own := fun i o e => by
    rcases wipeE_get e with q | ⟨q, e⟩
    · cases q
    · rw [wipe_out q]; exact S.own i o e
  dist := fun i j o u e f z => by
    rcases wipeE_get e with q | ⟨_, e⟩
    · cases q
    · rcases wipeE_get f with q | ⟨_, f⟩
      · cases q
      · exact S.dist i j o u e f z
  fix := S.fix
/-- behind a turn: the slots vs as they were ahead, the others as they are -/
def back (vs : List Nat) : Nat → Env → Env → Env
  | n, a :: r, x :: s => (if vs.contains n then a else x) :: back vs (n + 1) r s
  | _, _, _ => []
theorem back_get {vs : List Nat} : ∀ {env e2 : Env} {n i : Nat}, env.length = e2.length → (back vs n env e2)[i]? = if vs.contains (n + i) then env[i]? else e2[i]?
  | [], [], _, i, _ => by unfold back; simp
  | [], _ :: _, _, _, h => by simp at h
  | _ :: _, [], _, _, h => by simp at h
  | a :: r, x :: s, n, 0, _ => by
    unfold back
    rw [Nat.add_zero]
    show some (if vs.contains n = true then a else x) = if vs.contains n = true then some a else some x
    split <;> rfl
  | a :: r, x :: s, n, i + 1, h => by
    unfold back
    rw [List.getElem?_cons_succ, back_get (by simpa using h), show n + 1 + i = n + (i + 1) by omega]
    rfl
def noOwn (vs : List Nat) (env : Env) : Prop := ∀ (i : Nat) (o : OB), i ∈ vs → env[i]? ≠ some (.own o)
/-- what a turn in the block leaves, told of the slots outside -/
theorem Stp.block {oa : Nat → Addr} {vs : List Nat} {F H F' H' : Hp} (x : Stp oa (wipeE env vs) F H e2 F' H') (n : noOwn vs env) (hl : env.length = e2.length) : Stp oa env F H (back vs 0 env e2) F' H' where
  ff := x.ff
  kp := fun a u h q => x.kp a u h fun j o e => by
    rcases wipeE_get e with z | ⟨_, z⟩
    · cases z
    · exact q j o z
  gn := x.gn
  th := x.th
  sub := fun j o e => by
    rw [back_get hl, Nat.zero_add] at e
    by_cases w : j ∈ vs
    · rw [if_pos (by simpa using w)] at e; exact absurd e (n j o w)
    · rw [if_neg (by simpa using w)] at e
      obtain ⟨o', e'⟩ := x.sub j o e
      rcases wipeE_get e' with z | ⟨_, z⟩
      · cases z
      · exact ⟨o', z⟩
end
end DL

namespace DL
open PySem L2

/-- what a def hands back -/
inductive Ret where
  | val (d : D) | new (o : OB) | exc (C : Addr)
def RetR (K : PySem.W.Frag) (b : Bs) (F : Hp) (H : Hp) (v : V) : Ret → Prop
  | .val d => Rep K F v d
  | .new o => ∃ a, v = .ref a ∧ F a = none ∧ b.H a = none ∧ (∀ j, b.fx j ≠ some a) ∧ ORep K F H a o
  | .exc _ => False
structure Sat (K : PySem.W.Frag) (b : Bs) (F : Hp) (W : WX) (D : Ends) (N B C : Env → Prop) (R : Ret → Env → Prop) : Prop where
  nx : ∀ env F' oa σ H, N env → Sig K b F' oa σ H env → Ex F F' → D.nx σ H
  bk : ∀ env F' oa σ H, B env → Sig K b F' oa σ H env → Ex F F' → D.bk σ H
  ct : ∀ env F' oa σ H, C env → Sig K b F' oa σ H env → Ex F F' → D.ct σ H
  rt : ∀ r env F' oa σ H v, R r env → Sig K b F' oa σ H env → Ex F F' → RetR K b F' H v r → D.rt v H
  xc : ∀ X env F' oa σ H, R (.exc X) env → Sig K b F' oa σ H env → Ex F F' → W (.ref X) none σ H
theorem Sat.mono {K : PySem.W.Frag} {b : Bs} {F F1 : Hp} {W : WX} {D : Ends} {N B C : Env → Prop} {R : Ret → Env → Prop} (s : Sat K b F W D N B C R) (e : Ex F F1) : Sat K b F1 W D N B C R :=
  ⟨fun env F' oa σ H h S x => s.nx env F' oa σ H h S (e.trans x), fun env F' oa σ H h S x => s.bk env F' oa σ H h S (e.trans x), fun env F' oa σ H h S x => s.ct env F' oa σ H h S (e.trans x), fun r env F' oa σ H v h S x q => s.rt r env F' oa σ H v h S (e.trans x) q, fun X env F' oa σ H h S x => s.xc X env F' oa σ H h S (e.trans x)⟩
/-- a statement: from env it goes on (N), breaks (B), continues (C), or hands back (R); pr: the slots whose objects were handed in to be changed -/
def Exec (K : PySem.W.Frag) (pr : List Nat) (W : WX) (t : TS) (env : Env) (N B C : Env → Prop) (R : Ret → Env → Prop) : Prop := ∀ (b : Bs) (F : Hp) (oa : Nat → Addr) (σ : L2.St) (H : Hp) (D : Ends),
  (∀ i, b.fx i ≠ none → i ∈ pr) → Sig K b F oa σ H env → Sat K b F W D N B C R → t D σ H

section
variable {K : PySem.W.Frag} {pr : List Nat} {W : WX} {te ta tb tc : TE} {t u : TT} {s s1 s2 : TS} {env env' e1 e2 e3 : Env} {r r1 r2 : Res} {d d1 d2 : D} {o : OB} {i j : Nat} {c c1 c2 : Bool} {l m : List D} {g : TG} {N N' B B' C C' : Env → Prop} {R R' : Ret → Env → Prop}
theorem x_mono (h : Exec K pr W s env N B C R) (hn : ∀ e, N e → N' e) (hb : ∀ e, B e → B' e) (hc : ∀ e, C e → C' e) (hr : ∀ r e, R r e → R' r e) : Exec K pr W s env N' B' C' R' := fun b F oa σ H D hp S st =>
  h b F oa σ H D hp S ⟨fun env F oa σ H h S => st.nx env F oa σ H (hn _ h) S, fun env F oa σ H h S => st.bk env F oa σ H (hb _ h) S, fun env F oa σ H h S => st.ct env F oa σ H (hc _ h) S, fun r env F oa σ H v h S x q => st.rt r env F oa σ H v (hr _ _ h) S x q, fun X env F oa σ H h S x => st.xc X env F oa σ H (hr _ _ h) S x⟩
end

/-! ### promises -/
/-- an argument: data, or an object handed in to be changed -/
inductive AV where
  | val (d : D) | own (o : OB)
structure ArgsR (K : PySem.W.Frag) (F H : Hp) (vs : List V) (as : List AV) : Prop where
  len : vs.length = as.length
  val : ∀ (i : Nat) (d : D), as[i]? = some (.val d) → ∃ v, vs[i]? = some v ∧ Rep K F v d
  own : ∀ (i : Nat) (o : OB), as[i]? = some (.own o) → ∃ a, vs[i]? = some (.ref a) ∧ F a = none ∧ ORep K F H a o
  dist : ∀ (i j : Nat) (o u : OB) (a : Addr), as[i]? = some (.own o) → as[j]? = some (.own u) → vs[i]? = some (.ref a) → vs[j]? = some (.ref a) → i = j
/-- an address of an object that was handed in to be changed -/
def ownA (vs : List V) (as : List AV) (a : Addr) : Prop := ∃ (i : Nat) (o : OB), as[i]? = some (.own o) ∧ vs[i]? = some (.ref a)
structure CallEnd (K : PySem.W.Frag) (F H F' H' : Hp) (vs : List V) (as as' : List AV) (v : V) (r : Ret) : Prop where
  ff : Ex F F'
  fh : Ex F' H'
  kp : ∀ a u, H a = some u → ¬ ownA vs as a → H' a = some u
  gn : ∀ a, F' a ≠ none → F a ≠ none ∨ H a = none
  th : ∀ a, H a ≠ none → H' a ≠ none
  own : ∀ (i : Nat) (o : OB), as[i]? = some (.own o) → ∃ o' a, as'[i]? = some (.own o') ∧ vs[i]? = some (.ref a) ∧ F' a = none ∧ ORep K F' H' a o'
  ret : match r with
    | .val d => Rep K F' v d
    | .new o => ∃ a, v = .ref a ∧ F' a = none ∧ H a = none ∧ ORep K F' H' a o
    | .exc _ => True
/-- what is wanted of what came -/
def outR (r : Ret) (E : XK) (Q : VK) (v : V) (H : Hp) : Prop := match r with
  | .exc C => E (.ref C) none H
  | _ => Q v H
/-- THE PROMISE: from arguments as it hands back r and leaves them as' -/
def SpG (K : PySem.W.Frag) (P : List AV → Ret → List AV → Prop) : Sp := fun vs H Q E => ∃ F as r as', Ex F H ∧ ArgsR K F H vs as ∧ P as r as' ∧ ∀ v F' H', CallEnd K F H F' H' vs as as' v r → outR r E Q v H'
def AV.ev : AV → EV
  | .val d => .val d
  | .own o => .own o
open Classical in
noncomputable def hideA (vs : List V) (as : List AV) (H : Hp) : Hp := fun a => if ownA vs as a then none else H a
theorem hideA_ex {vs : List V} {as : List AV} {H : Hp} : Ex (hideA vs as H) H := fun a o e => by
  unfold hideA at e
  split at e
  · cases e
  · exact e
/-- what was handed in is in its slots yet -/
def Held (as as' : List AV) (e : Env) : Prop := ∀ (i : Nat) (o : OB), as[i]? = some (AV.own o) → ∃ o', as'[i]? = some (AV.own o') ∧ e[i]? = some (EV.own o')
/-- a def's body keeps its promise -/
theorem run_SpG {K : PySem.W.Frag} {P : List AV → Ret → List AV → Prop} {Nm : List Str} {n : Nat} {t : TS} {vs : List V} {H : Hp} {Q : VK} {E : XK} (h : SpG K P vs H Q E) (hn : ∀ as r as', P as r as' → as.length = n ∧ n ≤ Nm.length)
    (body : ∀ as r as', P as r as' → ∃ pr : List Nat, (∀ (i : Nat) (o : OB), as[i]? = some (AV.own o) → i ∈ pr) ∧ Exec K pr (fun cls d _ H => E cls d H) t (as.map AV.ev ++ List.replicate (Nm.length - n) .any)
      (fun e => r = .val .non ∧ Held as as' e) (fun _ => False) (fun _ => False) (fun q e => q = r ∧ Held as as' e)) :
    t { nx := fun _ H' => Q .non H', rt := Q } (L2.start Nm vs) H := by
  obtain ⟨F, as, r, as', e, ar, p, k⟩ := h
  obtain ⟨hl, hnm⟩ := hn as r as' p
  obtain ⟨pr, hpr, hx⟩ := body as r as' p
  have lvs : vs.length = n := by rw [ar.len, hl]
  have stg : ∀ (i : Nat) (v : V), vs[i]? = some v → (L2.start Nm vs)[i]? = some (some v) := fun i v h => by
    unfold L2.start
    have hi : i < vs.length := (List.getElem?_eq_some_iff.mp h).1
    rw [List.getElem?_append_left (by simpa using hi), List.getElem?_map, h]; rfl
  have evg : ∀ (i : Nat) (x : EV), (as.map AV.ev ++ List.replicate (Nm.length - n) .any)[i]? = some x → x = .any ∨ ∃ a, as[i]? = some a ∧ x = a.ev := fun i x h => by
    by_cases hi : i < as.length
    · rw [List.getElem?_append_left (by simpa using hi), List.getElem?_map] at h
      cases z : as[i]? with
      | none => rw [z] at h; cases h
      | some a => rw [z] at h; cases h; exact .inr ⟨a, rfl, rfl⟩
    · rw [List.getElem?_append_right (by simpa using Nat.le_of_not_lt hi)] at h
      have := List.getElem?_eq_some_iff.mp h
      obtain ⟨h1, h2⟩ := this
      rw [List.getElem_replicate] at h2
      exact .inl h2.symm
  have evo : ∀ (i : Nat) (o : OB), (as.map AV.ev ++ List.replicate (Nm.length - n) .any)[i]? = some (.own o) → as[i]? = some (.own o) := fun i o h => by
    rcases evg i _ h with z | ⟨a, h1, h2⟩
    · cases z
    · cases a with
      | val d => cases h2
      | own u => cases h2; exact h1
  -- the addresses
  let oa : Nat → Addr := fun i => match vs[i]? with
    | some (.ref a) => a
    | _ => 0
  have oav : ∀ (i : Nat) (a : Addr), vs[i]? = some (.ref a) → oa i = a := fun i a h => by show (match vs[i]? with | some (.ref a) => a | _ => 0) = a; rw [h]
  let fx : Nat → Option Addr := fun i => match as[i]? with
    | some (.own _) => some (oa i)
    | _ => none
  have fxs : ∀ i a, fx i = some a → ∃ o, as[i]? = some (.own o) ∧ a = oa i := fun i a h => by
    have h' : (match as[i]? with | some (.own _) => some (oa i) | _ => none) = some a := h
    cases z : as[i]? with
    | none => rw [z] at h'; cases h'
    | some x =>
      rw [z] at h'
      cases x with
      | val d => cases h'
      | own o => cases h'; exact ⟨o, rfl, rfl⟩
  have hidN : ∀ (i : Nat) (o : OB) (a : Addr), as[i]? = some (.own o) → vs[i]? = some (.ref a) → hideA vs as H a = none := fun i o a h1 h2 => by
    unfold hideA
    rw [if_pos ⟨i, o, h1, h2⟩]
  have S : Sig K ⟨F, hideA vs as H, fx⟩ F oa (L2.start Nm vs) H (as.map AV.ev ++ List.replicate (Nm.length - n) .any) := by
    refine ⟨⟨Ex.refl _, hideA_ex, e, fun a h => .inl h⟩, ?_, fun i d h => ?_, fun i o h => ?_, fun i j o u h1 h2 q => ?_, fun i a h => ?_⟩
    · unfold L2.start; simp [lvs, hl]
    · rcases evg i _ h with z | ⟨a, h1, h2⟩
      · cases z
      · cases a with
        | own o => cases h2
        | val d' =>
          cases h2
          obtain ⟨v, q1, q2⟩ := ar.val i d h1
          exact ⟨v, stg i v q1, q2⟩
    · have h1 := evo i o h
      obtain ⟨a, q1, q2, q3⟩ := ar.own i o h1
      rw [oav i a q1]
      exact ⟨stg i _ q1, q2, hidN i o a h1 q1, q3⟩
    · have h1 := evo i o h1
      have h2 := evo j u h2
      obtain ⟨a, q1, _⟩ := ar.own i o h1
      obtain ⟨a', q1', _⟩ := ar.own j u h2
      rw [oav i a q1, oav j a' q1'] at q
      subst q
      exact ar.dist i j o u a h1 h2 q1 q1'
    · obtain ⟨o, h1, rfl⟩ := fxs i a h
      obtain ⟨a, q1, _, q3⟩ := ar.own i o h1
      obtain ⟨w, hw⟩ := q3.ho
      exact ⟨rfl, by rw [oav i a q1, hw]; simp⟩
  have fin : ∀ env F' oa' σ' H' v, Sig K ⟨F, hideA vs as H, fx⟩ F' oa' σ' H' env → Held as as' env → (RetR K ⟨F, hideA vs as H, fx⟩ F' H' v r ∨ ∃ C, r = .exc C) → outR r E Q v H' := fun env F' oa' σ' H' v S' ho hr => by
    have fxo : ∀ (i : Nat) (o : OB) (a : Addr), as[i]? = some (.own o) → vs[i]? = some (.ref a) → oa' i = a ∧ H' a ≠ none := fun i o a h1 h2 => by
      have q : fx i = some a := by
        show (match as[i]? with | some (.own _) => some (oa i) | _ => none) = some a
        rw [h1, oav i a h2]
      exact S'.fix i a q
    have hkp : ∀ a u, H a = some u → ¬ ownA vs as a → H' a = some u := fun a u h n => S'.g.gh a u (by
      show hideA vs as H a = some u
      unfold hideA
      rw [if_neg n]; exact h)
    refine k v F' H' ⟨S'.g.gf, S'.g.fh, hkp, fun a h => ?_, fun a h => ?_, fun i o h => ?_, ?_⟩
    · rcases S'.g.gn a h with q | q
      · exact .inl q
      · by_cases z : ownA vs as a
        · obtain ⟨i, o, h1, h2⟩ := z
          obtain ⟨o', h3, h4⟩ := ho i o h1
          obtain ⟨_, x2, _⟩ := S'.own i o' h4
          rw [(fxo i o a h1 h2).1] at x2
          exact absurd x2 h
        · refine .inr ?_
          have q' : hideA vs as H a = none := q
          unfold hideA at q'
          rw [if_neg z] at q'
          exact q'
    · by_cases z : ownA vs as a
      · obtain ⟨i, o, h1, h2⟩ := z
        exact (fxo i o a h1 h2).2
      · cases w : H a with
        | none => exact absurd w h
        | some u => rw [hkp a u w z]; simp
    · obtain ⟨o', h3, h4⟩ := ho i o h
      obtain ⟨a, q1, _⟩ := ar.own i o h
      obtain ⟨_, x2, _, x4⟩ := S'.own i o' h4
      rw [(fxo i o a h q1).1] at x2 x4
      exact ⟨o', a, h3, q1, x2, x4⟩
    · cases r with
      | exc C => trivial
      | val d =>
        rcases hr with hr | ⟨_, hr⟩
        · exact hr
        · cases hr
      | new o =>
        rcases hr with hr | ⟨_, hr⟩
        rotate_left
        · cases hr
        obtain ⟨a, rfl, h1, h2, h3, h4⟩ := hr
        refine ⟨a, rfl, h1, ?_, h4⟩
        have h2' : hideA vs as H a = none := h2
        unfold hideA at h2'
        split at h2'
        · rename_i z
          obtain ⟨i, o', h5, h6⟩ := z
          refine absurd ?_ (h3 i)
          show (match as[i]? with | some (.own _) => some (oa i) | _ => none) = some a
          rw [h5, oav i a h6]
        · exact h2'
  refine hx ⟨F, hideA vs as H, fx⟩ F oa (L2.start Nm vs) H _ (fun i h => ?_) S ⟨fun env F' oa σ H h S x => ?_, fun _ _ _ _ _ h => h.elim, fun _ _ _ _ _ h => h.elim, fun q env F' oa σ H v h S x hr => ?_, fun X env F' oa σ H h S x => ?_⟩
  · cases z : fx i with
    | none => exact absurd z h
    | some a =>
      obtain ⟨o, h1, _⟩ := fxs i a z
      exact hpr i o h1
  · obtain ⟨h1, h2⟩ := h
    subst h1
    exact fin env F' oa σ H .non S h2 (.inl .non)
  · obtain ⟨h1, h2⟩ := h
    subst h1
    have := fin env F' oa σ H v S h2 (.inl hr)
    cases q with
    | exc C => exact hr.elim
    | val d => exact this
    | new o => exact this
  · obtain ⟨h1, h2⟩ := h
    subst h1
    exact fin env F' oa σ H .non S h2 (.inr ⟨_, rfl⟩)
/-- raise C('..') -/
def tRaise (W : WX) (C : Addr) : TS := fun _ σ H => W (.ref C) none σ H
section
variable {K : PySem.W.Frag} {pr : List Nat} {W : WX} {env e1 : Env} {N B C : Env → Prop} {R : Ret → Env → Prop} {X : Addr}
end
end DL

namespace DL
open PySem L2

/-! ### calls -/
section
variable {K : PySem.W.Frag} {env e1 : Env} {P : List AV → Ret → List AV → Prop} {rs : List Res} {as as' : List AV} {d : D} {o : OB} {ta : TA} {E : XK}
def slots : List Res → List Nat
  | [] => []
  | .val _ :: r => slots r
  | .slot i :: r => i :: slots r
/-! ### expressions that raise -/
variable {W : WX} {X : Addr} {te tb tl : TE} {t u : TT} {rr : R2} {e2 : Env} {r : Res} {cc : Bool} {pr : List Nat} {N B C : Env → Prop} {R : Ret → Env → Prop} {g : TG}
end
end DL

/-! ### an exception that is caught, and kept by a name behind its clause -/
namespace L2
open PySem PySem.Spec PyProof.Rows DL
section
variable {X : Cx} {pins : List (Addr × Obj)} {σ : L2.St} {H : Hp} {s : Shared}
/-- an exception that lies there untracked is tracked from now on -/
theorem Inv.heldExc (I : Inv X pins σ H s) {C a : Addr} {oe : Obj} {vs : Array Value} (ha : s.heap.get? a = some oe) (hz : Zc (.ref C) none oe) (hd : oe.data = .fields vs) (na : H a = none) (nL : a ≠ X.env.locals)
    (n0 : X.s_0.heap.get? a = none) (np : ∀ p ∈ X.pn ++ pins, p.1 ≠ a) : Inv X pins σ (upd H a (ExK C a)) s := by
  have other : ∀ {b : Addr} {o : HO}, H b = some o → upd H a (ExK C a) b = some o := fun {b o} hb => by
    rw [upd_ne (fun z => by rw [z, na] at hb; cases hb)]; exact hb
  have cellNe : ∀ x c, X.env.cells.lookup x = some c → c ≠ a := fun x c hx z => by
    obtain ⟨v, o, ho, hv⟩ := I.cell x c hx
    rw [z, ha] at ho
    cases ho
    rw [hd] at hv; cases hv
  refine { ok := I.ok, os := I.os, bare := I.bare, base := ?_, loc := I.loc, cell := I.cell, free := ?_, freeC := fun x c hx => ?_, pin := fun p hp => ?_, hok := fun b o hb => ?_, len := I.len }
  · refine { keep := I.base.keep, slot := I.base.slot, free := fun b o hb h0 hx => ?_, there := I.base.there, tups := fun b xs hb => other (I.base.tups b xs hb), frzs := fun b o u hb => other (I.base.frzs b o u hb), tbls := fun b ps hb => ?_ }
    · rw [upd_ne (fun z => by rw [z, n0] at hb; cases hb)]
      exact I.base.free b o hb h0 hx
    · obtain ⟨more, q⟩ := I.base.tbls b ps hb
      exact ⟨more, other q⟩
  · rw [upd_ne (Ne.symm nL)]; exact I.free
  · rw [upd_ne (cellNe x c hx)]; exact I.freeC x c hx
  · obtain ⟨h1, h2, h3⟩ := I.pin p hp
    exact ⟨h1, by rw [upd_ne (np p hp)]; exact h2, h3⟩
  · by_cases z : b = a
    · subst z
      rw [upd_same] at hb
      cases hb
      exact ⟨⟨oe, vs, ha, hz, hd⟩, ⟨oe, ha⟩, fun _ _ ⟨o', vs', q1, q2⟩ k => ⟨o', vs', k o' q1, q2⟩⟩
    · rw [upd_ne z] at hb
      exact (I.hok b o hb).stay (fun _ _ _ q => q) (fun _ q => other q) (fun _ _ q => other q)
/-- what 'except x as n: m = n' wishes: slot j is m's, i is n's -/
def wKeep (K : PySem.W.Frag) (c : Value) (i j : Nat) (D : Ends) : WX := fun cls d σ H =>
  ∃ C, cls = .ref C ∧ d = none ∧ PySem.W.exmOne K cls c = some true ∧ ∀ a, H a = none → D.nx (((σ.set i (some (.ref a))).set j (some (.ref a))).set i none) (upd H a (ExK C a))
end
section
variable {X : Cx} {x n : Str} {c : Value} {i j : Nat} {body suite : List Stmt} {b₀ : Stmt} {np pos pos' : Pos} {tb : WX → TS}
theorem ps_try_keep (hs : X.stack = X.env :: X.outer) (hf : X.env.frame = some X.env.locals) (hex : X.ex = []) (hN : X.N.Nodup) (hi : X.N[i]? = some n) (hln : X.env.kindOf n = some .local) (hc : Names X x c)
    (hb : ∀ (W : WX) (pn : List (Addr × Obj)) (xe : Value → Shared → Prop), Takes (X.tr pn xe) W → PassesOwn (model X.prog X.w) X.A X.env xe → PSs (X.tr pn xe) body (tb W))
    (hsu : ∀ (a : Addr) (oe : Obj) (pn : List (Addr × Obj)), PSs (X.suite a ((a, oe) :: pn)) (b₀ :: suite) (tAsg (tVar i) (gName j))) (hij : i < X.N.length) :
    PS X (.Try body [.ExceptHandler (some (.Name x np)) (some n) (b₀ :: suite) pos'] [] [] pos) (fun D σ H => tb (wKeep X.K c i j D) D σ H) := by
  constructor
  intro pins s σ H D I h
  have okX := I.ok
  have fr : X.A.frames = some (X.env :: X.outer) := okX.frames.trans (congrArg some hs)
  apply wpAny_Try_except
  refine wpAny_mono ((hb (wKeep X.K c i j D) (X.pn ++ pins) _ (fun u s' air => ?_) PassesOwn.looking).run [] s σ H D (I.toTry _) h) (fun f s1 r => ?_) (fun _ _ z => z)
  · obtain ⟨a, B, sI, ps, σ', H', cls, d, eu, J', nb, up, sky, na, os, ag, C, ecls, ed, match1, go⟩ := air
    subst eu ecls ed
    have J : Inv X pins σ' H' sI := J'.ofTry okX
    rw [hs] at sky
    change wpAny (model X.prog X.w) X.A (noteFrame (.ref a) X.env) _ _ _
    refine Sky.land Zc.steady fr hf sky fun h3 air3 up3 => ?_
    have B0 : B.get? a = none := air3.2.1
    obtain ⟨oe3, vs3, at3, z3, d3⟩ := air3.there
    have J3 : Inv X pins σ' H' { s' with heap := h3 } := J.landed nb air3.1 (up.trans up3) os ag
    -- it is no frame
    have noFr : a ∉ frs (X.env :: X.outer) := fun hm => by
      obtain ⟨_, o, eo, no⟩ := air3.2.2.1.mem hm
      rw [at3] at eo
      cases eo
      exact no _ d3
    have nL : a ≠ X.env.locals := fun z => noFr (List.mem_filterMap.mpr ⟨X.env, List.mem_cons_self, by rw [hf, z]⟩)
    have nF : a ∉ X.fs := fun hm => by
      obtain ⟨e, h1, h2⟩ := List.mem_filterMap.mp hm
      exact noFr (List.mem_filterMap.mpr ⟨e, List.mem_cons_of_mem _ h1, h2⟩)
    -- it is new
    have nI : sI.heap.get? a = none := by
      cases q : sI.heap.get? a with
      | none => rfl
      | some o =>
        have := nb a o q (by show a ∉ frs X.stack; rw [hs]; exact noFr)
        rw [B0] at this; cases this
    have n0 : X.s_0.heap.get? a = none := by
      cases q : X.s_0.heap.get? a with
      | none => rfl
      | some o =>
        obtain ⟨o', q'⟩ := J.base.there a o q (by rw [hex]; exact List.not_mem_nil)
        rw [nI] at q'; cases q'
    have npin : ∀ p ∈ X.pn ++ pins, p.1 ≠ a := fun p hp z => by
      have := (J.pin p hp).1
      rw [z, nI] at this; cases this
    refine wpAny_handleBy_cons (codeAny_handlers_test ?_) (by intro q; cases q)
    have cl : PySem.W.Looks (model X.prog X.w) h3 (typeOf (.ref a)) (.ref C) := fun _ _ _ s2 k q => wpAny_typeOf_ref (k _ _ at3) (by rw [z3.1]; exact q)
    have look := PySem.W.exm_one (M := model X.prog X.w) J3.kIn cl match1
    have S3 := J3.suite at3 d3 na nL nF
    have named : ∀ (Q E : Value → Shared → Prop), Q c { s' with heap := h3 } → wpAny (model X.prog X.w) (X.A.mark (some (.ref a))) (eval (.Name x np) X.env) Q E { s' with heap := h3 } := by
      intro Q E q
      rcases hc with ⟨hg, hdb, hm | ⟨hm, hv, hnn⟩⟩
      · exact ld_glob (X := X.suite a ((a, oe3) :: (X.pn ++ pins))) S3 hg hm q hdb
      · exact ld_blt (X := X.suite a ((a, oe3) :: (X.pn ++ pins))) S3 hg hm hv q hnn hdb
    refine named _ _ (look.here ?_)
    apply codeAny_handlers_suite_as
    refine HandSPX.lands_againZ air3 fun h4 air4 up4 => ?_
    obtain ⟨oe, vs, at4, z4, d4⟩ := air4.there
    have J4 : Inv X pins σ' H' { s' with heap := h4 } := J.landed nb air4.1 ((up.trans up3).trans up4) os ag
    have S4 := J4.suite at4 d4 na nL nF
    have loc : Loc X.env.scope n := .inl hln
    refine store_ok (X := X.suite a ((a, oe) :: (X.pn ++ pins))) (v := .ref a) S4 hN hi loc rfl (fun s5 S5 => ?_) (.inr hln)
    have lσ : i < σ'.length := by rw [J.len]; exact hij
    -- what the suite leaves: the two names hold it
    let Dk : Ends := { nx := fun σ6 H6 => σ6 = (σ'.set i (some (.ref a))).set j (some (.ref a)) ∧ H6 = H', rt := fun _ _ => False }
    have suite1 : tAsg (tVar i) (gName j) Dk (σ'.set i (some (.ref a))) H' := ⟨.ref a, List.getElem?_set_self lσ, rfl, rfl⟩
    refine wpAny_mono ((hsu a oe (X.pn ++ pins)).run [] s5 _ H' Dk S5 suite1) (fun f s6 r => ?_) (fun _ _ z => z.elim)
    cases f with
    | next =>
      obtain ⟨σ6, H6, S6, eσ, eH⟩ := r
      subst eσ eH
      obtain ⟨at6, _, _, _, _⟩ := S6.pin (a, oe) (List.mem_append_left _ List.mem_cons_self)
      have J6 := Inv.heldExc (S6.unsuite okX) at6 z4 d4 na nL n0 npin
      exact gone_ok J6 hN hi hln fun s7 J7 => ⟨_, _, J7, go a na⟩
    | brk => obtain ⟨_, _, _, q⟩ := r; exact q.elim
    | cont => obtain ⟨_, _, _, q⟩ := r; exact q.elim
    | ret u => obtain ⟨_, _, _, _, _, q⟩ := r; exact q.elim
  · cases f with
    | next =>
      obtain ⟨σ1, H1, J1, q1⟩ := r
      exact wpAny_execs_nil ⟨σ1, H1, J1.ofTry okX, q1⟩
    | brk =>
      obtain ⟨σ1, H1, J1, q1⟩ := r
      exact ⟨σ1, H1, J1.ofTry okX, q1⟩
    | cont =>
      obtain ⟨σ1, H1, J1, q1⟩ := r
      exact ⟨σ1, H1, J1.ofTry okX, q1⟩
    | ret u =>
      obtain ⟨v, σ1, H1, J1, rv, q1⟩ := r
      exact ⟨v, σ1, H1, J1.ofTry okX, rv, q1⟩
end
end L2

namespace DL
open PySem L2
section
variable {K : PySem.W.Frag} {b : Bs} {F H : Hp} {oa : Nat → Addr} {σ : L2.St} {env : Env} {i j : Nat}
theorem Sig.unset (S : Sig K b F oa σ H env) : Sig K b F oa (σ.set i none) H (env.set i .any) where
  g := S.g
  len := by simp [S.len]
  val := fun n d e => by
    by_cases q : i = n
    · subst q
      rw [List.getElem?_set] at e
      split at e
      · split at e <;> cases e
      · rename_i z; exact absurd rfl z
    · rw [List.getElem?_set_ne q] at e
      rw [List.getElem?_set_ne q]
      exact S.val n d e
  own := fun n d e => by
    by_cases q : i = n
    · subst q
      rw [List.getElem?_set] at e
      split at e
      · split at e <;> cases e
      · rename_i z; exact absurd rfl z
    · rw [List.getElem?_set_ne q] at e
      rw [List.getElem?_set_ne q]
      exact S.own n d e
  dist := fun n m o u e f z => by
    have t : ∀ (n : Nat) (o : OB), (env.set i .any)[n]? = some (EV.own o) → env[n]? = some (EV.own o) := fun n o e => by
      by_cases q : i = n
      · subst q
        rw [List.getElem?_set] at e
        split at e
        · split at e <;> cases e
        · rename_i z; exact absurd rfl z
      · rw [List.getElem?_set_ne q] at e; exact e
    exact S.dist n m o u (t _ _ e) (t _ _ f) z
  fix := S.fix
end
/-- try: body / except c as n: m = n -/
def tTry (K : PySem.W.Frag) (c : Value) (i j : Nat) (tb : WX → TS) : TS := fun D σ H => tb (wKeep K c i j D) D σ H
theorem ps_tryK {X : Cx} {x n : Str} {c : Value} {i j : Nat} {body suite : List Stmt} {b₀ : Stmt} {np pos pos' : Pos} {tb : WX → TS} (hs : X.stack = X.env :: X.outer) (hf : X.env.frame = some X.env.locals) (hex : X.ex = []) (hN : X.N.Nodup) (hi : X.N[i]? = some n)
    (hln : X.env.kindOf n = some .local) (hc : Names X x c)
    (hb : ∀ (W : WX) (pn : List (Addr × Obj)) (xe : Value → Shared → Prop), Takes (X.tr pn xe) W → PassesOwn (model X.prog X.w) X.A X.env xe → PSs (X.tr pn xe) body (tb W))
    (hsu : ∀ (a : Addr) (oe : Obj) (pn : List (Addr × Obj)), PSs (X.suite a ((a, oe) :: pn)) (b₀ :: suite) (tAsg (tVar i) (gName j))) (hij : i < X.N.length) :
    PS X (.Try body [.ExceptHandler (some (.Name x np)) (some n) (b₀ :: suite) pos'] [] [] pos) (tTry X.K c i j tb) := ps_try_keep hs hf hex hN hi hln hc hb hsu hij
/-- an error of the class at C is what «except S» names -/
theorem exm_mk {K : PySem.W.Frag} {C S : Addr} (h1 : PySem.W.subIn K (.ref S) (.type "BaseException") = some true) (h2 : PySem.W.isClsIn K S = true) (h3 : PySem.W.typeIn K (.ref S) = some (.type "type")) (h4 : PySem.W.subIn K (.ref C) (.ref S) = some true) : PySem.W.exmOne K (.ref C) (.ref S) = some true := by
  have h2' : (PySem.W.clsIn K S).isSome = true := h2
  show (if (PySem.W.subIn K (.ref S) (.type "BaseException") == some true) = true then (if ((PySem.W.clsIn K S).isSome && PySem.W.typeIn K (.ref S) == some (.type "type")) = true then PySem.W.subIn K (.ref C) (.ref S) else none) else none) = some true
  rw [h1, h2', h3]
  simp only [beq_self_eq_true, Bool.and_self, if_true]
  exact h4
section
variable {K : PySem.W.Frag} {pr : List Nat} {W : WX} {env : Env} {i j : Nat} {N B C : Env → Prop} {R : Ret → Env → Prop} {c : Value} {tb : WX → TS}
/-- what is caught goes on with slot j holding it -/
def caught (K : PySem.W.Frag) (c : Value) (i j : Nat) (N : Env → Prop) (R : Ret → Env → Prop) : Ret → Env → Prop := fun q e => match q with
  | .exc X => PySem.W.exmOne K (.ref X) c = some true ∧ N (((e.set i (.val (.exc X))).set j (.val (.exc X))).set i .any)
  | q => R q e
end

/-! ### isinstance, of exceptions too -/
def rIsX (K : PySem.W.Frag) : List V → Hp → VK → Prop := fun xs H Q => ∃ (a C : Addr) (c : V) (u : Value) (b : Bool), xs = [.ref a, c] ∧ H a = some (ExK C a) ∧ ExcC K C ∧ ClsV c u ∧ PySem.W.kitOne K (.ref C) u = some b ∧ Q (.bl b) H
def rIsXT (K : PySem.W.Frag) : List V → Hp → VK → Prop := fun xs H Q => ∃ (a C tp : Addr) (cs : List V) (us : List Value) (b : Bool), xs = [.ref a, .ref tp] ∧ H a = some (ExK C a) ∧ ExcC K C ∧ H tp = some (.tup cs) ∧ Paired ClsV cs us ∧ PySem.W.kitAny K (.ref C) us = some b ∧ Q (.bl b) H
theorem exk_at {X : Cx} {pins : List (Addr × Obj)} {σ : L2.St} {H : Hp} {s : Shared} {a C : Addr} (I : Inv X pins σ H s) (h : H a = some (ExK C a)) : ∃ oe, PySem.W.InstAt s.heap a oe C none := by
  obtain ⟨⟨oe, vs, h1, h2, h3⟩, _⟩ := (show ObjOk X.prog X.w H s.heap a (ExK C a) from I.hok a _ h)
  obtain ⟨oc, od, dt, sl⟩ := oe
  obtain ⟨z1, z2⟩ := h2
  dsimp only at z1 z2 h3
  subst z1 z2 h3
  exact ⟨_, h1, rfl, rfl, trivial⟩
section
variable {X : Cx}
theorem call_isX : CallR X (.builtin "isinstance") (rIsX X.K) := by
  intro pins s σ H xs us Q I r h
  obtain ⟨a, C, c, u, b, rfl, ha, x, k, e, q⟩ := h
  obtain ⟨u1, u2, rfl, r1, r2⟩ := vals2 r
  have e2 := k.eq r2
  subst e2
  cases (show u1 = Value.ref a from r1)
  obtain ⟨oe, J⟩ := exk_at I ha
  exact PySem.W.kia_one (PySem.W.handS_kitx_exc x.hg x.hk x.hs x.hd x.ha x.hn x.ht x.hm) I.kIn J e (fun z => nomatch z) fun tk => ⟨.bl b, H, I.tok tk, rfl, q⟩
theorem call_isXT : CallR X (.builtin "isinstance") (rIsXT X.K) := by
  intro pins s σ H xs us Q I r h
  obtain ⟨a, C, tp, cs, ws, b, rfl, ha, x, hT, k, e, q⟩ := h
  obtain ⟨u1, u2, rfl, r1, r2⟩ := vals2 r
  cases (show u1 = Value.ref a from r1)
  cases (show u2 = Value.ref tp from r2)
  obtain ⟨oe, J⟩ := exk_at I ha
  obtain ⟨_, its, rv, o, h1, h2, n, h3⟩ := (show ObjOk X.prog X.w H s.heap tp (.tup cs) from I.hok tp _ hT)
  have e3 := ClsV.all k rv
  subst e3
  obtain ⟨oc, od, dt, sl⟩ := o
  dsimp only at h2 h3
  subst h2 h3
  exact PySem.W.kia_tup (PySem.W.handS_kitx_exc x.hg x.hk x.hs x.hd x.ha x.hn x.ht x.hm) I.kIn J h1 e (fun z => nomatch z) fun tk => ⟨.bl b, H, I.tok tk, rfl, q⟩
end
def rIsiU (K : PySem.W.Frag) : List V → Hp → VK → Prop := fun xs H Q => rIsi K xs H Q ∨ (rIsiT K xs H Q ∨ (rIsX K xs H Q ∨ rIsXT K xs H Q))
theorem call_isiA {X : Cx} {K : PySem.W.Frag} (e : X.K = K := by rfl) : CallR X (.builtin "isinstance") (rIsiU K) := by subst e; exact CallR.or call_isi (CallR.or call_isiT (CallR.or call_isX call_isXT))
/-- raise C('..') -/
theorem ps_raiseC {X : Cx} {W : WX} {C : Addr} {e : Expr} {pos : Pos} (hc : X.calm = true) (tk : Takes X W) (he : PMk X e (fun _ H Q => Q (.ref C) none H)) : PS X (.Raise (some e) none pos) (tRaise W C) := ps_raise hc tk he
end DL

namespace DL
open PySem L2

/-! ### operators and built-ins by what their operands came to -/
section
variable {K : PySem.W.Frag} {te ta tb tc : TE} {t u : TT} {env e e1 e2 e3 : Env} {r r1 r2 r3 : Res} {d d1 d2 : D} {o : OB} {i j k' : Int} {x y : Str} {c c1 c2 : Bool} {l m : List D} {rr : R2}
end

/-! ### defs -/
/-- a def that may be called by its name -/
structure Df (P : Program) (w : World) (K : PySem.W.Frag) (mg : Str → Option Value) (base : Heap) (k : Nat) (x : Str) (sp : Sp) : Prop where
  ex : ∃ (f : Addr) (fd : FuncData) (ps : List Str), FnOk P w K mg base CX0 k f fd ps sp ∧ mg x = some (.ref f) ∧ PySem.W.keepIn K (.ref f) = true ∧ Binds K fd ps []
section
variable {X : Cx} {k j : Nat} {x : Str} {sp : Sp} {p pos : Pos} {e : Expr} {es : List Expr} {t : TA}
end
/-- .. that may raise -/
structure Dx (P : Program) (w : World) (K : PySem.W.Frag) (mg : Str → Option Value) (base : Heap) (k : Nat) (x : Str) (sp : Sp) : Prop where
  ex : ∃ (f : Addr) (fd : FuncData) (ps : List Str), FnOk P w K mg base (L2.CX P w) k f fd ps sp ∧ mg x = some (.ref f) ∧ PySem.W.keepIn K (.ref f) = true ∧ Binds K fd ps []
section
variable {X : Cx} {W : WX} {k j : Nat} {x : Str} {sp : Sp} {p pos : Pos} {e : Expr} {es : List Expr} {t : TA}
theorem pe_dx (c : Dx X.prog X.w X.K X.mg X.base k x sp) (tk : Takes X W) (hr : Room j X.A) (hk : k ≤ j) (hg : Gl X x) (ha : PA X (e :: es) t)
    (hdb : (x == ("__debug__" : Str)) = false := by decide) (he : starEach (e :: es) X.env = (false, eval e X.env) :: starEach es X.env := by rfl) (hpl : (backTo pos (starEach es X.env)).any (·.1) = false := by rfl) :
    PE X (.Call (.Name x p) (e :: es) [] pos) (tCallS sp (WE W) t) := by
  obtain ⟨f, fd, ps, F, hm, kp, b⟩ := c.ex
  exact pe_callS F (hr.mono hk) hg hm kp b (fun σ => passAt tk σ) ha hdb he hpl
/-- .. and does not, where it is called -/
theorem pe_dx0 (c : Dx X.prog X.w X.K X.mg X.base k x sp) (hr : Room j X.A) (hk : k ≤ j) (hg : Gl X x) (ha : PA X (e :: es) t)
    (hdb : (x == ("__debug__" : Str)) = false := by decide) (he : starEach (e :: es) X.env = (false, eval e X.env) :: starEach es X.env := by rfl) (hpl : (backTo pos (starEach es X.env)).any (·.1) = false := by rfl) :
    PE X (.Call (.Name x p) (e :: es) [] pos) (tCall sp [] E0 t) := by
  obtain ⟨f, fd, ps, F, hm, kp, b⟩ := c.ex
  exact pe_call F (hr.mono hk) hg hm kp b .nil passL ha hdb he hpl
end
theorem vals_noOwn {ds : List D} {i : Nat} {o : OB} : (ds.map AV.val)[i]? ≠ some (AV.own o) := by
  rw [List.getElem?_map]
  cases ds[i]? <;> simp
section
variable {K : PySem.W.Frag} {env e1 : Env} {f : List D → D → Prop} {g : List D → OB → Prop} {rs : List Res} {ds : List D} {d : D} {o : OB} {ta : TA} {E : XK}
end
section
variable {K : PySem.W.Frag} {env e1 : Env} {f : List D → Ret → Prop} {rs : List Res} {ds : List D} {d : D} {o : OB} {ta : TA} {W : WX} {C : Addr} {E : XK}
end
section
variable {P : Program} {w : World} {K : PySem.W.Frag} {mg : Str → Option Value} {base : Heap} {x qn : Str} {st : Stmt} {fa : Addr} {fd : FuncData} {N ps : List Str} {k : Nat}
theorem spG_len {Pr : List AV → Ret → List AV → Prop} {n : Nat} (hn : ∀ as r as', Pr as r as' → as.length = n) {vs : List V} {H : Hp} {Q : VK} {E : XK} (h : SpG K Pr vs H Q E) : vs.length = n := by
  obtain ⟨F, as, r, as', _, ar, p, _⟩ := h
  rw [ar.len, hn as r as' p]
theorem Fn.ofG {Pr : List AV → Ret → List AV → Prop} (F : Fun K x qn st fa fd) (S : FnScope N ps (defScope st)) (hn : ∀ as r as', Pr as r as' → as.length = ps.length)
    (body : ∀ (cdv : Value) (A : Around) (outer : List PySem.Env) (s : Shared) (H : Hp) (E : XK), Room k (A.deeper (PyProof.Rows.envOfC qn (defScope st) s.heap.objs.size fa cdv)) →
      ∃ t, PSs (cxOf CX0 P w K mg base N qn (defScope st) fa cdv A outer s H E).nox (defBody st) t ∧ ∀ as r as', Pr as r as' → ∃ pr : List Nat, (∀ (i : Nat) (o : OB), as[i]? = some (AV.own o) → i ∈ pr) ∧ Exec K pr (fun cls d _ H => E cls d H) t (as.map AV.ev ++ List.replicate (N.length - ps.length) .any)
      (fun e => r = .val .non ∧ Held as as' e) (fun _ => False) (fun _ => False) (fun q e => q = r ∧ Held as as' e)) : FnOk P w K mg base CX0 (k + 1) fa fd ps (SpG K Pr) :=
  F.ok S (fun vs H Q E h => spG_len hn h) (fun cdv A outer s H vs Q E hr h => by
    obtain ⟨t, h1, h2⟩ := body cdv A outer s H E hr
    have hpl : ps.length ≤ N.length := by have := congrArg List.length S.pre; rw [List.length_take] at this; omega
    exact ⟨t, h1, run_SpG h (fun as r as' p => ⟨hn as r as' p, hpl⟩) h2⟩)
theorem Dx.of {sp : Sp} (h : FnOk P w K mg base (L2.CX P w) k fa fd ps sp) (F : Fun K x qn st fa fd) (hm : mg x = some (.ref fa)) (b : Binds K fd ps []) : Dx P w K mg base k x sp := ⟨fa, fd, ps, h, hm, F.kp, b⟩
theorem Df.of {sp : Sp} (h : FnOk P w K mg base CX0 k fa fd ps sp) (F : Fun K x qn st fa fd) (hm : mg x = some (.ref fa)) (b : Binds K fd ps []) : Df P w K mg base k x sp := ⟨fa, fd, ps, h, hm, F.kp, b⟩
end
end DL

namespace DL
open PySem L2
/-! ### == of data, by a plain function -/
mutual
def pl : Nat → D → Bool
  | _, .non => true
  | _, .bl _ => true
  | _, .int _ => true
  | _, .str x => PyData.canLay0 (.str x)
  | n + 1, .tup l => plL n l
  | n + 1, .lst l => plL n l
  | _, _ => false
def plL : Nat → List D → Bool
  | _, [] => true
  | n, d :: r => pl n d && plL n r
end
/-! ### items -/
/-! ### comprehensions over one name, the slots left as they are -/
section
variable {K : PySem.W.Frag} {te : TE} {t : TT} {env e1 : Env} {wi : TI} {j : Nat}
end
/-! ### isinstance of data -/
end DL

namespace DL
open PySem L2
section
variable {K : PySem.W.Frag} {pr : List Nat} {W : WX} {s : TS} {env e1 : Env} {i j : Nat} {N B C : Env → Prop} {R : Ret → Env → Prop} {wi : TI} {ds : List D}
theorem small_of {n : Int} (c : Int) (h0 : 0 ≤ n) (h1 : n ≤ 70) (hc : c = 1 ∨ c = 2 ∨ c = 3 ∨ c = 8) : Builtin.Range.small 0 n c = true := by
  have k1 : ∀ m : Nat, m < 71 → Builtin.Range.small 0 (m : Int) 1 = true := by decide
  have k2 : ∀ m : Nat, m < 71 → Builtin.Range.small 0 (m : Int) 2 = true := by decide
  have k3 : ∀ m : Nat, m < 71 → Builtin.Range.small 0 (m : Int) 3 = true := by decide
  have k8 : ∀ m : Nat, m < 71 → Builtin.Range.small 0 (m : Int) 8 = true := by decide
  have e : n = ((n.toNat : Nat) : Int) := by omega
  rw [e]
  rcases hc with h | h | h | h <;> subst h
  · exact k1 _ (by omega)
  · exact k2 _ (by omega)
  · exact k3 _ (by omega)
  · exact k8 _ (by omega)
theorem rg_of {n c : Int} (h : Builtin.Range.small 0 n c = true) (hc : 0 < c ∧ c < 1000) : RgC 0 n c (if 0 < n then (n - 1) / c + 1 else 0).toNat := by
  refine ⟨by omega, by omega, h, ?_⟩
  unfold Builtin.Range.rangeSize
  rw [if_pos (show c > 0 from hc.1)]
  by_cases q : 0 < n
  · rw [if_pos q, if_pos q]
    have : 0 ≤ (n - 1) / c := Int.ediv_nonneg (by omega) (by omega)
    rw [show n - 0 - 1 = n - 1 by omega]
    omega
  · rw [if_neg q, if_neg q]; rfl
/-- range(0, n, 3) for n to 70 -/
theorem rg3 {n : Int} (h0 : 0 ≤ n) (h1 : n ≤ 70) : RgC 0 n 3 (if 0 < n then (n - 1) / 3 + 1 else 0).toNat := rg_of (small_of 3 h0 h1 (by omega)) (by omega)
theorem log2_lt {n : Int} {k : Nat} (h0 : 0 < n) (h : n < 2 ^ k) (hk : k < 9000) : 0 < n ∧ n.natAbs.log2 < 9000 := by
  refine ⟨h0, ?_⟩
  have e : ((2 ^ k : Nat) : Int) = 2 ^ k := by simp
  have a : n.natAbs < 2 ^ k := by omega
  have := (Nat.log2_lt (n := n.natAbs) (k := k) (by omega)).mpr a
  omega
end
end DL

/-! ### methods of data by what their operands came to -/
namespace L2
open PySem PySem.Spec PyProof.Rows
end L2
namespace DL
open PySem L2
section
variable {K : PySem.W.Frag} {te tb : TE} {ta : TA} {env e e1 e2 : Env} {r r' : Res} {rs : List Res} {d : D} {l : List D} {i j : Nat} {n : Int} {x y : Str}
end
end DL

namespace DL
open PySem L2
/-! ### more statements and operators -/
def ipAddU : TIp := fun x y H Q => ipI (fun i j => i + j) x y H Q ∨ rExt2 x y H Q
theorem ip_addU {X : Cx} : PIp X .Add ipAddU := fun pins s σ H x y v u Q I rx ry h => by
  rcases h with h | h
  · exact ip_add pins s σ H x y v u Q I rx ry h
  · exact iop_ext pins s σ H x y v u Q I rx ry h
section
variable {K : PySem.W.Frag} {pr : List Nat} {W : WX} {te ta tb : TE} {env e1 e2 e : Env} {r r1 r2 : Res} {i j : Nat} {l m : List D} {N B C : Env → Prop} {R : Ret → Env → Prop} {n k : Int} {d d1 d2 : D} {c : Bool}
end
end DL
namespace DL
open PySem L2
theorem small_up {a b c : Int} (ha : -(2 ^ 60) ≤ a) (ha' : a < 2 ^ 60) (hb : -(2 ^ 60) ≤ b) (hb' : b < 2 ^ 60) (hc : 0 < c) (hc' : c < 2 ^ 60) : Builtin.Range.small a b c = true := by
  unfold Builtin.Range.small Builtin.Range.rangeSize
  have q : ∀ x : Int, 0 ≤ x → 0 ≤ x / c ∧ x / c ≤ x := fun x h => ⟨Int.ediv_nonneg h (by omega), Int.ediv_le_self c h⟩
  simp only [show c > 0 from hc, if_true]
  by_cases h : a < b
  · rw [if_pos h]
    have := q (b - a - 1) (by omega)
    simp only [Builtin.Range.rangeFitsLong, Bool.and_eq_true, Bool.or_eq_true, decide_eq_true_eq, beq_iff_eq]
    omega
  · rw [if_neg h]
    simp only [Builtin.Range.rangeFitsLong, Bool.and_eq_true, Bool.or_eq_true, decide_eq_true_eq, beq_iff_eq]
    omega
theorem rg_up {a b c : Int} (ha : -(2 ^ 60) ≤ a) (ha' : a < 2 ^ 60) (hb : -(2 ^ 60) ≤ b) (hb' : b < 2 ^ 60) (hc : 0 < c) (hc' : c < 1000000) : RgC a b c (if a < b then (b - a - 1) / c + 1 else 0).toNat := by
  refine ⟨by omega, by omega, small_up ha ha' hb hb' hc (by omega), ?_⟩
  unfold Builtin.Range.rangeSize
  rw [if_pos (show c > 0 from hc)]
  by_cases q : a < b
  · rw [if_pos q]
    have : 0 ≤ (b - a - 1) / c := Int.ediv_nonneg (by omega) (by omega)
    omega
  · rw [if_neg q]; rfl
end DL

/-! ### a tuple times any small number -/
namespace L2
open PySem PySem.Spec PyProof.Rows
theorem mulT_same (l : Addr) (items : Array Value) (n : Nat) (dd : Option Addr) (sl : Array (Option Value)) (x : Int) (u : Tok) (c0 : (decide (x < -(2 ^ 63)) || decide (x ≥ 2 ^ 63)) = false) (c1 : (items.isEmpty || x == 1) = true) :
    Meets (Builtin.«tuple.__mul__» ⟨[.ref l, .int x u], []⟩) (fun _ R s => s.heap.get? l = some { cls := .type "tuple", dict := dd, data := .seq items n, slots := sl } ∧ R (.ok (.ret (.ref l))) s) := .of_wp fun prog w A R s h => by
  obtain ⟨hp, g, d, tk, os⟩ := s
  obtain ⟨hl, h⟩ := h
  have g1 := AutoSeq1.idx_int
  wp_walk using wpAny_loadPart' hl
  repeat (first
    | (refine wpAny_ite_false (decide_eq_false (by rw [c0]; decide)) ?_; wp_walk using wpAny_loadPart' hl)
    | (refine wpAny_ite_true (decide_eq_true c1) ?_; wp_walk using wpAny_loadPart' hl))
  exact ⟨_, rfl, h⟩
theorem mulT_none (l : Addr) (items : Array Value) (n : Nat) (dd : Option Addr) (sl : Array (Option Value)) (x : Int) (u : Tok) (c0 : (decide (x < -(2 ^ 63)) || decide (x ≥ 2 ^ 63)) = false) (c1 : (items.isEmpty || x == 1) = false) (c2 : (decide (x ≤ 0) || items.isEmpty) = true) :
    Meets (Builtin.«tuple.__mul__» ⟨[.ref l, .int x u], []⟩) (fun _ R s => s.heap.get? l = some { cls := .type "tuple", dict := dd, data := .seq items n, slots := sl } ∧
      R (.ok (.ret (.ref s.heap.objs.size))) { s with heap := s.heap.push { cls := .type "tuple", data := .seq #[] }, toks := s.toks }) := .of_wp fun prog w A R s h => by
  obtain ⟨hp, g, d, tk, os⟩ := s
  obtain ⟨hl, h⟩ := h
  have g1 := AutoSeq1.idx_int
  wp_walk using wpAny_loadPart' hl
  repeat (first
    | (refine wpAny_ite_false (decide_eq_false (by rw [c0]; decide)) ?_; wp_walk using wpAny_loadPart' hl)
    | (refine wpAny_ite_false (decide_eq_false (by rw [c1]; decide)) ?_; wp_walk using wpAny_loadPart' hl)
    | (refine wpAny_ite_true (decide_eq_true c2) ?_; wp_walk using wpAny_loadPart' hl))
  exact ⟨_, rfl, h⟩
/-- a tuple times k, a new one: up to 4000000 items -/
theorem rep_new {X : Cx} {pins : List (Addr × Obj)} {s : Shared} {σ : L2.St} {H : Hp} {l : Addr} {k : Int} {t : Tok} {xs : List V} {Q : VK} (I : Inv X pins σ H s) (hT : SqT X.K H l xs) (hne : xs ≠ []) (h1 : 2 ≤ k) (h2 : k ≤ 4000) (hz : xs.length ≤ 1000)
    (q : ∀ p, H p = none → Q (.ref p) (upd H p (.tup (List.replicate k.toNat xs).flatten))) : wpAny (model X.prog X.w) X.A (binaryOp .Mult (.ref l) (.int k t)) (EP X pins σ Q) X.xe s := by
  obtain ⟨its, r, ⟨⟨_, dd, _, sl⟩, ho, rfl, n, rfl⟩, hs⟩ := I.tuple hT
  have le : its.length = xs.length := r.length.symm
  have size : its.toArray.size = xs.length := le
  have full : its.toArray.isEmpty = false := by
    cases its with
    | nil => exact absurd (List.eq_nil_of_length_eq_zero le.symm) hne
    | cons _ _ => rfl
  have most : k.toNat * xs.length ≤ 4000 * 1000 := Nat.mul_le_mul (by omega) hz
  have mosti : ((its.toArray.size : Nat) : Int) * k ≤ 4000000 := by
    have e : ((its.toArray.size : Nat) : Int) * k = ((k.toNat * xs.length : Nat) : Int) := by
      rw [size, Int.natCast_mul, Int.toNat_of_nonneg (by omega), Int.mul_comm]
    rw [e]; omega
  have c0 : (decide (k < -(2 ^ 63)) || decide (k ≥ 2 ^ 63)) = false := by simp; omega
  have c1 : (its.toArray.isEmpty || k == 1) = false := by rw [full]; simp; omega
  have c2 : (decide (k ≤ 0) || its.toArray.isEmpty) = false := by rw [full]; simp; omega
  have c4 : Builtin.Tuple.tupleTooMany (((its.toArray.size : Nat) : Int) * k) = false := by
    unfold Builtin.Tuple.tupleTooMany
    rw [sizeLine_eq]
    exact decide_eq_false (by omega)
  have fit : ∀ {α : Type} (ys : List α), ys.length = xs.length → (List.replicate k.toNat ys).flatten.length ≤ sizeLine := fun ys e => by
    rw [PyProof.Rows.lm_len_rep_flat, e, sizeLine_eq]; omega
  have mul := tuple_mulW l its.toArray n dd sl k t c0 c1 c2 (by omega) c4 (by rw [size_rep, List.size_toArray]; exact fit its le)
  rw [size_rep] at mul
  refine wpAny_binaryOp_repeat_ref (T := "tuple") (U := "int") (by decide) ⟨_, ho, rfl⟩ (fun s' => typeIs_int s' k t) noFill_tuple_mul F.fills_int_mul F.slot_int_rmul repeat_tuple F.slot_int_index.lookup
    (call_meets F.slot_int_rmul (typeIs_int s k t) F.entry_int_rmul (F.args_int_rmul_2 _ _) (int_rmul_tuple k t l its.toArray n dd sl)
      ⟨ho, rfl, ⟨_, ho, rfl⟩, call_meets F.slot_tuple_mul ⟨_, ho, rfl⟩ F.entry_tuple_mul (F.args_tuple_mul_2 _ _) mul ⟨ho, ?_⟩⟩)
  exact ⟨.ref s.heap.objs.size, _, I.laid (t' := s.toks) (o := .tup (List.replicate k.toNat xs).flatten) (fun b ob q => Heap.get?_push_of_some _ q) (Nat.le_refl _) ⟨fit xs rfl, _, r.rep k.toNat, IsTup.new _ _⟩, rfl, q _ (I.hok.fresh (Nat.le_refl _))⟩
/-- a tuple times any k to 100000: itself, or a new one -/
def rMulT (K : PySem.W.Frag) : R2 := fun x y H Q => ∃ l k xs, x = .ref l ∧ y = .int k ∧ SqT K H l xs ∧ k ≤ 4000 ∧ -1000 ≤ k ∧ xs.length ≤ 1000 ∧ (xs = [] → Q (.ref l) H) ∧ (k = 1 → Q (.ref l) H) ∧ (xs ≠ [] → k ≠ 1 → ∀ p, H p = none → Q (.ref p) (upd H p (.tup (List.replicate k.toNat xs).flatten)))
theorem op_mulT {X : Cx} : OpR X (binaryOp .Mult) (rMulT X.K) := by
  intro pins s σ H x y v u Q I rx ry h
  obtain ⟨l, k, xs, rfl, rfl, hT, h2, h1, hz, q0, q1, q2⟩ := h
  by_cases big : xs ≠ [] ∧ 2 ≤ k
  · cases rx
    obtain ⟨t, rfl⟩ := ry
    exact rep_new I hT big.1 big.2 h2 hz (q2 big.1 (by omega))
  · cases rx
    obtain ⟨t, rfl⟩ := ry
    obtain ⟨its, r, ⟨⟨cls, dd, data, sl⟩, ho, hc, n, hd⟩, hs⟩ := I.tuple hT
    simp only at hc hd
    subst hc hd
    have hle : its.length = xs.length := r.length.symm
    have c0 : (decide (k < -(2 ^ 63)) || decide (k ≥ 2 ^ 63)) = false := by
      rw [decide_eq_false (by omega), decide_eq_false (by omega)]; rfl
    by_cases one : xs = [] ∨ k = 1
    · have c1 : (its.toArray.isEmpty || k == 1) = true := by
        rcases one with e | e
        · have : its = [] := List.eq_nil_of_length_eq_zero (by rw [hle, e]; rfl)
          rw [this]; rfl
        · rw [e]; simp
      refine wpAny_binaryOp_repeat_ref (T := "tuple") (U := "int") (by decide) ⟨_, ho, rfl⟩ (fun s' => typeIs_int s' k t) noFill_tuple_mul F.fills_int_mul F.slot_int_rmul repeat_tuple F.slot_int_index.lookup
        (call_meets F.slot_int_rmul (typeIs_int s k t) F.entry_int_rmul (F.args_int_rmul_2 _ _) (int_rmul_tuple k t l its.toArray n dd sl)
          ⟨ho, rfl, ⟨_, ho, rfl⟩, call_meets F.slot_tuple_mul ⟨_, ho, rfl⟩ F.entry_tuple_mul (F.args_tuple_mul_2 _ _) (mulT_same l its.toArray n dd sl k t c0 c1) ⟨ho, ?_⟩⟩)
      refine ⟨.ref l, H, I, rfl, ?_⟩
      rcases one with e | e
      · exact q0 e
      · exact q1 e
    · have n1 : xs ≠ [] := fun e => one (.inl e)
      have n2 : k ≠ 1 := fun e => one (.inr e)
      have k0 : k ≤ 0 := by
        by_cases z : 2 ≤ k
        · exact absurd ⟨n1, z⟩ big
        · omega
      have hi : its.toArray.isEmpty = false := by
        cases its with
        | nil => exact absurd (List.eq_nil_of_length_eq_zero hle.symm) n1
        | cons a b => rfl
      have c1 : (its.toArray.isEmpty || k == 1) = false := by
        rw [hi, Bool.false_or]
        exact beq_eq_false_iff_ne.mpr n2
      have c2 : (decide (k ≤ 0) || its.toArray.isEmpty) = true := by rw [decide_eq_true k0]; rfl
      have e0 : k.toNat = 0 := by omega
      have q := q2 n1 n2
      rw [e0] at q
      refine wpAny_binaryOp_repeat_ref (T := "tuple") (U := "int") (by decide) ⟨_, ho, rfl⟩ (fun s' => typeIs_int s' k t) noFill_tuple_mul F.fills_int_mul F.slot_int_rmul repeat_tuple F.slot_int_index.lookup
        (call_meets F.slot_int_rmul (typeIs_int s k t) F.entry_int_rmul (F.args_int_rmul_2 _ _) (int_rmul_tuple k t l its.toArray n dd sl)
          ⟨ho, rfl, ⟨_, ho, rfl⟩, call_meets F.slot_tuple_mul ⟨_, ho, rfl⟩ F.entry_tuple_mul (F.args_tuple_mul_2 _ _) (mulT_none l its.toArray n dd sl k t c0 c1 c2) ⟨ho, ?_⟩⟩)
      refine ⟨.ref s.heap.objs.size, _, I.laid (t' := s.toks) (o := .tup []) (fun b ob q => Heap.get?_push_of_some _ q) (Nat.le_refl _) ?_, rfl, q _ (I.hok.fresh (Nat.le_refl _))⟩
      exact ⟨by decide, [], .nil, IsTup.new _ _⟩
end L2
namespace DL
open PySem L2
def rMulA (K : PySem.W.Frag) : R2 := fun x y H Q => rMulU x y H Q ∨ rMulT K x y H Q
theorem op_mulA {X : Cx} {K : PySem.W.Frag} (e : X.K = K := by rfl) : OpR X (binaryOp .Mult) (rMulA K) := by subst e; exact OpR.or op_mulU op_mulT
section
variable {K : PySem.W.Frag} {te ta tb : TE} {env e e1 e2 : Env} {r r1 r2 r' : Res} {i j : Int} {d d1 d2 : D} {l m : List D} {o o' : OB} {n : Nat}
/-- enumerate(xs) -/
def enumD (l : List D) : List D := (List.range l.length).map fun i => .tup [.int (i : Nat), l.getD i .non]
theorem enumD_len : (enumD l).length = l.length := by simp [enumD]
theorem enumD_get {i : Nat} (h : (enumD l)[i]? = some d) : ∃ x, l[i]? = some x ∧ d = .tup [.int (i : Nat), x] := by
  unfold enumD at h
  rw [List.getElem?_map] at h
  obtain ⟨k, hk, rfl⟩ := Option.map_eq_some_iff.mp h
  obtain ⟨h1, h2⟩ := List.getElem?_eq_some_iff.mp hk
  rw [List.length_range] at h1
  rw [List.getElem_range] at h2
  subst h2
  exact ⟨l[i], by simp [h1], by rw [List.getD_eq_getElem?_getD, List.getElem?_eq_getElem h1]; rfl⟩
def zipD (l m : List D) : List D := (l.zip m).map fun p => .tup [p.1, p.2]
end
/-! ### defs whose first argument is an object that they change -/
def PO (f : OB → List D → Ret → OB → Prop) : List AV → Ret → List AV → Prop := fun as r as' => ∃ o ds o', as = .own o :: ds.map AV.val ∧ as' = .own o' :: ds.map AV.val ∧ f o ds r o'
section
variable {K : PySem.W.Frag} {ta : TA} {env e1 : Env} {rs : List Res} {ds : List D} {d : D} {o o' ob : OB} {i : Nat} {f : OB → List D → Ret → OB → Prop} {E : XK}
end
section
variable {P : Program} {w : World} {K : PySem.W.Frag} {mg : Str → Option Value} {base : Heap} {x qn : Str} {st : Stmt} {fa : Addr} {fd : FuncData} {N ps : List Str} {k : Nat}
theorem Fn.ofO {f : OB → List D → Ret → OB → Prop} (F : Fun K x qn st fa fd) (S : FnScope N ps (defScope st)) (hn : ∀ o ds r o', f o ds r o' → ds.length + 1 = ps.length)
    (body : ∀ (cdv : Value) (A : Around) (outer : List PySem.Env) (s : Shared) (H : Hp) (E : XK), Room k (A.deeper (PyProof.Rows.envOfC qn (defScope st) s.heap.objs.size fa cdv)) →
      ∃ t, PSs (cxOf CX0 P w K mg base N qn (defScope st) fa cdv A outer s H E).nox (defBody st) t ∧ ∀ o ds r o', f o ds r o' → Exec K [0] (fun cls d _ H => E cls d H) t (EV.own o :: ds.map EV.val ++ List.replicate (N.length - ps.length) .any)
      (fun e => r = .val .non ∧ e[0]? = some (.own o')) (fun _ => False) (fun _ => False) (fun q e => q = r ∧ e[0]? = some (.own o'))) : FnOk P w K mg base CX0 (k + 1) fa fd ps (SpG K (PO f)) :=
  Fn.ofG F S (fun as r as' ⟨o, ds, o', h1, _, h4⟩ => by rw [h1, List.length_cons, List.length_map]; exact hn o ds r o' h4) fun cdv A outer s H E hr => by
    obtain ⟨t, h1, h2⟩ := body cdv A outer s H E hr
    refine ⟨t, h1, fun as r as' ⟨o, ds, o', e1, e2, hf⟩ => ⟨[0], fun i ob h => ?_, ?_⟩⟩
    · subst e1
      cases i with
      | zero => exact List.mem_cons_self
      | succ i => rw [List.getElem?_cons_succ] at h; exact absurd h vals_noOwn
    subst e1 e2
    have held : ∀ e : Env, e[0]? = some (.own o') → Held (.own o :: ds.map AV.val) (.own o' :: ds.map AV.val) e := fun e he i ob h => by
      cases i with
      | zero => exact ⟨o', rfl, he⟩
      | succ i => rw [List.getElem?_cons_succ] at h; exact absurd h vals_noOwn
    have em : (AV.own o :: ds.map AV.val).map AV.ev = EV.own o :: ds.map EV.val := by rw [List.map_cons, List.map_map]; rfl
    rw [em]
    exact x_mono (h2 o ds r o' hf) (fun e h => ⟨h.1, held e h.2⟩) (fun _ h => h) (fun _ h => h) fun q e h => ⟨h.1, held e h.2⟩
end
end DL

namespace DL
open PySem L2
/-! ### a comprehension whose part changes the object in the first slot -/
section
variable {K : PySem.W.Frag} {te : TE} {wi : TI} {env R : Env} {k : Nat} {ds : List D}
end
end DL

/-! ### xs.insert, a list times n, isinstance of several classes -/
namespace L2
open PySem
end L2
namespace DL
open PySem L2
section
variable {K : PySem.W.Frag} {pr : List Nat} {W : WX} {te ta tb : TE} {ts : TA} {env e1 e2 e : Env} {r : Res} {i : Nat} {l m : List D} {N B C : Env → Prop} {R : Ret → Env → Prop} {n j : Int} {d : D} {c : Bool}
end
end DL
namespace DL
open PySem L2
theorem ixN_nat {n i : Nat} (h : i < n) : ixN n (i : Int) = some i := by
  unfold ixN
  rw [if_pos (by omega), if_pos (by omega)]; rfl
end DL
namespace DL
open PySem L2
end DL

/-! ### len(set(xs)), xs.pop(i), xs.remove(x), xs[::-1], objects lent to a call -/
namespace L2
open PySem PySem.Spec PyProof.Rows
/-- how many unlike ones -/
def unlike (ns : List Int) : Nat := (PyProof.Rows.firstMet (fun i => ns.getD i 0) ns.length).length
theorem firstMet_mem {ns : List Int} : ∀ i, i ≤ ns.length → ∀ x, (x ∈ PyProof.Rows.firstMet (fun i => ns.getD i 0) i ↔ x ∈ ns.take i)
  | 0, _, x => by show x ∈ [] ↔ x ∈ []; exact Iff.rfl
  | i + 1, hi, x => by
    have hlt : i < ns.length := hi
    have ih := firstMet_mem (ns := ns) i (by omega)
    have e1 : ns.getD i 0 = ns[i] := by rw [List.getD_eq_getElem?_getD, List.getElem?_eq_getElem hlt] <;> rfl
    have e2 : ns.take (i + 1) = ns.take i ++ [ns[i]] := by rw [List.take_add_one, List.getElem?_eq_getElem hlt] <;> rfl
    rw [PyProof.Rows.firstMet_succ, e2]
    show x ∈ (if (PyProof.Rows.firstMet (fun i => ns.getD i 0) i).any (· == ns.getD i 0) then PyProof.Rows.firstMet (fun i => ns.getD i 0) i else PyProof.Rows.firstMet (fun i => ns.getD i 0) i ++ [ns.getD i 0]) ↔ _
    rw [e1, List.mem_append, List.mem_singleton]
    by_cases h : ns[i] ∈ PyProof.Rows.firstMet (fun i => ns.getD i 0) i
    · rw [if_pos (List.any_eq_true.mpr ⟨_, h, by simp⟩), ih x]
      refine ⟨.inl, fun z => ?_⟩
      rcases z with z | z
      · exact z
      · rw [z]; exact (ih _).mp h
    · rw [if_neg (fun z => h (by
        obtain ⟨y, hy, ey⟩ := List.any_eq_true.mp z
        rw [← eq_of_beq ey]; exact hy)), List.mem_append, List.mem_singleton, ih x]
theorem firstMet_len {ns : List Int} : ∀ i, i ≤ ns.length → (PyProof.Rows.firstMet (fun i => ns.getD i 0) i).length ≤ i ∧ (¬ (ns.take i).Nodup → (PyProof.Rows.firstMet (fun i => ns.getD i 0) i).length < i)
  | 0, _ => ⟨Nat.le_refl _, fun h => absurd List.nodup_nil h⟩
  | i + 1, hi => by
    have hlt : i < ns.length := hi
    obtain ⟨ih1, ih2⟩ := firstMet_len (ns := ns) i (by omega)
    have e1 : ns.getD i 0 = ns[i] := by rw [List.getD_eq_getElem?_getD, List.getElem?_eq_getElem hlt] <;> rfl
    have e2 : ns.take (i + 1) = ns.take i ++ [ns[i]] := by rw [List.take_add_one, List.getElem?_eq_getElem hlt] <;> rfl
    have hm := firstMet_mem (ns := ns) i (by omega) ns[i]
    rw [PyProof.Rows.firstMet_succ, e2]
    show (if (PyProof.Rows.firstMet (fun i => ns.getD i 0) i).any (· == ns.getD i 0) then PyProof.Rows.firstMet (fun i => ns.getD i 0) i else PyProof.Rows.firstMet (fun i => ns.getD i 0) i ++ [ns.getD i 0]).length ≤ _ ∧ (_ → (if (PyProof.Rows.firstMet (fun i => ns.getD i 0) i).any (· == ns.getD i 0) then PyProof.Rows.firstMet (fun i => ns.getD i 0) i else PyProof.Rows.firstMet (fun i => ns.getD i 0) i ++ [ns.getD i 0]).length < _)
    rw [e1]
    by_cases h : ns[i] ∈ PyProof.Rows.firstMet (fun i => ns.getD i 0) i
    · rw [if_pos (List.any_eq_true.mpr ⟨_, h, by simp⟩)]
      exact ⟨by omega, fun _ => by omega⟩
    · rw [if_neg (fun z => h (by
        obtain ⟨y, hy, ey⟩ := List.any_eq_true.mp z
        rw [← eq_of_beq ey]; exact hy)), List.length_append]
      refine ⟨by show _ + 1 ≤ _; omega, fun q => ?_⟩
      have : ¬ (ns.take i).Nodup := fun d => q (by
        rw [List.nodup_append]
        refine ⟨d, by simp, fun a ha b hb => ?_⟩
        rw [List.mem_singleton] at hb
        subst hb
        intro e
        subst e
        exact h (hm.mpr ha))
      have := ih2 this
      show _ + 1 < _
      omega
theorem unlike_lt {ns : List Int} : decide (unlike ns < ns.length) = !decide ns.Nodup := by
  by_cases h : ns.Nodup
  · have e : unlike ns = ns.length := by
      unfold unlike
      rw [RZ.firstMet_nodup h _ (Nat.le_refl _), List.take_length]
    rw [decide_eq_true h, decide_eq_false (by omega)]; rfl
  · have e := (firstMet_len (ns := ns) ns.length (Nat.le_refl _)).2 (by rw [List.take_length]; exact h)
    rw [decide_eq_false h, decide_eq_true (show unlike ns < ns.length from e)]; rfl
def tLenSetG (K : PySem.W.Frag) (ta : TE) : TE := fun σ H Q => ta σ H fun x H1 => ∃ (l : Addr) (ns : List Int), x = .ref l ∧ SqL K H1 l (ns.map V.int) ∧ ns.length ≤ 4000 ∧ Q (.int (unlike ns : Nat)) H1
theorem pe_lenSetG {X : Cx} {K : PySem.W.Frag} {a : Expr} {ta : TE} {p p2 q pos : Pos} (hg : Gl X "len") (hm : X.mg "len" = none) (hg2 : Gl X "set") (hm2 : X.mg "set" = none) (ha : PE X a ta) (hc : X.calm = true := by rfl) (ek : X.K = K := by rfl)
    (na : starEach [a] X.env = (false, eval a X.env) :: starEach [] X.env := by rfl) : PE X (.Call (.Name "len" p) [.Call (.Name "set" p2) [a] [] q] [] pos) (tLenSetG K ta) := by
  subst ek
  refine ⟨fun pins s σ H Q I h => ?_⟩
  refine Call_ (ld_blt I hg hm boot_len ?_)
  refine PyProof.Rows.callWith_builtin1 (PyProof.Rows.args_cons ?_ rfl) rfl rfl
  refine Call_ (ld_blt I hg2 hm2 boot_set ?_)
  refine PyProof.Rows.callWith_type1 (PyProof.Rows.args_cons (thn (ha.run pins s σ H _ I h) fun v s1 ⟨x, H1, I1, r1, q1⟩ => PyProof.Rows.args_nil ?_) na) na rfl
  obtain ⟨l, ns, rfl, hq, hl, q1⟩ := q1
  cases r1
  obtain ⟨its, r, pl, hz⟩ := I1.list hq
  have hlen : its.toArray.size = ns.length := by rw [List.size_toArray, ← r.length, List.length_map]
  refine call_set_list (I1.ok.hd hc) pl.isList (by simpa using RZ.intsAre_vals r) (by rw [hlen]; unfold scanBound; omega) fun h' tk hS hk => ?_
  refine PyProof.Rows.args_nil ?_
  rw [hlen] at hS
  have hle := (firstMet_len (ns := ns) ns.length (Nat.le_refl _)).1
  obtain ⟨o, es, ep, t, ho, hex, hd, _, _, _, hf, hn⟩ := hS
  have I2 : Inv X pins σ H1 { s1 with heap := h', toks := tk } := I1.kept fun b o e => hk b o (Heap.lt_size e) e
  exact call_len_set ho hex hd hf (by rw [hn] <;> omega) ⟨.int (unlike ns : Nat), H1, I2.tok _, ⟨_, by rw [hn]; rfl⟩, q1⟩
end L2
namespace DL
open PySem L2
section
variable {K : PySem.W.Frag} {pr : List Nat} {W : WX} {te ta tb : TE} {ts : TA} {env e1 e2 e : Env} {r : Res} {i : Nat} {l m : List D} {N B C : Env → Prop} {R : Ret → Env → Prop} {n j : Int} {d : D} {c : Bool} {ns : List Int} {o : OB} {ds : List D} {rs : List Res}
theorem RepL.eraseIdx {F : Hp} : ∀ {vs : List V} {ds : List D} (n : Nat), RepL K F vs ds → RepL K F (vs.eraseIdx n) (ds.eraseIdx n)
  | _, _, _, .nil => .nil
  | _, _, 0, .cons _ r => r
  | _, _, n + 1, .cons q r => .cons q (RepL.eraseIdx n r)
/-- what each argument reads -/
inductive Rds (env : Env) : List Res → List D → Prop
  | nil : Rds env [] []
  | cons {r : Res} {d : D} {rs : List Res} {ds : List D} : Rd env r d → Rds env rs ds → Rds env (r :: rs) (d :: ds)
theorem Rds.rep {b : Bs} {F : Hp} {oa : Nat → Addr} {σ : L2.St} {H : Hp} (S : Sig K b F oa σ H env) : ∀ {vs : List V} {rs : List Res} {ds : List D}, RRs K F oa vs rs → Rds env rs ds → vs.length = ds.length ∧ ∀ (i : Nat) (d : D), ds[i]? = some d → ∃ v, vs[i]? = some v ∧ Rep K H v d
  | [], _, _, h, .nil => ⟨rfl, fun i d hi => by simp at hi⟩
  | _ :: _, _, _, h, .nil => h.elim
  | [], _, _, h, .cons _ _ => h.elim
  | v :: vs, _, _, h, .cons q t => by
    obtain ⟨h1, h2⟩ := Rds.rep S h.2 t
    refine ⟨by rw [List.length_cons, List.length_cons, h1], fun i d hi => ?_⟩
    cases i with
    | zero => simp at hi; subst hi; exact ⟨v, rfl, q.rep S h.1⟩
    | succ i => simp at hi; exact h2 i d hi
end
end DL

/-! ### xs[k] += n; in, of data of any depth; more that raises -/
namespace L2
open PySem PySem.Spec PyProof.Rows
end L2
namespace DL
open PySem L2
section
variable {X : Cx} {k j : Nat} {x : Str} {sp : Sp} {p pos : Pos}
end
theorem room65 {k : Nat} {A : Around} (r : Room k A) : A.units + 65 < cLine := by have := r.un; omega
section
variable {K : PySem.W.Frag} {pr : List Nat} {W : WX} {te ta tb to : TE} {ts : TA} {env e1 e2 e : Env} {r r1 r2 : Res} {i : Nat} {l m : List D} {N B C : Env → Prop} {R : Ret → Env → Prop} {n j k0 : Int} {d : D} {c : Bool} {X : Addr} {t u : TT}
/-! raising in parts -/
end
end DL

/-! ### instances of own classes: made, read, written -/
namespace DL
open PySem L2
section
variable {K : PySem.W.Frag} {F : Hp}
end
section
variable {K : PySem.W.Frag} {pr : List Nat} {W : WX} {te ta tv : TE} {ts : TA} {env e1 e2 e : Env} {r : Res} {rs : List Res} {i : Nat} {N B C : Env → Prop} {R : Ret → Env → Prop} {d : D} {ds : List D} {Cc : Addr} {fs : List (Str × D)} {f : Str} {o : OB}
end
/-- a class whose instances are made by a call of its name -/
structure Mf (P : Program) (w : World) (K : PySem.W.Frag) (mg : Str → Option Value) (base : Heap) (k : Nat) (x : Str) (C : Addr) (sp : Sp) : Prop where
  ex : ∃ (f : Addr) (fd : FuncData) (ps : List Str), Mk K C f ∧ FnOk P w K mg base CX0 k f fd ps sp ∧ mg x = some (.ref C) ∧ Binds K fd ps []
section
variable {X : Cx} {k j : Nat} {x : Str} {C : Addr} {sp : Sp} {p pos : Pos} {e : Expr} {es : List Expr} {t : TA}
end
theorem Mf.of {P : Program} {w : World} {K : PySem.W.Frag} {mg : Str → Option Value} {base : Heap} {k : Nat} {x : Str} {C fa : Addr} {fd : FuncData} {ps : List Str} {sp : Sp} (M : Mk K C fa) (h : FnOk P w K mg base CX0 k fa fd ps sp) (hm : mg x = some (.ref C)) (b : Binds K fd ps []) : Mf P w K mg base k x C sp := ⟨fa, fd, ps, M, h, hm, b⟩
end DL
namespace DL
open PySem L2
/-! ### try: .. except C: .. -/
def tTryO (K : PySem.W.Frag) (c : Value) (ts : TS) (tb : WX → TS) : TS := fun D σ H => tb (wOnly K c (fun _ _ _ => ts) (fun _ _ _ _ => False) D) D σ H
theorem ps_tryO {X : Cx} {x : Str} {c : Value} {body suite : List Stmt} {b₀ : Stmt} {np pos pos' : Pos} {tb : WX → TS} {ts : TS} (hs : X.stack = X.env :: X.outer) (hf : X.env.frame = some X.env.locals) (hc : Names X x c)
    (hb : ∀ (W : WX) (pn : List (Addr × Obj)) (xe : Value → Shared → Prop), Takes (X.tr pn xe) W → PassesOwn (model X.prog X.w) X.A X.env xe → PSs (X.tr pn xe) body (tb W))
    (hsu : ∀ (a : Addr) (oe : Obj) (cls : Value) (d : Option Addr) (pn : List (Addr × Obj)), Zc cls d oe → (∃ vs, oe.data = .fields vs) → PSs (X.suite a ((a, oe) :: pn)) (b₀ :: suite) ts) :
    PS X (.Try body [.ExceptHandler (some (.Name x np)) none (b₀ :: suite) pos'] [] [] pos) (tTryO X.K c ts tb) := ps_try_only hs hf hc takes0 hb hsu
section
variable {K : PySem.W.Frag} {pr : List Nat} {W : WX} {env : Env} {N B C M : Env → Prop} {R : Ret → Env → Prop} {c : Value} {tb : WX → TS} {ts : TS}
end
end DL
namespace L2
open PySem PySem.Spec PyProof.Rows
theorem noI_tuple_add : typeLookup (.type "tuple") (dunderI "add") = pure none := by rw [typeLookup_type, builtinLookup_eq_fast]; kernel_rfl
section
variable {prog : Program} {w : World} {A : Around} {E : Value → Shared → Prop} {s : Shared}
theorem icat_tup {t b : Addr} {vs ws : List Value} {Q : Value → Shared → Prop} (ht : IsTup s.heap t vs.toArray) (hb : IsTup s.heap b ws.toArray) (hv : vs ≠ [])
    (h1 : ws = [] → Q (.ref t) s) (h2 : ws ≠ [] → Q (.ref s.heap.objs.size) { s with heap := s.heap.push { cls := .type "tuple", data := .seq (vs ++ ws).toArray } })
    (hsz : vs.length + ws.length ≤ sizeLine) : wpAny (model prog w) A (inplaceOp .Add (.ref t) (.ref b)) Q E s := by
  obtain ⟨⟨cls, dd, data, sl⟩, ho, hc, n, hd⟩ := id ht
  obtain ⟨⟨cls2, dd2, data2, sl2⟩, ho2, hc2, n2, hd2⟩ := id hb
  simp only at hc hd hc2 hd2
  subst hc hd hc2 hd2
  have e : vs.toArray ++ ws.toArray = (vs ++ ws).toArray := by simp
  by_cases hw : ws = []
  · exact wpAny_inplaceOp_concat ⟨_, ho, rfl⟩ ⟨_, ho2, rfl⟩ noI_tuple_add noFill_tuple_add seq_tuple_add (call_meets PySem.F.slot_tuple_add ⟨_, ho, rfl⟩ PySem.F.entry_tuple_add (PySem.F.args_tuple_add_2 _ _)
      (tuple_addW1 t b vs.toArray ws.toArray n n2 dd dd2 sl sl2 (by simpa using hv) (by simp [hw])) ⟨ho, ho2, h1 hw⟩)
  · refine wpAny_inplaceOp_concat ⟨_, ho, rfl⟩ ⟨_, ho2, rfl⟩ noI_tuple_add noFill_tuple_add seq_tuple_add (call_meets PySem.F.slot_tuple_add ⟨_, ho, rfl⟩ PySem.F.entry_tuple_add (PySem.F.args_tuple_add_2 _ _)
      (tuple_addW2 t b vs.toArray ws.toArray n n2 dd dd2 sl sl2 (by simpa using hv) (by simpa using hw) (by rw [List.size_toArray, List.size_toArray]; exact hsz)) ⟨ho, ho2, ?_⟩)
    rw [e]
    exact h2 hw
end
theorem iop_catT {X : Cx} : OpR X (inplaceOp .Add) (rCatT X.K) := by
  intro pins s σ H x y v u Q I rx ry h
  obtain ⟨a, b, xs, ys, rfl, rfl, ha, hb, hx, hz, q1, q2⟩ := h
  cases rx
  cases ry
  obtain ⟨its, r1, p1, _⟩ := I.tuple ha
  obtain ⟨its2, r2, p2, _⟩ := I.tuple hb
  refine icat_tup p1 p2 (fun z => hx (r1.nil_iff.mp z)) (fun z => ⟨.ref a, H, I, rfl, q1 (r2.nil_iff.mp z)⟩) (fun z => ?_) (by rw [← r1.length, ← r2.length]; exact hz)
  refine ⟨.ref s.heap.objs.size, _, I.laid (t' := s.toks) (o := .tup (xs ++ ys)) (fun b ob q => Heap.get?_push_of_some _ q) (Nat.le_refl _) ?_, rfl, q2 (fun w => z (r2.nil_iff.mpr w)) _ (I.hok.fresh (Nat.le_refl _))⟩
  exact ⟨by rw [List.length_append]; exact hz, _, r1.append r2, IsTup.new _ _⟩
end L2
namespace DL
open PySem L2
def ipAddT (K : PySem.W.Frag) : TIp := fun x y H Q => ipAddU x y H Q ∨ rCatT K x y H Q
theorem ip_addT {X : Cx} {K : PySem.W.Frag} (e : X.K = K := by rfl) : PIp X .Add (ipAddT K) := by
  subst e
  intro pins s σ H x y v u Q I rx ry h
  rcases h with h | h
  · exact ip_addU pins s σ H x y v u Q I rx ry h
  · exact iop_catT pins s σ H x y v u Q I rx ry h
section
variable {K : PySem.W.Frag} {pr : List Nat} {W : WX} {te : TE} {env e1 : Env} {i : Nat} {l m : List D} {N B C : Env → Prop} {R : Ret → Env → Prop}
end
end DL

/-! ### repr of tuples, where nothing is under way: in the law's own def, called from the top -/
namespace L2
open PySem PySem.Spec PyProof.Rows
/-- what a def promises where it is called from the top -/
structure RunC (P : Program) (w : World) (K : PySem.W.Frag) (mg : Str → Option Value) (base : Heap) (CX : CXT) (f : Addr) (fd : FuncData) (ps : List Str) (sp : Sp) : Prop where
  run : ∀ (outer : List Env) (s : Shared) (H : Hp) (args : Args) (us : List Value) (vs : List V) (Q : VK) (E : XK), Env0 P w K mg base callerA outer s H → BindsTo s fd args (ps.zip us) → Vals vs us → sp vs H Q E →
    codeAny (model P w) callerA (.call (.ref f) args) (CR CX outer P w H s Q E) s
theorem RunC.imp {P : Program} {w : World} {K : PySem.W.Frag} {mg : Str → Option Value} {base : Heap} {CX : CXT} {f : Addr} {fd : FuncData} {ps : List Str} {sp sp' : Sp} (R : RunC P w K mg base CX f fd ps sp) (h : ∀ vs H Q E, sp' vs H Q E → sp vs H Q E) : RunC P w K mg base CX f fd ps sp' :=
  ⟨fun outer s H args us vs Q E e b r q => R.run outer s H args us vs Q E e b r (h _ _ _ _ q)⟩
end L2

namespace DL
open PySem L2
/-! ### what repr shows of data -/
section
variable {K : PySem.W.Frag} {e : Env} {r : Res} {l : List D}
end
section
variable {P : Program} {w : World} {K : PySem.W.Frag} {mg : Str → Option Value} {base : Heap} {x qn : Str} {st : Stmt} {fa : Addr} {fd : FuncData} {N ps : List Str} {k : Nat}
end
end DL

/-! ### methods of own classes that only read; isinstance of an instance -/
namespace DL
open PySem L2
/-- a method -/
structure Mt (P : Program) (w : World) (K : PySem.W.Frag) (mg : Str → Option Value) (base : Heap) (k : Nat) (C : Addr) (m : Str) (sp : Sp) : Prop where
  ex : ∃ (f : Addr) (fd : FuncData) (ps : List Str), Meth K C m f ∧ FnOk P w K mg base CX0 k f fd ps sp ∧ Binds K fd ps []
theorem Mt.of {P : Program} {w : World} {K : PySem.W.Frag} {mg : Str → Option Value} {base : Heap} {k : Nat} {m : Str} {C fa : Addr} {fd : FuncData} {ps : List Str} {sp : Sp} (M : Meth K C m fa) (h : FnOk P w K mg base CX0 k fa fd ps sp) (b : Binds K fd ps []) : Mt P w K mg base k C m sp := ⟨fa, fd, ps, M, h, b⟩
section
variable {X : Cx} {k j : Nat} {m : Str} {C : Addr} {sp : Sp} {apos pos : Pos} {o e : Expr} {es : List Expr} {t : TA} {ta : TE}
end
section
variable {K : PySem.W.Frag} {env e e1 e2 : Env} {f : List D → D → Prop} {rs : List Res} {ds : List D} {d : D} {ta : TE} {ts : TA} {E : XK} {Cc : Addr} {m : Str} {fs : List (Str × D)}
/-- what isinstance asks of an own class -/
structure InC (K : PySem.W.Frag) (C : Addr) : Prop where
  cl : Cls K C
  ha : PySem.W.findIn K (.ref C) "__class__" = some (some (.builtin "object.__class__"))
  hn : PySem.W.specialIn K (.builtin "object.__class__") "__get__" = some (some (.builtin "getset_descriptor.__get__"))
  ht : PySem.W.takesIn K (.builtin "object.__class__") = some true
  hm : PySem.W.mroIn K C (.type "object") = some true
end
end DL
/-! ### repr of tuples, ints and texts, at the top -/
namespace DL
open PySem L2
section
variable {K : PySem.W.Frag} {e : Env} {r : Res} {l : List D} {i : Int} {x : Str}
end
end DL

/-! ### instances made by an __init__ that may raise -/
namespace L2
open PySem PySem.Spec PyProof.Rows
section
variable {X : Cx} {CX : CXT} {k : Nat} {f C : Addr} {fd : FuncData} {ps : List Str} {sp : Sp} {E : St → XK} {x : Str} {p pos : Pos} {e : Expr} {es : List Expr} {t : TA}
theorem run_makeS {pins : List (Addr × Obj)} {σ : St} {H : Hp} {s : Shared} {Q : VK} {us : List Value} {vs : List V} (M : Mk X.K C f) (F : FnOk X.prog X.w X.K X.mg X.base CX k f fd ps sp) (hr : Room (k + 1) X.A) (hb : Binds X.K fd ps [])
    (hx : PassesAt CX X σ (E σ)) (I : Inv X pins σ H s) (r : Vals vs us)
    (h : ∀ x dx, H x = none → H dx = none → dx ≠ x → sp (.ref x :: vs) (upd (upd H dx (.own x)) x (.ins C dx [])) (fun v H2 => v = .non ∧ Q (.ref x) H2) (E σ)) :
    wpAny (model X.prog X.w) X.A (call (.ref C) us) (EP X pins σ Q) X.xe s := by
  have hq := h (s.heap.objs.size + 1) s.heap.objs.size (I.hok.fresh (Nat.le_succ _)) (I.hok.fresh (Nat.le_refl _)) (Nat.ne_of_lt (Nat.lt_succ_self _))
  have I2 := Inv.made (C := C) I
  have r2 : Vals (V.ref (s.heap.objs.size + 1) :: vs) (Value.ref (s.heap.objs.size + 1) :: us) := .cons rfl r
  have hl : (Value.ref (s.heap.objs.size + 1) :: us).length = ps.length := by
    have e := r2.length
    rw [F.len _ _ _ _ hq] at e
    exact e.symm
  have b := hb _ (Value.ref (s.heap.objs.size + 1) :: us) I2.kIn (by rw [List.append_nil]; exact hl)
  rw [List.append_nil] at b
  refine wpAny_call (make_map (f := f) I.kIn M.makes M.init (beq_iff_eq.mp M.fn) (codeAny_mono (F.run _ X.stack _ _ ⟨Value.ref (s.heap.objs.size + 1) :: us, []⟩ (Value.ref (s.heap.objs.size + 1) :: us) _ _ (E σ) (hr.make C us [])
    (I2.env0.make C us []) b r2 hq) fun r s' hq' => ?_))
  cases r with
  | error e => exact hx pins _ _ e s' I2 hq'
  | ok fl =>
    cases fl with
    | ret u =>
      obtain ⟨v, H', I3, rv, ev, q3⟩ := I2.after hq'
      subst ev
      exact ⟨rv, ⟨V.ref (s.heap.objs.size + 1), H', I3, rfl, q3⟩⟩
    | next => exact False.elim hq'
    | brk => exact False.elim hq'
    | cont => exact False.elim hq'
def tMakeS (C : Addr) (sp : Sp) (E : St → XK) (t : TA) : TE := fun σ H Q => t σ H fun vs H1 => ∀ x dx, H1 x = none → H1 dx = none → dx ≠ x →
  sp (.ref x :: vs) (upd (upd H1 dx (.own x)) x (.ins C dx [])) (fun v H2 => v = .non ∧ Q (.ref x) H2) (E σ)
theorem pe_makeS (M : Mk X.K C f) (F : FnOk X.prog X.w X.K X.mg X.base CX k f fd ps sp) (hr : Room (k + 1) X.A) (hg : Gl X x) (hm : X.mg x = some (.ref C)) (hb : Binds X.K fd ps []) (hx : ∀ σ, PassesAt CX X σ (E σ))
    (ha : PA X (e :: es) t) (hdb : (x == ("__debug__" : Str)) = false := by decide) (he : starEach (e :: es) X.env = (false, eval e X.env) :: starEach es X.env := by rfl) (hpl : (backTo pos (starEach es X.env)).any (·.1) = false := by rfl) :
    PE X (.Call (.Name x p) (e :: es) [] pos) (tMakeS C sp E t) := by
  refine ⟨fun pins s σ H Q I h => ?_⟩
  refine wpAny_Call_Name_kw (ld_glob I hg hm ?_ hdb)
  refine PySem.W.callWith_K (h₀ := X.base) I.ok.mod.kin M.kp (thn (ha.run pos pins s σ H _ I h) fun us s1 ⟨vs, H1, I1, r, q⟩ => ⟨I1.kIn, ?_⟩) he hpl
  exact run_makeS M F hr hb (hx σ) I1 r q
end
end L2
namespace DL
open PySem L2
structure Mx (P : Program) (w : World) (K : PySem.W.Frag) (mg : Str → Option Value) (base : Heap) (k : Nat) (x : Str) (C : Addr) (sp : Sp) : Prop where
  ex : ∃ (f : Addr) (fd : FuncData) (ps : List Str), Mk K C f ∧ FnOk P w K mg base (L2.CX P w) k f fd ps sp ∧ mg x = some (.ref C) ∧ Binds K fd ps []
theorem Mx.of {P : Program} {w : World} {K : PySem.W.Frag} {mg : Str → Option Value} {base : Heap} {k : Nat} {x : Str} {C fa : Addr} {fd : FuncData} {ps : List Str} {sp : Sp} (M : Mk K C fa) (h : FnOk P w K mg base (L2.CX P w) k fa fd ps sp) (hm : mg x = some (.ref C)) (b : Binds K fd ps []) : Mx P w K mg base k x C sp := ⟨fa, fd, ps, M, h, hm, b⟩
section
variable {X : Cx} {W : WX} {k j : Nat} {x : Str} {C : Addr} {sp : Sp} {p pos : Pos} {e : Expr} {es : List Expr} {t : TA}
theorem pe_mx (c : Mx X.prog X.w X.K X.mg X.base k x C sp) (tk : Takes X W) (hr : Room j X.A) (hk : k + 1 ≤ j) (hg : Gl X x) (ha : PA X (e :: es) t)
    (hdb : (x == ("__debug__" : Str)) = false := by decide) (he : starEach (e :: es) X.env = (false, eval e X.env) :: starEach es X.env := by rfl) (hpl : (backTo pos (starEach es X.env)).any (·.1) = false := by rfl) :
    PE X (.Call (.Name x p) (e :: es) [] pos) (tMakeS C sp (WE W) t) := by
  obtain ⟨f, fd, ps, M, F, hm, b⟩ := c.ex
  exact pe_makeS M F (hr.mono hk) hg hm b (fun σ => passAt tk σ) ha hdb he hpl
/-- .. and does not raise, where it is made -/
theorem pe_mx0 (c : Mx X.prog X.w X.K X.mg X.base k x C sp) (hr : Room j X.A) (hk : k + 1 ≤ j) (hg : Gl X x) (ha : PA X (e :: es) t)
    (hdb : (x == ("__debug__" : Str)) = false := by decide) (he : starEach (e :: es) X.env = (false, eval e X.env) :: starEach es X.env := by rfl) (hpl : (backTo pos (starEach es X.env)).any (·.1) = false := by rfl) :
    PE X (.Call (.Name x p) (e :: es) [] pos) (tMake C sp [] E0 t) := by
  obtain ⟨f, fd, ps, M, F, hm, b⟩ := c.ex
  exact pe_make M F (hr.mono hk) hg hm b .nil passL ha hdb he hpl
end
section
variable {K : PySem.W.Frag} {pr : List Nat} {W : WX} {ts : TA} {env e1 : Env} {rs : List Res} {ds : List D} {Cc Ce : Addr} {fs : List (Str × D)} {b : Bs} {F1 H1 : Hp} {oa : Nat → Addr} {σ : L2.St} {vs : List V} {x dx : Addr}
end
section
variable {P : Program} {w : World} {K : PySem.W.Frag} {mg : Str → Option Value} {base : Heap} {x qn : Str} {st : Stmt} {fa : Addr} {fd : FuncData} {N ps : List Str} {k : Nat}
end
end DL

namespace DL
open PySem L2
/-! ### rows of bits, in plain Lean -/
def gathA (a : Int) (l : List Int) : Int := l.foldl (fun n b => 2 * n + b) a
def gath (l : List Int) : Int := gathA 0 l
def bitsN (n : Int) (m : Nat) : List Int := (List.range m).map fun p => n / 2 ^ (m - 1 - p) % 2
def Bits (l : List Int) : Prop := ∀ b, b ∈ l → b = 0 ∨ b = 1
theorem Bits.nil : Bits [] := fun _ h => by cases h
theorem Bits.append {l m : List Int} (h1 : Bits l) (h2 : Bits m) : Bits (l ++ m) := fun b h => by
  rcases List.mem_append.mp h with q | q
  · exact h1 b q
  · exact h2 b q
theorem gathA_append {a : Int} {l m : List Int} : gathA a (l ++ m) = gathA (gathA a l) m := by unfold gathA; rw [List.foldl_append]
theorem gath_snoc {l : List Int} {b : Int} : gath (l ++ [b]) = 2 * gath l + b := by unfold gath; rw [gathA_append]; rfl
theorem gathA_lin : ∀ (l : List Int) (a : Int), gathA a l = a * 2 ^ l.length + gath l
  | [], a => by simp [gathA, gath]
  | b :: l, a => by
    show gathA (2 * a + b) l = _
    have e : gath (b :: l) = gathA (2 * 0 + b) l := rfl
    rw [e, gathA_lin l (2 * a + b), gathA_lin l (2 * 0 + b), List.length_cons, Int.pow_succ]
    generalize (2 : Int) ^ l.length = p
    rw [Int.add_mul, Int.add_mul, Int.mul_comm 2 a, Int.mul_assoc, Int.mul_comm 2 p]
    omega
theorem gath_append {l m : List Int} : gath (l ++ m) = gath l * 2 ^ m.length + gath m := by
  unfold gath
  rw [gathA_append]
  exact gathA_lin m _
theorem gath_range : ∀ (n : Nat) (l : List Int), l.length = n → Bits l → 0 ≤ gath l ∧ gath l < 2 ^ n
  | 0, l, h, _ => by
    have : l = [] := List.eq_nil_of_length_eq_zero h
    subst this
    exact ⟨by decide, by decide⟩
  | n + 1, l, h, hb => by
    rcases List.eq_nil_or_concat l with e | ⟨i, b, e⟩
    · subst e; cases h
    · rw [e, List.concat_eq_append] at h hb ⊢
      have hl : i.length = n := by simpa using h
      obtain ⟨h1, h2⟩ := gath_range n i hl fun b q => hb b (List.mem_append_left _ q)
      have hb := hb b (List.mem_append_right _ List.mem_cons_self)
      rw [gath_snoc, Int.pow_succ]
      omega
theorem gath_in {l : List Int} (h : Bits l) : 0 ≤ gath l ∧ gath l < 2 ^ l.length := gath_range _ l rfl h
theorem bitsN_len {n : Int} {m : Nat} : (bitsN n m).length = m := by simp [bitsN]
theorem bitsN_bits {n : Int} {m : Nat} : Bits (bitsN n m) := fun b h => by
  unfold bitsN at h
  obtain ⟨p, _, rfl⟩ := List.mem_map.mp h
  have : ∀ x : Int, x % 2 = 0 ∨ x % 2 = 1 := fun x => by omega
  exact this _
theorem pow_pos2 (k : Nat) : (0 : Int) < 2 ^ k := Int.pow_pos (by decide)
theorem bitsN_succ {n : Int} {m : Nat} : bitsN n (m + 1) = bitsN (n / 2) m ++ [n % 2] := by
  unfold bitsN
  rw [List.range_succ, List.map_append]
  congr 1
  · apply List.map_congr_left
    intro p hp
    have hp := List.mem_range.mp hp
    have e : m + 1 - 1 - p = (m - 1 - p) + 1 := by omega
    rw [e, Int.pow_succ, Int.mul_comm, ← Int.ediv_ediv_of_nonneg (by decide)]
  · simp
theorem gath_bitsN : ∀ (m : Nat) (n : Int), gath (bitsN n m) = n % 2 ^ m
  | 0, n => by
    show (0 : Int) = n % 1
    omega
  | m + 1, n => by
    rw [bitsN_succ, gath_snoc, gath_bitsN m, Int.pow_succ]
    have hp := pow_pos2 m
    generalize (2 : Int) ^ m = p at hp ⊢
    have h1 : n = 2 * (n / 2) + n % 2 := by omega
    have h2 := Int.mul_ediv_add_emod (n / 2) p
    have h3 := Int.emod_nonneg (n / 2) (show p ≠ 0 by omega)
    have h4 := Int.emod_lt_of_pos (n / 2) hp
    have e : n % (p * 2) = (2 * (n / 2 % p) + n % 2 + p * 2 * (n / 2 / p)) % (p * 2) := by
      congr 1
      have : p * 2 * (n / 2 / p) = 2 * (p * (n / 2 / p)) := by rw [Int.mul_comm p 2, Int.mul_assoc]
      omega
    have e2 : (2 * (n / 2 % p) + n % 2 + p * 2 * (n / 2 / p)) % (p * 2) = 2 * (n / 2 % p) + n % 2 := by
      rw [Int.add_mul_emod_self_left]
      exact Int.emod_eq_of_lt (by omega) (by omega)
    exact (e.trans e2).symm
theorem bitAnd1 {x : Int} : Builtin.bitAnd x 1 = x % 2 := by
  have h := PySem.W.kbt_mask x 1
  exact h
theorem bitOr_bit {n b : Int} (h : 0 ≤ n) (hb : b = 0 ∨ b = 1) : Builtin.bitOr (n * 2 ^ 1) b = 2 * n + b := by
  rw [or_low (k := 1) h (by omega) (by omega)]
  omega
/-! bytes in bits -/
def Bytes (l : List Int) : Prop := ∀ b, b ∈ l → 0 ≤ b ∧ b ≤ 255
def bitsOf (l : List Int) : List Int := (l.map fun b => bitsN b 8).flatten
def val (l : List Int) : Int := l.foldl (fun n b => n * 256 + b) 0
theorem bitsOf_cons {b : Int} {l : List Int} : bitsOf (b :: l) = bitsN b 8 ++ bitsOf l := rfl
theorem bitsOf_append {l m : List Int} : bitsOf (l ++ m) = bitsOf l ++ bitsOf m := by unfold bitsOf; rw [List.map_append, List.flatten_append]
theorem bitsOf_len : ∀ l : List Int, (bitsOf l).length = 8 * l.length
  | [] => rfl
  | b :: l => by rw [bitsOf_cons, List.length_append, bitsN_len, bitsOf_len l, List.length_cons]; omega
theorem bitsOf_bits : ∀ l : List Int, Bits (bitsOf l)
  | [] => Bits.nil
  | b :: l => by rw [bitsOf_cons]; exact bitsN_bits.append (bitsOf_bits l)
/-- eight bits at a time -/
def dataOf (l : List Int) : List Int := (List.range (l.length / 8)).map fun k => gath ((l.drop (8 * k)).take 8)
end DL
namespace DL
open PySem L2
theorem sIx_some {n d : Nat} {v : Int} (h : 0 ≤ v) : HT.sIx n d (some v) = min v.toNat n := by
  show (if v < 0 then (v + (n : Int)).toNat else min v.toNat n) = _
  rw [if_neg (by omega)]
end DL

/-! ### texts: one sign in a text, join, index; a written dict; reversed(range(n)) -/
namespace DL
open PySem L2
def rSign (neg : Bool) : R2 := fun x y H Q => ∃ (c : Nat) (z : Str), x = .str ⟨#[c]⟩ ∧ y = .str z ∧ Q (.bl (if neg then !decide (c ∈ z.cps.toList) else decide (c ∈ z.cps.toList))) H
def rJoin (K : PySem.W.Frag) : V → List V → Hp → VK → Prop := fun x xs H Q => ∃ a p, ∃ ys : List Str, x = .str a ∧ xs = [.ref p] ∧ (SqL K H p (ys.map V.str) ∨ SqT K H p (ys.map V.str)) ∧
    (ys.map (·.length)).sum + ys.length * a.length ≤ 16777216 ∧ Q (.str (Txt.join a ys)) H
def rIdxS : V → List V → Hp → VK → Prop := fun x xs H Q => ∃ (a b : Str) (k : Nat), x = .str a ∧ xs = [.str b] ∧ Txt.index0 a b = some k ∧ Q (.int (k : Nat)) H
section
variable {X : Cx} {o e : Expr} {to te : TE} {apos pos : Pos}
end
section
variable {K : PySem.W.Frag} {e env e1 e2 : Env} {to te : TE} {r : Res} {a b z : Str} {ys : List Str} {k : Nat} {c : Nat} {neg : Bool} {da : Addr} {w : World} {d : D} {n : Int}
end
end DL

/-! ## plain functions for the defs (no program in sight) -/
namespace SM
open PySem L2

/-- data; an object that may change is told by its place in a plain heap -/
inductive D where
  | non | bl (b : Bool) | int (i : Int) | str (x : Str) | ty (n : String)
  | tup (l : List D) | wt (l : List D) | scr (l : List D) | ref (i : Nat) | nm (x : String) | exc (C : String)
instance : Inhabited D := ⟨.non⟩
inductive O where
  | lst (l : List D)
  /-- t: its keys are tuples; lk: a loop walks it -/
  | dic (t lk : Bool) (kvs : List (D × D))
  | obj (C : String) (fs : List (String × D))
abbrev Hs := List O
abbrev Sl := List (Option D)
inductive RE (α : Type) where
  | ok (a : α) (A : Hs) | exc (C : String) (A : Hs) | stuck
def RE.bind {α β : Type} (r : RE α) (f : α → Hs → RE β) : RE β := match r with
  | .ok a A => f a A
  | .exc C A => .exc C A
  | .stuck => .stuck
/-- an exception has no road from here -/
def RE.noX {α : Type} : RE α → RE α
  | .ok a A => .ok a A
  | _ => .stuck
abbrev E := Sl → Hs → RE D
abbrev Tt := Sl → Hs → RE Bool
abbrev As := Sl → Hs → RE (List D)
abbrev Fn := List D → Hs → RE D
inductive RS where
  | nx (σ : Sl) (A : Hs) | bk (σ : Sl) (A : Hs) | ct (σ : Sl) (A : Hs) | rt (d : D) (A : Hs) | exc (C : String) (σ : Sl) (A : Hs) | stuck
abbrev S := Sl → Hs → RS
/-- a new object -/
def alloc (A : Hs) (o : O) : RE D := .ok (.ref A.length) (A ++ [o])

def eVar (i : Nat) : E := fun env A => match env[i]? with
  | some (some d) => .ok d A
  | _ => .stuck
def eC (d : D) : E := fun _ A => .ok d A
def eOp (o : D → D → Hs → RE D) (a b : E) : E := fun env A => (a env A).bind fun x A1 => (b env A1).bind fun y A2 => o x y A2
def eUn (o : D → Hs → RE D) (a : E) : E := fun env A => (a env A).bind fun x A1 => o x A1
def aNil : As := fun _ A => .ok [] A
def aCons (a : E) (as : As) : As := fun env A => (a env A).bind fun x A1 => (as env A1).bind fun xs A2 => .ok (x :: xs) A2
def eCB (f : List D → Hs → RE D) (as : As) : E := fun env A => (as env A).bind fun ds A1 => f ds A1
/-- a call where nothing that is raised has a road -/
def eCall0 (f : Fn) (as : As) : E := fun env A => (as env A).bind fun ds A1 => (f ds A1).noX
def eCall (f : Fn) (as : As) : E := fun env A => (as env A).bind fun ds A1 => f ds A1
def make (C : String) (f : Fn) (ds : List D) (A1 : Hs) : RE D := match f (.ref A1.length :: ds) (A1 ++ [.obj C []]) with
    | .ok .non A2 => .ok (.ref A1.length) A2
    | .exc X A2 => .exc X A2
    | _ => .stuck
def eMake0 (C : String) (f : Fn) (as : As) : E := fun env A => (as env A).bind fun ds A1 => (make C f ds A1).noX
def eMake (C : String) (f : Fn) (as : As) : E := fun env A => (as env A).bind fun ds A1 => make C f ds A1
/-- the class of an object, its fields -/
def objAt (A : Hs) : D → Option (String × List (String × D))
  | .ref i => match A[i]? with
    | some (.obj C fs) => some (C, fs)
    | _ => none
  | _ => none
/-- what holds of all -/
def AllC (P : String → Prop) : List String → Prop
  | [] => True
  | c :: r => P c ∧ AllC P r
theorem AllC.of {P : String → Prop} {c : String} : ∀ {l : List String}, AllC P l → c ∈ l → P c
  | _ :: r, h, q => by
    rcases List.mem_cons.mp q with z | z
    · rw [z]; exact h.1
    · exact AllC.of h.2 z
def methOf (m : String) (tbl : List (String × Fn)) (A : Hs) (x : D) : Option Fn := match objAt A x with
  | some (C, fs) => if (fs.lookup m).isSome then none else tbl.lookup C
  | none => none
def eMeth (m : String) (tbl : List (String × Fn)) (o : E) (as : As) : E := fun env A => (o env A).bind fun x A1 => match methOf m tbl A1 x with
  | some f => (as env A1).bind fun ds A2 => f (x :: ds) A2
  | none => .stuck
def eMeth0 (m : String) (tbl : List (String × Fn)) (o : E) (as : As) : E := fun env A => (o env A).bind fun x A1 => match methOf m tbl A1 x with
  | some f => (as env A1).bind fun ds A2 => (f (x :: ds) A2).noX
  | none => .stuck
/-- o.f, o of one of the classes cs -/
def getFld (cs : List String) (f : String) (A : Hs) (x : D) : Option D := match objAt A x with
  | some (C, fs) => if C ∈ cs then fs.lookup f else none
  | none => none
def eFld (cs : List String) (f : String) (o : E) : E := fun env A => (o env A).bind fun x A1 => match getFld cs f A1 x with
  | some d => .ok d A1
  | none => .stuck
def eAnd (a b : E) : E := fun env A => (a env A).bind fun x A1 => match x with
  | .bl true => b env A1
  | .bl false => .ok (.bl false) A1
  | _ => .stuck
def eOr (a b : E) : E := fun env A => (a env A).bind fun x A1 => match x with
  | .bl false => b env A1
  | .bl true => .ok (.bl true) A1
  | _ => .stuck
def eNot (a : E) : E := fun env A => (a env A).bind fun x A1 => match x with
  | .bl c => .ok (.bl (!c)) A1
  | _ => .stuck
/-- a < b < c -/
def eCh (o o' : D → D → Hs → RE D) (a b c : E) : E := fun env A => (a env A).bind fun x A1 => (b env A1).bind fun y A2 => (o x y A2).bind fun z A3 => match z with
  | .bl false => .ok (.bl false) A3
  | .bl true => (c env A3).bind fun w A4 => o' y w A4
  | _ => .stuck
def tOf (a : E) : Tt := fun env A => (a env A).bind fun x A1 => match x with
  | .bl c => .ok c A1
  | _ => .stuck
def tAn (a b : Tt) : Tt := fun env A => (a env A).bind fun c A1 => if c = true then b env A1 else .ok false A1
def tOo (a b : Tt) : Tt := fun env A => (a env A).bind fun c A1 => if c = true then .ok true A1 else b env A1
def tNo (a : Tt) : Tt := fun env A => (a env A).bind fun c A1 => .ok (!c) A1
def tYe : Tt := fun _ A => .ok true A
def eIf (t : Tt) (a b : E) : E := fun env A => (t env A).bind fun c A1 => if c = true then a env A1 else b env A1
def eTup (as : As) : E := fun env A => (as env A).bind fun ds A1 => if ds.length ≤ sizeLine then .ok (.tup ds) A1 else .stuck
def eLst (as : As) : E := fun env A => (as env A).bind fun ds A1 => if ds.length ≤ sizeLine then alloc A1 (.lst ds) else .stuck
def eDNew (t : Bool) : E := fun _ A => alloc A (.dic t false [])
def oNo : Sl → Hs → RE (Option Int) := fun _ A => .ok none A
def oSo (a : E) : Sl → Hs → RE (Option Int) := fun env A => (a env A).bind fun x A1 => match x with
  | .int i => .ok (some i) A1
  | _ => .stuck
def eSl (o : D → Option Int → Option Int → Hs → RE D) (a : E) (l h : Sl → Hs → RE (Option Int)) : E := fun env A => (a env A).bind fun x A1 => (l env A1).bind fun lo A2 => (h env A2).bind fun hi A3 => o x lo hi A3

/-! ### statements -/
def sSeq (a b : S) : S := fun env A => match a env A with
  | .nx env' A' => b env' A'
  | r => r
def sNx : S := fun env A => .nx env A
def sBk : S := fun env A => .bk env A
def sCt : S := fun env A => .ct env A
def ofE (env : Sl) (r : RE D) (k : D → Hs → RS) : RS := match r with
  | .ok d A => k d A
  | .exc C A => .exc C env A
  | .stuck => .stuck
def ofT (env : Sl) (r : RE Bool) (k : Bool → Hs → RS) : RS := match r with
  | .ok d A => k d A
  | .exc C A => .exc C env A
  | .stuck => .stuck
def sDrop (a : E) : S := fun env A => ofE env (a env A) fun _ A1 => .nx env A1
def sRet (a : E) : S := fun env A => ofE env (a env A) fun d A1 => .rt d A1
def sRetN : S := fun _ A => .rt .non A
def sIf (t : Tt) (a b : S) : S := fun env A => ofT env (t env A) fun c A1 => if c = true then a env A1 else b env A1
/-- targets -/
abbrev G := D → Sl → Hs → Option Sl
def gN (i : Nat) : G := fun d env _ => some (env.set i (some d))
def gAll : List G → List D → Sl → Hs → Option Sl
  | [], [], env, _ => some env
  | g :: gs, d :: ds, env, A => match g d env A with
    | some env' => gAll gs ds env' A
    | none => none
  | _, _, _, _ => none
def gT (gs : List G) : G := fun d env A => match d with
  | .tup ds => gAll gs ds env A
  | _ => none
def sAsg (a : E) (g : G) : S := fun env A => ofE env (a env A) fun d A1 => match g d env A1 with
  | some env' => .nx env' A1
  | none => .stuck
def sSet (i : Nat) (a : E) : S := fun env A => ofE env (a env A) fun d A1 => .nx (env.set i (some d)) A1
/-- a, b = x, y -/
def sPar (i j : Nat) (as : As) : S := fun env A => match as env A with
  | .ok [x, y] A1 => .nx ((env.set i (some x)).set j (some y)) A1
  | .exc C A1 => .exc C env A1
  | _ => .stuck
def sAug (i : Nat) (o : D → D → Hs → RE D) (a : E) : S := fun env A => match env[i]? with
  | some (some x) => ofE env (a env A) fun y A1 => ofE env (o x y A1) fun z A2 => .nx (env.set i (some z)) A2
  | _ => .stuck
def putF (f : String) (d : D) : List (String × D) → List (String × D)
  | [] => [(f, d)]
  | (g, e) :: r => if g = f then (g, d) :: r else (g, e) :: putF f d r
def setFld (cs : List String) (A : Hs) (x : D) (f : String) (d : D) : Option Hs := match x with
  | .ref i => match A[i]? with
    | some (.obj C fs) => if C ∈ cs ∧ fs.length < 999 then some (A.set i (.obj C (putF f d fs))) else none
    | _ => none
  | _ => none
/-- o.f = e -/
def sFl (cs : List String) (f : String) (o a : E) : S := fun env A => ofE env (a env A) fun d A1 => ofE env (o env A1) fun x A2 => match setFld cs A2 x f d with
  | some A3 => .nx env A3
  | none => .stuck
/-- o.f op= e -/
def sFlAug (cs : List String) (f : String) (op : D → D → Hs → RE D) (o a : E) : S := fun env A => ofE env (o env A) fun x A1 => match getFld cs f A1 x with
  | some v => ofE env (a env A1) fun y A2 => ofE env (op v y A2) fun z A3 => match setFld cs A3 x f z with
    | some A4 => .nx env A4
    | none => .stuck
  | none => .stuck
/-- what is walked: the items; what must stand for the walk to go on -/
structure Wk where
  ds : List D
  gd : Hs → Prop
open Classical in
noncomputable def forL (g : G) (b : S) (gd : Hs → Prop) : List D → S
  | [], env, A => if gd A then .nx env A else .stuck
  | d :: ds, env, A => if gd A then match g d env A with
    | some env1 => match b env1 A with
      | .nx env2 A2 => forL g b gd ds env2 A2
      | .ct env2 A2 => forL g b gd ds env2 A2
      | .bk env2 A2 => .nx env2 A2
      | r => r
    | none => .stuck
    else .stuck
noncomputable def sFor (w : Sl → Hs → RE Wk) (g : G) (b : S) : S := fun env A => match w env A with
  | .ok k A1 => forL g b k.gd k.ds env A1
  | .exc C A1 => .exc C env A1
  | .stuck => .stuck
/-- some turns of a while -/
def whN (t : Tt) (b : S) : Nat → S
  | 0, _, _ => .stuck
  | n + 1, env, A => ofT env (t env A) fun c A1 => if c = true then match b env A1 with
      | .nx env2 A2 => whN t b n env2 A2
      | .ct env2 A2 => whN t b n env2 A2
      | .bk env2 A2 => .nx env2 A2
      | r => r
    else .nx env A1
open Classical in
noncomputable def sWh (t : Tt) (b : S) : S := fun env A => if h : ∃ n, whN t b n env A ≠ .stuck then whN t b h.choose env A else .stuck
/-- the slots of a block's own names, not known -/
def wipeS (env : Sl) : List Nat → Sl
  | [] => env
  | v :: vs => (wipeS env vs).set v none
open Classical in
noncomputable def lcL (g : G) (t : Tt) (a : E) (gd : Hs → Prop) (env : Sl) : List D → List D → Hs → RE (List D)
  | [], acc, A => if gd A then .ok acc A else .stuck
  | d :: ds, acc, A => if gd A then match g d env A with
    | some env1 => match t env1 A with
      | .ok true A1 => match a env1 A1 with
        | .ok x A2 => if acc.length < sizeLine then lcL g t a gd env ds (acc ++ [x]) A2 else .stuck
        | _ => .stuck
      | .ok false A1 => lcL g t a gd env ds acc A1
      | _ => .stuck
    | none => .stuck
    else .stuck
/-- a list comprehension; vs: the block's own slots -/
noncomputable def eLc (w : Sl → Hs → RE Wk) (g : G) (t : Tt) (a : E) (vs : List Nat) : E := fun env A => (w env A).bind fun k A1 => match lcL g t a k.gd (wipeS env vs) k.ds [] A1 with
  | .ok l A2 => alloc A2 (.lst l)
  | _ => .stuck
/-- a def by its body: n parameters, m names -/
def mkFn (n m : Nat) (b : S) : Fn := fun ds A => if ds.length = n then match b (ds.map some ++ List.replicate (m - n) none) A with
    | .nx _ A' => .ok .non A'
    | .rt d A' => .ok d A'
    | .exc C _ A' => .exc C A'
    | _ => .stuck
  else .stuck
/-- raise C('..') -/
def sRaise (C : String) : S := fun env A => .exc C env A
/-- try: b / except (catches) as i: slot j = it -/
def sTryK (catches : List String) (i j : Nat) (b : S) : S := fun env A => match b env A with
  | .exc C env1 A1 => if C ∈ catches then .nx (((env1.set i (some (.exc C))).set j (some (.exc C))).set i none) A1 else .stuck
  | r => r
/-- try: b / except (catches): s -/
def sTryO (catches : List String) (b s : S) : S := fun env A => match b env A with
  | .exc C env1 A1 => if C ∈ catches then s env1 A1 else .stuck
  | r => r

theorem whN_mono {t : Tt} {b : S} : ∀ {n : Nat} {env : Sl} {A : Hs}, whN t b n env A ≠ .stuck → whN t b (n + 1) env A = whN t b n env A := by
  intro n
  induction n with
  | zero => intro env A h; exact absurd rfl h
  | succ n ih =>
    intro env A h
    unfold whN at h ⊢
    cases ht : t env A with
    | stuck => rw [ht] at h; rfl
    | exc C A1 => rfl
    | ok c A1 =>
      rw [ht] at h
      cases c with
      | false => rfl
      | true =>
        simp only [ofT, if_true] at h ⊢
        cases hb : b env A1 with
        | nx e2 A2 => rw [hb] at h; exact ih h
        | ct e2 A2 => rw [hb] at h; exact ih h
        | bk _ _ => rfl
        | rt _ _ => rfl
        | exc _ _ _ => rfl
        | stuck => rfl
theorem whN_le {t : Tt} {b : S} {env : Sl} {A : Hs} {n k : Nat} (h : whN t b n env A ≠ .stuck) : whN t b (n + k) env A = whN t b n env A := by
  induction k with
  | zero => rfl
  | succ k ih => rw [← ih, ← Nat.add_assoc]; exact whN_mono (by rw [ih]; exact h)
theorem sWh_eq {t : Tt} {b : S} {env : Sl} {A : Hs} {n : Nat} (h : whN t b n env A ≠ .stuck) : sWh t b env A = whN t b n env A := by
  have hx : ∃ n, whN t b n env A ≠ .stuck := ⟨n, h⟩
  unfold sWh
  rw [dif_pos hx]
  have h2 := hx.choose_spec
  rcases Nat.le_total hx.choose n with q | q
  · have := whN_le (k := n - hx.choose) h2
    rw [show hx.choose + (n - hx.choose) = n by omega] at this
    exact this.symm
  · have := whN_le (k := hx.choose - n) h
    rw [show n + (hx.choose - n) = hx.choose by omega] at this
    exact this
/-- one turn -/
theorem sWh_turn {t : Tt} {b : S} {env : Sl} {A : Hs} : sWh t b env A = ofT env (t env A) fun c A1 => if c = true then match b env A1 with
      | .nx env2 A2 => sWh t b env2 A2
      | .ct env2 A2 => sWh t b env2 A2
      | .bk env2 A2 => .nx env2 A2
      | r => r
    else .nx env A1 := by
  have back : ∀ {env : Sl} {A : Hs}, sWh t b env A ≠ .stuck → ∃ n, whN t b n env A ≠ .stuck := fun {env A} h => by
    unfold sWh at h
    split at h
    · assumption
    · exact absurd rfl h
  have stk : ∀ {env : Sl} {A : Hs}, (∀ n, whN t b n env A = .stuck) → sWh t b env A = .stuck := fun {env A} h => by
    unfold sWh
    rw [dif_neg]
    rintro ⟨n, hn⟩
    exact hn (h n)
  cases ht : t env A with
  | stuck =>
    rw [stk fun n => by cases n with
      | zero => rfl
      | succ n => unfold whN; rw [ht]; rfl]
    rfl
  | exc C A1 =>
    have e : whN t b 1 env A = .exc C env A1 := by unfold whN; rw [ht]; rfl
    rw [sWh_eq (n := 1) (by rw [e]; simp), e]
    rfl
  | ok c A1 =>
    cases c with
    | false =>
      have e : whN t b 1 env A = .nx env A1 := by unfold whN; rw [ht]; rfl
      rw [sWh_eq (n := 1) (by rw [e]; simp), e]
      rfl
    | true =>
      simp only [ofT, if_true]
      have e : ∀ n, whN t b (n + 1) env A = match b env A1 with
        | .nx env2 A2 => whN t b n env2 A2
        | .ct env2 A2 => whN t b n env2 A2
        | .bk env2 A2 => .nx env2 A2
        | r => r := fun n => by
        conv => lhs; unfold whN
        rw [ht]; rfl
      have fin : ∀ r, r ≠ .stuck → (∀ n, whN t b (n + 1) env A = r) → sWh t b env A = r := fun r hr h => by rw [sWh_eq (n := 1) (by rw [h 0]; exact hr), h 0]
      have again : ∀ e2 A2, (∀ n, whN t b (n + 1) env A = whN t b n e2 A2) → sWh t b env A = sWh t b e2 A2 := fun e2 A2 h => by
        by_cases q : ∃ n, whN t b n e2 A2 ≠ .stuck
        · obtain ⟨n, hn⟩ := q
          rw [sWh_eq hn, sWh_eq (n := n + 1) (by rw [h n]; exact hn), h n]
        · have q' : ∀ n, whN t b n e2 A2 = .stuck := fun n => Classical.byContradiction fun z => q ⟨n, z⟩
          rw [stk q', stk fun n => by cases n with
            | zero => rfl
            | succ n => rw [h n, q' n]]
      cases hb : b env A1 with
      | nx e2 A2 => exact again e2 A2 fun n => by rw [e, hb]
      | ct e2 A2 => exact again e2 A2 fun n => by rw [e, hb]
      | bk e2 A2 => exact fin _ (by simp) fun n => by rw [e, hb]
      | rt d A2 => exact fin _ (by simp) fun n => by rw [e, hb]
      | exc C e2 A2 => exact fin _ (by simp) fun n => by rw [e, hb]
      | stuck => exact stk fun n => by cases n with
          | zero => rfl
          | succ n => rw [e, hb]
end SM

/-! ## how the plain functions stand to the program: the relation of the heaps -/
namespace SM
open PySem L2
open DL (Ex ExK)

/-- m begins m' -/
abbrev Pre (m m' : List Addr) : Prop := ∃ r, m' = m ++ r
theorem Pre.refl (m : List Addr) : Pre m m := ⟨[], by simp⟩
theorem Pre.trans {a b c : List Addr} (x : Pre a b) (y : Pre b c) : Pre a c := by
  obtain ⟨r, rfl⟩ := x; obtain ⟨s, rfl⟩ := y; exact ⟨r ++ s, by simp⟩
theorem Pre.get {m m' : List Addr} {i : Nat} {a : Addr} (x : Pre m m') (h : m[i]? = some a) : m'[i]? = some a := by
  obtain ⟨r, rfl⟩ := x
  rw [List.getElem?_append_left (List.getElem?_eq_some_iff.mp h).1]; exact h
theorem Pre.mem {m m' : List Addr} {a : Addr} (x : Pre m m') (h : a ∈ m) : a ∈ m' := by
  obtain ⟨r, rfl⟩ := x; exact List.mem_append_left _ h

mutual
inductive Rep (K : PySem.W.Frag) (ca : String → Addr) (F : Hp) (m : List Addr) : V → D → Prop
  | non : Rep K ca F m .non .non
  | bl (b : Bool) : Rep K ca F m (.bl b) (.bl b)
  | int (i : Int) : Rep K ca F m (.int i) (.int i)
  | str (x : Str) : Rep K ca F m (.str x) (.str x)
  | ty (n : String) : Rep K ca F m (.ty n) (.ty n)
  | tup {a : Addr} {vs : List V} {l : List D} : F a = some (.tup vs) → RepL K ca F m vs l → Rep K ca F m (.ref a) (.tup l)
  | wt {a : Addr} {vs : List V} {l : List D} : SqT K F a vs → RepL K ca F m vs l → Rep K ca F m (.ref a) (.wt l)
  | scr {a : Addr} {vs : List V} {l : List D} : SqL K F a vs → RepL K ca F m vs l → Rep K ca F m (.ref a) (.scr l)
  | ref {a : Addr} {i : Nat} : m[i]? = some a → Rep K ca F m (.ref a) (.ref i)
  | nm (x : String) : Rep K ca F m (.ref (ca x)) (.nm x)
  | exc {a : Addr} {C : String} : F a = some (ExK (ca C) a) → Rep K ca F m (.ref a) (.exc C)
inductive RepL (K : PySem.W.Frag) (ca : String → Addr) (F : Hp) (m : List Addr) : List V → List D → Prop
  | nil : RepL K ca F m [] []
  | cons {v : V} {vs : List V} {d : D} {ds : List D} : Rep K ca F m v d → RepL K ca F m vs ds → RepL K ca F m (v :: vs) (d :: ds)
end
section
variable {K : PySem.W.Frag} {ca : String → Addr} {F F' : Hp} {m m' : List Addr}
mutual
theorem Rep.mono (e : Ex F F') (p : Pre m m') : ∀ {v : V} {d : D}, Rep K ca F m v d → Rep K ca F' m' v d
  | _, _, .non => .non
  | _, _, .bl b => .bl b
  | _, _, .int i => .int i
  | _, _, .str x => .str x
  | _, _, .ty n => .ty n
  | _, _, .tup h r => .tup (e _ _ h) (RepL.mono e p r)
  | _, _, .wt h r => .wt (e.t h) (RepL.mono e p r)
  | _, _, .scr h r => .scr (e.l h) (RepL.mono e p r)
  | _, _, .ref h => .ref (p.get h)
  | _, _, .nm x => .nm x
  | _, _, .exc h => .exc (e _ _ h)
theorem RepL.mono (e : Ex F F') (p : Pre m m') : ∀ {vs : List V} {ds : List D}, RepL K ca F m vs ds → RepL K ca F' m' vs ds
  | _, _, .nil => .nil
  | _, _, .cons h r => .cons (Rep.mono e p h) (RepL.mono e p r)
end
theorem RepL.length : ∀ {vs : List V} {ds : List D}, RepL K ca F m vs ds → vs.length = ds.length
  | _, _, .nil => rfl
  | _, _, .cons _ r => by rw [List.length_cons, List.length_cons, r.length]
theorem RepL.get : ∀ {vs : List V} {ds : List D} {i : Nat} {d : D}, RepL K ca F m vs ds → ds[i]? = some d → ∃ v, vs[i]? = some v ∧ Rep K ca F m v d
  | _, _, _, _, .nil, h => by simp at h
  | _, _, 0, _, .cons h _, e => by simp at e; subst e; exact ⟨_, rfl, h⟩
  | _, _, i + 1, _, .cons _ r, e => by
    obtain ⟨v, h1, h2⟩ := RepL.get (i := i) r (by simpa using e)
    exact ⟨v, by simpa using h1, h2⟩
theorem RepL.append : ∀ {vs ws : List V} {ds es : List D}, RepL K ca F m vs ds → RepL K ca F m ws es → RepL K ca F m (vs ++ ws) (ds ++ es)
  | _, _, _, _, .nil, s => s
  | _, _, _, _, .cons h r, s => .cons h (RepL.append r s)
theorem RepL.take : ∀ {vs : List V} {ds : List D} (n : Nat), RepL K ca F m vs ds → RepL K ca F m (vs.take n) (ds.take n)
  | _, _, 0, _ => .nil
  | _, _, _ + 1, .nil => .nil
  | _, _, n + 1, .cons h r => .cons h (RepL.take n r)
theorem RepL.drop : ∀ {vs : List V} {ds : List D} (n : Nat), RepL K ca F m vs ds → RepL K ca F m (vs.drop n) (ds.drop n)
  | _, _, 0, r => r
  | _, _, _ + 1, .nil => .nil
  | _, _, n + 1, .cons _ r => RepL.drop n r
theorem RepL.set {v : V} {d : D} (h : Rep K ca F m v d) : ∀ {vs : List V} {ds : List D} (n : Nat), RepL K ca F m vs ds → RepL K ca F m (vs.set n v) (ds.set n d)
  | _, _, _, .nil => .nil
  | _, _, 0, .cons _ r => .cons h r
  | _, _, n + 1, .cons q r => .cons q (RepL.set h n r)
theorem RepL.reverse : ∀ {vs : List V} {ds : List D}, RepL K ca F m vs ds → RepL K ca F m vs.reverse ds.reverse
  | _, _, .nil => .nil
  | _, _, .cons h r => by
    rw [List.reverse_cons, List.reverse_cons]
    exact (RepL.reverse r).append (.cons h .nil)
theorem RepL.eraseIdx : ∀ {vs : List V} {ds : List D} (n : Nat), RepL K ca F m vs ds → RepL K ca F m (vs.eraseIdx n) (ds.eraseIdx n)
  | _, _, _, .nil => .nil
  | _, _, 0, .cons _ r => r
  | _, _, n + 1, .cons q r => .cons q (RepL.eraseIdx n r)
theorem RepL.flatRep {vs : List V} {ds : List D} (h : RepL K ca F m vs ds) : ∀ n : Nat, RepL K ca F m (List.replicate n vs).flatten (List.replicate n ds).flatten
  | 0 => .nil
  | n + 1 => by
    rw [List.replicate_succ, List.replicate_succ, List.flatten_cons, List.flatten_cons]
    exact h.append (RepL.flatRep h n)
/-- ints, truths, texts: the values are those of the data -/
theorem RepL.ints : ∀ {vs : List V} {ns : List Int}, RepL K ca F m vs (ns.map D.int) → vs = ns.map V.int
  | _, [], h => by cases h; rfl
  | _, n :: r, h => by
    cases h with
    | cons q t => cases q; rw [RepL.ints t]; rfl
theorem RepL.bools : ∀ {vs : List V} {ns : List Bool}, RepL K ca F m vs (ns.map D.bl) → vs = ns.map V.bl
  | _, [], h => by cases h; rfl
  | _, n :: r, h => by
    cases h with
    | cons q t => cases q; rw [RepL.bools t]; rfl
theorem RepL.of_ints : ∀ {ns : List Int}, RepL K ca F m (ns.map V.int) (ns.map D.int)
  | [] => .nil
  | n :: _ => .cons (.int n) RepL.of_ints
end
/-- keys -/
def kD : Key → D
  | .inl i => .int i
  | .inr x => .str x
def kT (l : List Key) : D := .tup (l.map kD)
inductive KvR (K : PySem.W.Frag) (ca : String → Addr) (F : Hp) (m : List Addr) {κ δ : Type} (kd : κ → δ) : List (κ × V) → List (δ × D) → Prop
  | nil : KvR K ca F m kd [] []
  | cons {k : κ} {v : V} {d : D} {r : List (κ × V)} {s : List (δ × D)} : Rep K ca F m v d → KvR K ca F m kd r s → KvR K ca F m kd ((k, v) :: r) ((kd k, d) :: s)
theorem KvR.mono {K : PySem.W.Frag} {ca : String → Addr} {F F' : Hp} {m m' : List Addr} {κ δ : Type} {kd : κ → δ} (e : Ex F F') (p : Pre m m') : ∀ {l : List (κ × V)} {s : List (δ × D)}, KvR K ca F m kd l s → KvR K ca F' m' kd l s
  | _, _, .nil => .nil
  | _, _, .cons h r => .cons (h.mono e p) (KvR.mono e p r)
theorem KvR.length {K : PySem.W.Frag} {ca : String → Addr} {F : Hp} {m : List Addr} {κ δ : Type} {kd : κ → δ} : ∀ {l : List (κ × V)} {s : List (δ × D)}, KvR K ca F m kd l s → l.length = s.length
  | _, _, .nil => rfl
  | _, _, .cons _ r => by rw [List.length_cons, List.length_cons, KvR.length r]
/-- the object u stands at a, locked or not -/
def At (H : Hp) (a : Addr) : Bool → HO → Prop
  | false, u => H a = some u
  | true, u => ∃ od, H a = some (.frz od u)
def fS (f : String) : Str := ⟨(f.toList.map Char.toNat).toArray⟩
theorem fS_inj {f g : String} : fS f = fS g ↔ f = g := by
  refine ⟨fun h => ?_, fun h => by rw [h]⟩
  unfold fS at h
  injection h with h
  have h2 : f.toList.map Char.toNat = g.toList.map Char.toNat := by
    have := congrArg Array.toList h
    simpa using this
  have inj : ∀ a b : Char, a.toNat = b.toNat → a = b := fun a b e => Char.ext (UInt32.toNat_inj.mp e)
  have h3 : ∀ (l m : List Char), l.map Char.toNat = m.map Char.toNat → l = m := by
    intro l
    induction l with
    | nil => intro m h; cases m with
      | nil => rfl
      | cons _ _ => simp at h
    | cons a l ih =>
      intro m h
      cases m with
      | nil => simp at h
      | cons b m =>
        rw [List.map_cons, List.map_cons] at h
        injection h with h1 h2
        rw [inj a b h1, ih m h2]
  exact String.toList_inj.mp (h3 _ _ h2)
/-- fields by their names -/
inductive FdR (K : PySem.W.Frag) (ca : String → Addr) (F : Hp) (m : List Addr) : List (Str × V) → List (String × D) → Prop
  | nil : FdR K ca F m [] []
  | cons {f : String} {v : V} {d : D} {r : List (Str × V)} {s : List (String × D)} : Rep K ca F m v d → FdR K ca F m r s → FdR K ca F m ((fS f, v) :: r) ((f, d) :: s)
theorem FdR.mono {K : PySem.W.Frag} {ca : String → Addr} {F F' : Hp} {m m' : List Addr} (e : Ex F F') (p : Pre m m') : ∀ {l : List (Str × V)} {s : List (String × D)}, FdR K ca F m l s → FdR K ca F' m' l s
  | _, _, .nil => .nil
  | _, _, .cons h r => .cons (h.mono e p) (FdR.mono e p r)
theorem FdR.length {K : PySem.W.Frag} {ca : String → Addr} {F : Hp} {m : List Addr} : ∀ {l : List (Str × V)} {s : List (String × D)}, FdR K ca F m l s → l.length = s.length
  | _, _, .nil => rfl
  | _, _, .cons _ r => by rw [List.length_cons, List.length_cons, FdR.length r]
def ORep (K : PySem.W.Frag) (ca : String → Addr) (F : Hp) (m : List Addr) (H : Hp) (a : Addr) : O → Prop
  | .lst l => ∃ vs, H a = some (.lst vs) ∧ RepL K ca F m vs l
  | .dic false lk l => ∃ kvs, At H a lk (.dK kvs) ∧ KvR K ca F m kD kvs l
  | .dic true lk l => ∃ kvs, At H a lk (.dT kvs) ∧ KvR K ca F m kT kvs l
  | .obj C fs => ∃ dx kvs, H a = some (.ins (ca C) dx kvs) ∧ FdR K ca F m kvs fs
theorem At.mono {H H' : Hp} {a : Addr} {lk : Bool} {u : HO} (h : At H a lk u) (k : ∀ w, H a = some w → H' a = some w) : At H' a lk u := by
  cases lk with
  | false => exact k _ h
  | true => obtain ⟨od, h⟩ := h; exact ⟨od, k _ h⟩
section
variable {K : PySem.W.Frag} {ca : String → Addr} {F F' H H' : Hp} {m m' : List Addr} {a : Addr} {o : O}
theorem ORep.mono (h : ORep K ca F m H a o) (e : Ex F F') (p : Pre m m') (k : ∀ u, H a = some u → H' a = some u) : ORep K ca F' m' H' a o := by
  cases o with
  | lst l => obtain ⟨vs, x, r⟩ := h; exact ⟨vs, k _ x, r.mono e p⟩
  | dic t lk l =>
    cases t with
    | false => obtain ⟨kvs, x, r⟩ := h; exact ⟨kvs, x.mono k, r.mono e p⟩
    | true => obtain ⟨kvs, x, r⟩ := h; exact ⟨kvs, x.mono k, r.mono e p⟩
  | obj C fs => obtain ⟨dx, kvs, x, r⟩ := h; exact ⟨dx, kvs, k _ x, r.mono e p⟩
theorem ORep.ho (h : ORep K ca F m H a o) : ∃ u, H a = some u := by
  cases o with
  | lst l => obtain ⟨vs, x, r⟩ := h; exact ⟨_, x⟩
  | dic t lk l =>
    cases t with
    | false =>
      obtain ⟨kvs, x, r⟩ := h
      cases lk with
      | false => exact ⟨_, x⟩
      | true => obtain ⟨od, x⟩ := x; exact ⟨_, x⟩
    | true =>
      obtain ⟨kvs, x, r⟩ := h
      cases lk with
      | false => exact ⟨_, x⟩
      | true => obtain ⟨od, x⟩ := x; exact ⟨_, x⟩
  | obj C fs => obtain ⟨dx, kvs, x, _⟩ := h; exact ⟨_, x⟩
end
/-- the plain heap A is the heap H: m tells where its objects stand, F what never changes -/
structure Rl (K : PySem.W.Frag) (ca : String → Addr) (F : Hp) (m : List Addr) (A : Hs) (H : Hp) : Prop where
  fh : Ex F H
  len : m.length = A.length
  nd : m.Nodup
  fr : ∀ a ∈ m, F a = none
  ob : ∀ (i : Nat) (o : O) (a : Addr), A[i]? = some o → m[i]? = some a → ORep K ca F m H a o
/-- what a step leaves -/
structure Stp (F : Hp) (m : List Addr) (H F' : Hp) (m' : List Addr) (H' : Hp) : Prop where
  ff : Ex F F'
  mm : Pre m m'
  kp : ∀ a u, H a = some u → a ∉ m → H' a = some u
  gn : ∀ a, F' a ≠ none → F a ≠ none ∨ H a = none ∨ ∃ xs, F' a = some (.tup xs)
  gm : ∀ a, a ∈ m' → a ∈ m ∨ H a = none
  th : ∀ a, H a ≠ none → H' a ≠ none
  fz : ∀ a o u, H a = some (.frz o u) → H' a = some (.frz o u)
structure Slt (K : PySem.W.Frag) (ca : String → Addr) (F : Hp) (m : List Addr) (σ : L2.St) (env : Sl) : Prop where
  len : σ.length = env.length
  val : ∀ (i : Nat) (d : D), env[i]? = some (some d) → ∃ v : V, σ[i]? = some (some v) ∧ Rep K ca F m v d
section
variable {K : PySem.W.Frag} {ca : String → Addr} {F F1 F2 H H1 H2 : Hp} {m m1 m2 : List Addr} {A : Hs} {σ : L2.St} {env : Sl} {p : Addr} {u : HO} {o : O} {d : D} {v : V} {i : Nat}
theorem Stp.refl : Stp F m H F m H := ⟨Ex.refl _, Pre.refl _, fun _ _ h _ => h, fun a h => .inl h, fun a h => .inl h, fun _ h => h, fun _ _ _ h => h⟩
theorem Stp.none (x : Stp F m H F1 m1 H1) (n : H1 p = none) : H p = none := by
  cases w : H p with
  | none => rfl
  | some v => exact absurd n (x.th p (by rw [w]; simp))
theorem Stp.trans (x : Stp F m H F1 m1 H1) (y : Stp F1 m1 H1 F2 m2 H2) : Stp F m H F2 m2 H2 := by
  refine ⟨x.ff.trans y.ff, x.mm.trans y.mm, fun a u h n => ?_, fun a h => ?_, fun a h => ?_, fun a h => y.th a (x.th a h), fun a o u h => y.fz a o u (x.fz a o u h)⟩
  · refine y.kp a u (x.kp a u h n) fun hm => ?_
    rcases x.gm a hm with q | q
    · exact n q
    · rw [h] at q; cases q
  · rcases y.gn a h with q | q | q
    · rcases x.gn a q with z | z | ⟨xs, z⟩
      · exact .inl z
      · exact .inr (.inl z)
      · exact .inr (.inr ⟨xs, y.ff a _ z⟩)
    · exact .inr (.inl (x.none q))
    · exact .inr (.inr q)
  · rcases y.gm a h with q | q
    · exact x.gm a q
    · exact .inr (x.none q)
theorem Slt.mono (S : Slt K ca F m σ env) (e : Ex F F1) (p : Pre m m1) : Slt K ca F1 m1 σ env := ⟨S.len, fun i d h => by
  obtain ⟨v, h1, h2⟩ := S.val i d h
  exact ⟨v, h1, h2.mono e p⟩⟩
theorem Slt.stp (S : Slt K ca F m σ env) (x : Stp F m H F1 m1 H1) : Slt K ca F1 m1 σ env := S.mono x.ff x.mm
theorem Slt.set (S : Slt K ca F m σ env) (r : Rep K ca F m v d) : Slt K ca F m (σ.set i (some v)) (env.set i (some d)) := ⟨by simp [S.len], fun j e h => by
  by_cases q : i = j
  · subst q
    rw [List.getElem?_set] at h ⊢
    have l := S.len
    split at h
    · split at h
      · cases h
        refine ⟨v, ?_, r⟩
        simp_all
      · cases h
    · rename_i z; exact absurd rfl z
  · rw [List.getElem?_set_ne q] at h ⊢
    exact S.val j e h⟩
theorem Slt.unset (S : Slt K ca F m σ env) : Slt K ca F m (σ.set i none) (env.set i none) := ⟨by simp [S.len], fun j e h => by
  by_cases q : i = j
  · subst q
    rw [List.getElem?_set] at h
    split at h
    · split at h <;> cases h
    · rename_i z; exact absurd rfl z
  · rw [List.getElem?_set_ne q] at h ⊢
    exact S.val j e h⟩
theorem Rl.ne (R : Rl K ca F m A H) {a : Addr} (h : a ∈ m) : H a ≠ none := by
  obtain ⟨i, hi⟩ := List.getElem?_of_mem h
  have l : i < A.length := by rw [← R.len]; exact (List.getElem?_eq_some_iff.mp hi).1
  obtain ⟨u, hu⟩ := (R.ob i A[i] a (by simp [l]) hi).ho
  rw [hu]; simp
theorem Rl.out (R : Rl K ca F m A H) {a : Addr} (h : H a = none) : a ∉ m := fun q => R.ne q h
/-- a new thing that stands -/
theorem Rl.new (R : Rl K ca F m A H) (n : H p = none) : Rl K ca (upd F p u) m A (upd H p u) ∧ Stp F m H (upd F p u) m (upd H p u) := by
  have nf := R.fh.back n
  refine ⟨⟨R.fh.both, R.len, R.nd, fun a h => ?_, fun i o a h1 h2 => (R.ob i o a h1 h2).mono (Ex.new nf) (Pre.refl _) fun w hw => Ex.new n a w hw⟩, Ex.new nf, Pre.refl _, fun a w h _ => Ex.new n a w h, fun a h => ?_, fun a h => .inl h, fun a h z => h ((Ex.new n).back z), fun a o w h => Ex.new n a _ h⟩
  · rw [upd_ne (fun z => R.out n (by rw [← z]; exact h))]; exact R.fr a h
  · by_cases q : a = p
    · subst q; exact .inr (.inl n)
    · rw [upd_ne q] at h; exact .inl h
/-- a tuple that stands is known from now on -/
theorem Rl.catch {vs : List V} (R : Rl K ca F m A H) (h : H p = some (.tup vs)) : ∃ F1, Rl K ca F1 m A H ∧ Stp F m H F1 m H ∧ F1 p = some (.tup vs) := by
  have nm : p ∉ m := fun hm => by
    obtain ⟨i, hi⟩ := List.getElem?_of_mem hm
    have l : i < A.length := by rw [← R.len]; exact (List.getElem?_eq_some_iff.mp hi).1
    have r := R.ob i A[i] p (by simp [l]) hi
    cases q : A[i] with
    | lst l => rw [q] at r; obtain ⟨vs, x, _⟩ := r; rw [h] at x; cases x
    | obj C fs => rw [q] at r; obtain ⟨dx, kvs, x, _⟩ := r; rw [h] at x; cases x
    | dic t lk l =>
      rw [q] at r
      cases t with
      | false =>
        obtain ⟨kvs, x, _⟩ := r
        cases lk with
        | false => have x : H p = some (.dK kvs) := x; rw [h] at x; cases x
        | true => obtain ⟨od, x⟩ := x; rw [h] at x; cases x
      | true =>
        obtain ⟨kvs, x, _⟩ := r
        cases lk with
        | false => have x : H p = some (.dT kvs) := x; rw [h] at x; cases x
        | true => obtain ⟨od, x⟩ := x; rw [h] at x; cases x
  have e : Ex F (upd F p (.tup vs)) := fun a o ha => by
    by_cases q : a = p
    · subst q
      have := R.fh a o ha
      rw [h] at this
      cases this
      exact upd_same
    · rw [upd_ne q]; exact ha
  refine ⟨upd F p (.tup vs), ⟨fun a o ha => ?_, R.len, R.nd, fun a ha => ?_, fun i o a h1 h2 => (R.ob i o a h1 h2).mono e (Pre.refl _) fun w hw => hw⟩, ⟨e, Pre.refl _, fun a w h _ => h, fun a ha => ?_, fun a h => .inl h, fun a h => h, fun a o w h => h⟩, upd_same⟩
  · by_cases q : a = p
    · subst q; rw [upd_same] at ha; cases ha; exact h
    · rw [upd_ne q] at ha; exact R.fh a o ha
  · rw [upd_ne (fun z => nm (by rw [← z]; exact ha))]; exact R.fr a ha
  · by_cases q : a = p
    · subst q; exact .inr (.inr ⟨vs, upd_same⟩)
    · rw [upd_ne q] at ha; exact .inl ha
/-- a new thing that nobody tracks -/
theorem Rl.newH (R : Rl K ca F m A H) (n : H p = none) : Rl K ca F m A (upd H p u) ∧ Stp F m H F m (upd H p u) := by
  refine ⟨⟨R.fh.trans (Ex.new n), R.len, R.nd, R.fr, fun i o a h1 h2 => (R.ob i o a h1 h2).mono (Ex.refl _) (Pre.refl _) fun w hw => Ex.new n a w hw⟩, Ex.refl _, Pre.refl _, fun a w h _ => Ex.new n a w h, fun a h => .inl h, fun a h => .inl h, fun a h z => h ((Ex.new n).back z), fun a o w h => Ex.new n a _ h⟩
/-- what is there is taken into the plain heap -/
theorem Rl.take (R : Rl K ca F m A H) (n : p ∉ m) (nf : F p = none) (r : ORep K ca F (m ++ [p]) H p o) : Rl K ca F (m ++ [p]) (A ++ [o]) H := by
  refine ⟨R.fh, by simp [R.len], ?_, fun a h => ?_, fun i o' a h1 h2 => ?_⟩
  · rw [List.nodup_append]
    refine ⟨R.nd, by simp, fun a h b hb e => ?_⟩
    rw [List.mem_singleton] at hb
    exact n (by rw [← hb, ← e]; exact h)
  · rcases List.mem_append.mp h with q | q
    · exact R.fr a q
    · rw [List.mem_singleton] at q; rw [q]; exact nf
  · by_cases q : i < A.length
    · rw [List.getElem?_append_left q] at h1
      rw [List.getElem?_append_left (by rw [R.len]; exact q)] at h2
      exact (R.ob i o' a h1 h2).mono (Ex.refl _) ⟨[p], rfl⟩ fun _ h => h
    · rw [List.getElem?_append_right (Nat.le_of_not_lt q)] at h1
      rw [List.getElem?_append_right (by rw [R.len]; exact Nat.le_of_not_lt q)] at h2
      rw [R.len] at h2
      have e : i - A.length = 0 := by
        have := (List.getElem?_eq_some_iff.mp h1).1
        simp at this; omega
      rw [e] at h1 h2
      cases h1; cases h2; exact r
/-- a new object of the plain heap -/
theorem Rl.alloc (R : Rl K ca F m A H) (n : H p = none) (r : ORep K ca F (m ++ [p]) (upd H p u) p o) : Rl K ca F (m ++ [p]) (A ++ [o]) (upd H p u) ∧ Stp F m H F (m ++ [p]) (upd H p u) ∧ Rep K ca F (m ++ [p]) (.ref p) (.ref A.length) := by
  obtain ⟨R1, g1⟩ := R.newH (u := u) n
  refine ⟨R1.take (R.out n) (R.fh.back n) r, ⟨Ex.refl _, ⟨[p], rfl⟩, g1.kp, g1.gn, fun a h => ?_, g1.th, g1.fz⟩, .ref (by rw [List.getElem?_append_right (by rw [R.len]; exact Nat.le_refl _), R.len]; simp)⟩
  rcases List.mem_append.mp h with q | q
  · exact .inl q
  · rw [List.mem_singleton] at q; exact .inr (by rw [q]; exact n)
/-- an object of the plain heap is another one now -/
theorem Rl.put {a : Addr} {o' : O} (R : Rl K ca F m A H) (ha : m[i]? = some a) (nz : ∀ od w, H a ≠ some (.frz od w)) (r : ORep K ca F m (upd H a u) a o') : Rl K ca F m (A.set i o') (upd H a u) ∧ Stp F m H F m (upd H a u) := by
  have hm : a ∈ m := List.mem_of_getElem? ha
  have fa := R.fr a hm
  refine ⟨⟨R.fh.right fa, by simp [R.len], R.nd, R.fr, fun j o b h1 h2 => ?_⟩, Ex.refl _, Pre.refl _, fun b w h n => ?_, fun a h => .inl h, fun a h => .inl h, fun b h z => ?_, fun b od w h => ?_⟩
  · by_cases q : i = j
    · subst q
      rw [ha] at h2; cases h2
      rw [List.getElem?_set] at h1
      split at h1
      · split at h1
        · cases h1; exact r
        · cases h1
      · rename_i z; exact absurd rfl z
    · rw [List.getElem?_set_ne q] at h1
      have nb : b ≠ a := fun z => q (by
        subst z
        exact (List.getElem?_inj (List.getElem?_eq_some_iff.mp ha).1 R.nd).mp (ha.trans h2.symm))
      exact (R.ob j o b h1 h2).mono (Ex.refl _) (Pre.refl _) fun w hw => by rw [upd_ne nb]; exact hw
  · rw [upd_ne fun z => n (by rw [z]; exact hm)]; exact h
  · by_cases q : b = a
    · subst q; rw [upd_same] at z; cases z
    · rw [upd_ne q] at z; exact h z
  · rw [upd_ne fun z => nz od w (by rw [← z]; exact h)]; exact h
theorem Rl.at (R : Rl K ca F m A H) (hA : A[i]? = some o) (r : Rep K ca F m v (.ref i)) : ∃ a, v = .ref a ∧ m[i]? = some a ∧ ORep K ca F m H a o := by
  cases r with
  | ref h => exact ⟨_, rfl, h, R.ob i o _ hA h⟩

/-! ### simulations -/
/-- what is wanted behind it, told of the plain end -/
def Po {α β : Type} (K : PySem.W.Frag) (ca : String → Addr) (Rr : Hp → List Addr → β → α → Prop) (F : Hp) (m : List Addr) (H : Hp) (W : WX) (σ : L2.St) (Q : β → Hp → Prop) : RE α → Prop
  | .ok a A' => ∀ v F' m' H', Rl K ca F' m' A' H' → Stp F m H F' m' H' → Rr F' m' v a → Q v H'
  | .exc C A' => ∀ F' m' H', Rl K ca F' m' A' H' → Stp F m H F' m' H' → W (.ref (ca C)) none σ H'
  | .stuck => False
def Sim {α β : Type} (K : PySem.W.Frag) (ca : String → Addr) (Rr : Hp → List Addr → β → α → Prop) (W : WX) (te : L2.St → Hp → (β → Hp → Prop) → Prop) (f : Sl → Hs → RE α) : Prop :=
  ∀ F m A σ H env Q, Rl K ca F m A H → Slt K ca F m σ env → Po K ca Rr F m H W σ Q (f env A) → te σ H Q
def ReqI {α : Type} : Hp → List Addr → α → α → Prop := fun _ _ b c => b = c
abbrev SimE (K : PySem.W.Frag) (ca : String → Addr) (W : WX) (te : TE) (f : E) : Prop := Sim K ca (Rep K ca) W te f
abbrev SimT (K : PySem.W.Frag) (ca : String → Addr) (W : WX) (te : TT) (f : Tt) : Prop := Sim K ca ReqI W te f
abbrev SimA (K : PySem.W.Frag) (ca : String → Addr) (W : WX) (te : TA) (f : As) : Prop := Sim K ca (RepL K ca) W te f
abbrev SimO (K : PySem.W.Frag) (ca : String → Addr) (W : WX) (te : TO) (f : Sl → Hs → RE (Option Int)) : Prop := Sim K ca ReqI W te f
end
section
variable {K : PySem.W.Frag} {ca : String → Addr} {F F1 F2 H H1 H2 : Hp} {m m1 m2 : List Addr} {A : Hs} {σ : L2.St} {env : Sl} {W : WX}
theorem Po.stp {α β : Type} {Rr : Hp → List Addr → β → α → Prop} {Q : β → Hp → Prop} {r : RE α} (h : Po K ca Rr F m H W σ Q r) (g : Stp F m H F1 m1 H1) : Po K ca Rr F1 m1 H1 W σ Q r := by
  cases r with
  | ok a A' => exact fun v F' m' H' R g' q => h v F' m' H' R (g.trans g') q
  | exc C A' => exact fun F' m' H' R g' => h F' m' H' R (g.trans g')
  | stuck => exact h
theorem Po.imp {α β : Type} {Rr : Hp → List Addr → β → α → Prop} {Q Q' : β → Hp → Prop} {r : RE α} (h : Po K ca Rr F m H W σ Q r) (k : ∀ v H, Q v H → Q' v H) : Po K ca Rr F m H W σ Q' r := by
  cases r with
  | ok a A' => exact fun v F' m' H' R g' q => k _ _ (h v F' m' H' R g' q)
  | exc C A' => exact h
  | stuck => exact h
/-- first f, then g -/
theorem Sim.bind {α β γ δ : Type} {Rr : Hp → List Addr → β → α → Prop} {Rs : Hp → List Addr → δ → γ → Prop} {te : L2.St → Hp → (β → Hp → Prop) → Prop} {f : Sl → Hs → RE α} (h : Sim K ca Rr W te f) (R : Rl K ca F m A H) (S : Slt K ca F m σ env) {g : α → Hs → RE γ}
    {Q : δ → Hp → Prop} {T : β → Hp → Prop} (p : Po K ca Rs F m H W σ Q ((f env A).bind g))
    (k : ∀ F1 m1 A1 H1 x a, Rl K ca F1 m1 A1 H1 → Stp F m H F1 m1 H1 → Slt K ca F1 m1 σ env → Rr F1 m1 x a → Po K ca Rs F1 m1 H1 W σ Q (g a A1) → T x H1) : te σ H T := by
  refine h F m A σ H env T R S ?_
  cases q : f env A with
  | ok a A1 =>
    rw [q] at p
    exact fun v F1 m1 H1 R1 g1 r => k F1 m1 A1 H1 v a R1 g1 (S.stp g1) r (Po.stp p g1)
  | exc C A1 => rw [q] at p; exact p
  | stuck => rw [q] at p; exact p
/-! ### expressions -/
variable {ta tb tc te : TE} {a b c : E} {i : Nat} {d : D} {t u : TT} {ft fu : Tt} {ts : TA} {as : As}
theorem se_var : SimE K ca W (tVar i) (eVar i) := fun F m A σ H env Q R S p => by
  unfold eVar at p
  cases q : env[i]? with
  | none => rw [q] at p; exact p.elim
  | some z =>
    cases z with
    | none => rw [q] at p; exact p.elim
    | some d =>
      rw [q] at p
      obtain ⟨v, h1, h2⟩ := S.val i d q
      exact ⟨v, h1, p v F m H R Stp.refl h2⟩
theorem se_c {v : V} (h : ∀ F m, Rep K ca F m v d) : SimE K ca W (tC v) (eC d) := fun F m A σ H env Q R S p => p v F m H R Stp.refl (h F m)
theorem se_int {n : Int} : SimE K ca W (tC (.int n)) (eC (.int n)) := se_c fun _ _ => .int n
theorem se_bl {c : Bool} : SimE K ca W (tC (.bl c)) (eC (.bl c)) := se_c fun _ _ => .bl c
theorem se_non : SimE K ca W (tC .non) (eC .non) := se_c fun _ _ => .non
theorem se_ty {x : String} : SimE K ca W (tC (.ty x)) (eC (.ty x)) := se_c fun _ _ => .ty x
theorem se_nm {x : String} {a : Addr} (h : ca x = a) : SimE K ca W (tC (.ref a)) (eC (.nm x)) := se_c fun _ _ => h ▸ .nm x
/-- an operator: two operands' values, their data -/
def OpS (K : PySem.W.Frag) (ca : String → Addr) (r : R2) (o : D → D → Hs → RE D) : Prop := ∀ F m A H x y dx dy W σ Q, Rl K ca F m A H → Rep K ca F m x dx → Rep K ca F m y dy → Po K ca (Rep K ca) F m H W σ Q (o dx dy A) → r x y H Q
theorem se_op {r : R2} {o : D → D → Hs → RE D} (h : OpS K ca r o) (ha : SimE K ca W ta a) (hb : SimE K ca W tb b) : SimE K ca W (tOp r ta tb) (eOp o a b) := fun F m A σ H env Q R S p =>
  ha.bind R S p fun F1 m1 A1 H1 x dx R1 g1 S1 rx p1 => hb.bind R1 S1 p1 fun F2 m2 A2 H2 y dy R2 g2 S2 ry p2 => h F2 m2 A2 H2 x y dx dy W σ Q R2 (rx.mono g2.ff g2.mm) ry p2
def UnS (K : PySem.W.Frag) (ca : String → Addr) (r : V → Hp → VK → Prop) (o : D → Hs → RE D) : Prop := ∀ F m A H x dx W σ Q, Rl K ca F m A H → Rep K ca F m x dx → Po K ca (Rep K ca) F m H W σ Q (o dx A) → r x H Q
theorem se_un {r : V → Hp → VK → Prop} {o : D → Hs → RE D} (h : UnS K ca r o) (ha : SimE K ca W ta a) : SimE K ca W (tUn r ta) (eUn o a) := fun F m A σ H env Q R S p =>
  ha.bind R S p fun F1 m1 A1 H1 x dx R1 g1 S1 rx p1 => h F1 m1 A1 H1 x dx W σ Q R1 rx p1
theorem sa_nil : SimA K ca W tNil aNil := fun F m A σ H env Q R S p => p [] F m H R Stp.refl .nil
theorem sa_cons (ha : SimE K ca W ta a) (hs : SimA K ca W ts as) : SimA K ca W (tCons ta ts) (aCons a as) := fun F m A σ H env Q R S p =>
  ha.bind R S p fun F1 m1 A1 H1 x dx R1 g1 S1 rx p1 => hs.bind R1 S1 p1 fun F2 m2 A2 H2 xs ds R2 g2 S2 rs p2 => p2 (x :: xs) F2 m2 H2 R2 Stp.refl (.cons (rx.mono g2.ff g2.mm) rs)
def CbS (K : PySem.W.Frag) (ca : String → Addr) (r : List V → Hp → VK → Prop) (o : List D → Hs → RE D) : Prop := ∀ F m A H xs ds W σ Q, Rl K ca F m A H → RepL K ca F m xs ds → Po K ca (Rep K ca) F m H W σ Q (o ds A) → r xs H Q
theorem se_cb {r : List V → Hp → VK → Prop} {o : List D → Hs → RE D} (h : CbS K ca r o) (hs : SimA K ca W ts as) : SimE K ca W (tCB r ts) (eCB o as) := fun F m A σ H env Q R S p =>
  hs.bind R S p fun F1 m1 A1 H1 xs ds R1 g1 S1 rx p1 => h F1 m1 A1 H1 xs ds W σ Q R1 rx p1
theorem se_and (ha : SimE K ca W ta a) (hb : SimE K ca W tb b) : SimE K ca W (tAndV ta tb) (eAnd a b) := fun F m A σ H env Q R S p =>
  ha.bind R S p fun F1 m1 A1 H1 x dx R1 g1 S1 rx p1 => by
    cases rx with
    | bl c =>
      refine ⟨c, rfl, ?_⟩
      cases c with
      | true => exact hb F1 m1 A1 σ H1 env Q R1 S1 p1
      | false => exact p1 _ F1 m1 H1 R1 Stp.refl (.bl false)
    | _ => exact p1.elim
theorem se_or (ha : SimE K ca W ta a) (hb : SimE K ca W tb b) : SimE K ca W (tOrV ta tb) (eOr a b) := fun F m A σ H env Q R S p =>
  ha.bind R S p fun F1 m1 A1 H1 x dx R1 g1 S1 rx p1 => by
    cases rx with
    | bl c =>
      refine ⟨c, rfl, ?_⟩
      cases c with
      | false => exact hb F1 m1 A1 σ H1 env Q R1 S1 p1
      | true => exact p1 _ F1 m1 H1 R1 Stp.refl (.bl true)
    | _ => exact p1.elim
theorem se_not (ha : SimE K ca W ta a) : SimE K ca W (tNotV ta) (eNot a) := fun F m A σ H env Q R S p =>
  ha.bind R S p fun F1 m1 A1 H1 x dx R1 g1 S1 rx p1 => by
    cases rx with
    | bl c => exact ⟨c, rfl, p1 _ F1 m1 H1 R1 Stp.refl (.bl _)⟩
    | _ => exact p1.elim
theorem se_ch {q q' : R2} {o o' : D → D → Hs → RE D} (h : OpS K ca q o) (h' : OpS K ca q' o') (ha : SimE K ca W ta a) (hb : SimE K ca W tb b) (hc : SimE K ca W tc c) : SimE K ca W (tChain q q' ta tb tc) (eCh o o' a b c) := fun F m A σ H env Q R S p =>
  ha.bind R S p fun F1 m1 A1 H1 x dx R1 g1 S1 rx p1 => hb.bind R1 S1 p1 fun F2 m2 A2 H2 y dy R2 g2 S2 ry p2 => by
    refine h F2 m2 A2 H2 x y dx dy W σ _ R2 (rx.mono g2.ff g2.mm) ry ?_
    cases w : o dx dy A2 with
    | stuck => rw [w] at p2; exact p2
    | exc C A3 => rw [w] at p2; exact p2
    | ok z A3 =>
      rw [w] at p2
      intro v F3 m3 H3 R3 g3 rz
      have p3 := Po.stp p2 g3
      cases rz with
      | bl k =>
        refine ⟨k, rfl, ?_⟩
        cases k with
        | false => exact p3 _ F3 m3 H3 R3 Stp.refl (.bl false)
        | true => exact hc.bind R3 (S2.stp g3) p3 fun F4 m4 A4 H4 w dw R4 g4 S4 rw' p4 => h' F4 m4 A4 H4 y w dy dw W σ Q R4 (ry.mono (g3.ff.trans g4.ff) (g3.mm.trans g4.mm)) rw' p4
      | _ => exact p3.elim
theorem st_test (ha : SimE K ca W ta a) : SimT K ca W (tTest ta) (tOf a) := fun F m A σ H env Q R S p =>
  ha.bind R S p fun F1 m1 A1 H1 x dx R1 g1 S1 rx p1 => by
    cases rx with
    | bl c => exact ⟨c, rfl, p1 _ F1 m1 H1 R1 Stp.refl rfl⟩
    | _ => exact p1.elim
theorem st_b (ha : SimE K ca W ta a) : SimT K ca W (tB ta) (tOf a) := fun F m A σ H env Q R S p =>
  ha.bind R S p fun F1 m1 A1 H1 x dx R1 g1 S1 rx p1 => by
    cases rx with
    | bl c => exact ⟨c, rfl, p1 _ F1 m1 H1 R1 Stp.refl rfl⟩
    | _ => exact p1.elim
theorem st_not (ht : SimT K ca W t ft) : SimT K ca W (tNot t) (tNo ft) := fun F m A σ H env Q R S p =>
  ht.bind R S p fun F1 m1 A1 H1 x dx R1 g1 S1 rx p1 => by
    cases (show x = dx from rx)
    exact p1 _ F1 m1 H1 R1 Stp.refl rfl
theorem st_and (ht : SimT K ca W t ft) (hu : SimT K ca W u fu) : SimT K ca W (tAnd t u) (tAn ft fu) := fun F m A σ H env Q R S p =>
  ht.bind R S p fun F1 m1 A1 H1 x dx R1 g1 S1 rx p1 => by
    cases (show x = dx from rx)
    cases x with
    | true => exact hu F1 m1 A1 σ H1 env Q R1 S1 p1
    | false => exact p1 _ F1 m1 H1 R1 Stp.refl rfl
theorem st_or (ht : SimT K ca W t ft) (hu : SimT K ca W u fu) : SimT K ca W (tOr t u) (tOo ft fu) := fun F m A σ H env Q R S p =>
  ht.bind R S p fun F1 m1 A1 H1 x dx R1 g1 S1 rx p1 => by
    cases (show x = dx from rx)
    cases x with
    | false => exact hu F1 m1 A1 σ H1 env Q R1 S1 p1
    | true => exact p1 _ F1 m1 H1 R1 Stp.refl rfl
theorem st_yes : SimT K ca W tYes tYe := fun F m A σ H env Q R S p => p _ F m H R Stp.refl rfl
theorem se_tup (hs : SimA K ca W ts as) : SimE K ca W (tTup ts) (eTup as) := fun F m A σ H env Q R S p =>
  hs.bind R S p fun F1 m1 A1 H1 xs ds R1 g1 S1 rs p1 => by
    split at p1
    · rename_i hl
      refine ⟨by rw [rs.length]; exact hl, fun q hq => ?_⟩
      obtain ⟨R2, g2⟩ := R1.new (u := .tup xs) hq
      exact p1 _ _ _ _ R2 g2 (.tup upd_same (rs.mono g2.ff g2.mm))
    · exact p1.elim
theorem po_alloc {Q : VK} {p : Addr} {u : HO} {o : O} (R : Rl K ca F m A H) (n : H p = none) (r : ORep K ca F (m ++ [p]) (upd H p u) p o) (h : Po K ca (Rep K ca) F m H W σ Q (alloc A o)) : Q (.ref p) (upd H p u) := by
  obtain ⟨R2, g2, q⟩ := R.alloc n r
  exact h _ _ _ _ R2 g2 q
theorem se_lst (hs : SimA K ca W ts as) : SimE K ca W (tLst ts) (eLst as) := fun F m A σ H env Q R S p =>
  hs.bind R S p fun F1 m1 A1 H1 xs ds R1 g1 S1 rs p1 => by
    split at p1
    · rename_i hl
      exact ⟨by rw [rs.length]; exact hl, fun q hq => po_alloc (o := .lst ds) R1 hq ⟨xs, upd_same, rs.mono (Ex.refl _) ⟨_, rfl⟩⟩ p1⟩
    · exact p1.elim
theorem se_dnewK : SimE K ca W tDNewK (eDNew false) := fun F m A σ H env Q R S p q hq => po_alloc (o := .dic false false []) R hq ⟨[], upd_same, .nil⟩ p
theorem se_dnewT : SimE K ca W tDNewT (eDNew true) := fun F m A σ H env Q R S p q hq => po_alloc (o := .dic true false []) R hq ⟨[], upd_same, .nil⟩ p
theorem so_none : SimO K ca W tNoPart oNo := fun F m A σ H env Q R S p => p _ F m H R Stp.refl rfl
theorem so_some (ha : SimE K ca W ta a) : SimO K ca W (tPart ta) (oSo a) := fun F m A σ H env Q R S p =>
  ha.bind R S p fun F1 m1 A1 H1 x dx R1 g1 S1 rx p1 => by
    cases rx with
    | int i => exact ⟨i, rfl, p1 _ F1 m1 H1 R1 Stp.refl rfl⟩
    | _ => exact p1.elim
def SlS (K : PySem.W.Frag) (ca : String → Addr) (r : V → Option Int → Option Int → Hp → VK → Prop) (o : D → Option Int → Option Int → Hs → RE D) : Prop := ∀ F m A H x dx lo hi W σ Q, Rl K ca F m A H → Rep K ca F m x dx → Po K ca (Rep K ca) F m H W σ Q (o dx lo hi A) → r x lo hi H Q
theorem se_sl {r : V → Option Int → Option Int → Hp → VK → Prop} {o : D → Option Int → Option Int → Hs → RE D} {tl th : TO} {fl fh : Sl → Hs → RE (Option Int)} (h : SlS K ca r o) (ha : SimE K ca W ta a) (hl : SimO K ca W tl fl) (hh : SimO K ca W th fh) : SimE K ca W (tSl r ta tl th) (eSl o a fl fh) := fun F m A σ H env Q R S p =>
  ha.bind R S p fun F1 m1 A1 H1 x dx R1 g1 S1 rx p1 => hl.bind R1 S1 p1 fun F2 m2 A2 H2 lo lo' R2 g2 S2 rl p2 => hh.bind R2 S2 p2 fun F3 m3 A3 H3 hi hi' R3 g3 S3 rh p3 => by
    cases (show lo = lo' from rl)
    cases (show hi = hi' from rh)
    exact h F3 m3 A3 H3 x dx lo hi W σ Q R3 (rx.mono (g2.ff.trans g3.ff) (g2.mm.trans g3.mm)) p3

/-! ### promises -/
def PoF (K : PySem.W.Frag) (ca : String → Addr) (F : Hp) (m : List Addr) (H : Hp) (Q : VK) (E : XK) : RE D → Prop
  | .ok a A' => ∀ v F' m' H', Rl K ca F' m' A' H' → Stp F m H F' m' H' → Rep K ca F' m' v a → Q v H'
  | .exc C A' => ∀ F' m' H', Rl K ca F' m' A' H' → Stp F m H F' m' H' → E (.ref (ca C)) none H'
  | .stuck => False
/-- THE PROMISE: it does what the plain function does -/
def SpF (K : PySem.W.Frag) (ca : String → Addr) (f : Fn) : Sp := fun vs H Q E => ∃ F m A ds, Rl K ca F m A H ∧ RepL K ca F m vs ds ∧ PoF K ca F m H Q E (f ds A)
theorem pof_po {Q : VK} {r : RE D} (h : Po K ca (Rep K ca) F m H W σ Q r) : PoF K ca F m H Q (WE W σ) r := by
  cases r <;> exact h
theorem pof_noX {Q : VK} {X : XK} {r : RE D} (h : Po K ca (Rep K ca) F m H W σ Q r.noX) : PoF K ca F m H Q X r := by
  cases r with
  | ok a A => exact h
  | exc C A => exact h.elim
  | stuck => exact h.elim
theorem se_call {f : Fn} (hs : SimA K ca W ts as) : SimE K ca W (tCallS (SpF K ca f) (WE W) ts) (eCall f as) := fun F m A σ H env Q R S p =>
  hs.bind R S p fun F1 m1 A1 H1 xs ds R1 g1 S1 rs p1 => ⟨F1, m1, A1, ds, R1, rs, pof_po p1⟩
theorem se_call0 {f : Fn} {X : XK} (hs : SimA K ca W ts as) : SimE K ca W (tCall (SpF K ca f) [] X ts) (eCall0 f as) := fun F m A σ H env Q R S p =>
  hs.bind R S p fun F1 m1 A1 H1 xs ds R1 g1 S1 rs p1 => ⟨F1, m1, A1, ds, R1, by rw [List.append_nil]; exact rs, pof_noX p1⟩

/-! ### fields -/
theorem fS_look {f : String} : ∀ {l : List (Str × V)} {s : List (String × D)}, FdR K ca F m l s → (∀ d, s.lookup f = some d → ∃ v, l.lookup (fS f) = some v ∧ Rep K ca F m v d) ∧ (s.lookup f = none → l.lookup (fS f) = none)
  | _, _, .nil => ⟨fun d h => by simp at h, fun _ => rfl⟩
  | _, _, .cons (f := g) (v := v) (d := e) h r => by
    have ih := fS_look (f := f) r
    by_cases q : f = g
    · subst q
      refine ⟨fun d z => ?_, fun z => ?_⟩
      · rw [List.lookup_cons_self] at z; cases z
        exact ⟨v, by rw [List.lookup_cons_self], h⟩
      · rw [List.lookup_cons_self] at z; cases z
    · have q1 : (f == g) = false := by simpa using q
      have q2 : (fS f == fS g) = false := by
        rw [beq_eq_false_iff_ne]
        exact fun z => q (fS_inj.mp z)
      refine ⟨fun d z => ?_, fun z => ?_⟩
      · rw [List.lookup_cons, q1] at z
        obtain ⟨w, h1, h2⟩ := ih.1 d z
        exact ⟨w, by rw [List.lookup_cons, q2]; exact h1, h2⟩
      · rw [List.lookup_cons, q1] at z
        rw [List.lookup_cons, q2]; exact ih.2 z
end
end SM

/-! ## methods that may raise -/
namespace L2
open PySem PySem.Spec PyProof.Rows
def tMethX (C : Addr) (m : Str) (sp : Sp) (E : St → XK) (ta : TE) (t : TA) : TE := fun σ H Q => ta σ H fun x H1 => ∃ a dx fs, x = .ref a ∧ H1 a = some (.ins C dx fs) ∧ fs.lookup m = none ∧
  t σ H1 fun vs H2 => sp (x :: vs) H2 Q (E σ)
section
variable {X : Cx} {CX : CXT} {k : Nat} {f C : Addr} {fd : FuncData} {ps : List Str} {sp : Sp} {E : St → XK} {x m : Str} {p pos apos : Pos} {e o : Expr} {es : List Expr} {ta : TE} {t : TA}
theorem pe_methX {pl : Sem Bool} (he : PE X o ta) (c : Cls X.K C) (hm : Meth X.K C m f) (F : FnOk X.prog X.w X.K X.mg X.base CX k f fd ps sp) (hr : Room k X.A) (hb : Binds X.K fd ps []) (hx : ∀ σ, PassesAt CX X σ (E σ)) (ha : PA X (e :: es) t)
    (hst : starEach (e :: es) X.env = (false, eval e X.env) :: starEach es X.env := by rfl) (hpl : (backTo pos (starEach es X.env)).any (·.1) = false := by rfl)
    (ht : eval (.Call (.Attribute o m apos) (e :: es) [] pos) X.env = (do
      let ov ← eval o X.env
      standAt apos.atName
      let (f, first) ← holding [ov] (getMethod ov m pl)
      callWith pos f first (backTo pos (starEach (e :: es) X.env)) (backToKw pos (keywordEach [] X.env))) := by rfl) :
    PE X (.Call (.Attribute o m apos) (e :: es) [] pos) (tMethX C m sp E ta t) := by
  refine ⟨fun pins s σ H Q I h => ?_⟩
  refine PySem.W.methodCall_KW (pl := pl) (thn (he.run pins s σ H _ I h) fun u s1 ⟨x, H1, I1, rx, a, dx, fs, ex, ea, l, q⟩ => ?_) ht
  subst ex
  obtain rfl : u = Value.ref a := rx
  refine getmeth_ok I1 ea c hm l ?_
  refine PySem.W.callWith_K (first := [.ref a]) (h₀ := X.base) I.ok.mod.kin hm.kp (thn (ha.run pos pins s1 σ H1 _ I1 q) fun us s2 ⟨vs, H2, I2, r, q2⟩ => ⟨I2.kIn, ?_⟩) hst hpl
  exact run_fnS (us := .ref a :: us) (vs := .ref a :: vs) F hr hb (hx σ) I2 (.cons rfl r) q2
/-- o.m() -/
theorem pe_methX0 {pl : Sem Bool} (he : PE X o ta) (c : Cls X.K C) (hm : Meth X.K C m f) (F : FnOk X.prog X.w X.K X.mg X.base CX k f fd ps sp) (hr : Room k X.A) (hb : Binds X.K fd ps []) (hx : ∀ σ, PassesAt CX X σ (E σ))
    (ht : eval (.Call (.Attribute o m apos) [] [] pos) X.env = (do
      let ov ← eval o X.env
      standAt apos.atName
      let (f, first) ← holding [ov] (getMethod ov m pl)
      callWith pos f first (backTo pos (starEach [] X.env)) (backToKw pos (keywordEach [] X.env))) := by rfl) :
    PE X (.Call (.Attribute o m apos) [] [] pos) (tMethX C m sp E ta tNil) := by
  refine ⟨fun pins s σ H Q I h => ?_⟩
  refine PySem.W.methodCall_KW (pl := pl) (thn (he.run pins s σ H _ I h) fun u s1 ⟨x, H1, I1, rx, a, dx, fs, ex, ea, l, q⟩ => ?_) ht
  subst ex
  obtain rfl : u = Value.ref a := rx
  refine getmeth_ok I1 ea c hm l ?_
  exact PySem.W.callWith_K0 (first := [.ref a]) I1.kIn hm.kp (run_fnS (us := [.ref a]) (vs := [.ref a]) F hr hb (hx σ) I1 (.cons rfl .nil) q)
theorem PE.or {X : Cx} {e : Expr} {t u : TE} (h1 : PE X e t) (h2 : PE X e u) : PE X e (fun σ H Q => t σ H Q ∨ u σ H Q) := ⟨fun pins s σ H Q I h => by
  rcases h with h | h
  · exact h1.run pins s σ H Q I h
  · exact h2.run pins s σ H Q I h⟩
theorem PS.or {X : Cx} {st : Stmt} {t u : TS} (h1 : PS X st t) (h2 : PS X st u) : PS X st (fun D σ H => t D σ H ∨ u D σ H) := ⟨fun pins s σ H D I h => by
  rcases h with h | h
  · exact h1.run pins s σ H D I h
  · exact h2.run pins s σ H D I h⟩
end
end L2
/-! ## fields, calls, statements -/
namespace SM
open PySem L2
open DL (Ex ExK tRaise tTry tTryO)
section
variable {K : PySem.W.Frag} {ca : String → Addr} {F F1 F2 H H1 H2 : Hp} {m m1 m2 : List Addr} {A A1 A2 : Hs} {σ : L2.St} {env : Sl} {W : WX}
variable {ta tb tc te : TE} {a b c : E} {i : Nat} {d : D} {t u : TT} {ft fu : Tt} {ts : TA} {as : As} {x : V} {dx : D} {C : String} {fs : List (String × D)} {cs : List String}
theorem obj_at (R : Rl K ca F m A H) (r : Rep K ca F m x dx) (h : objAt A dx = some (C, fs)) : ∃ i a dxx kvs, dx = .ref i ∧ x = .ref a ∧ m[i]? = some a ∧ A[i]? = some (.obj C fs) ∧ H a = some (.ins (ca C) dxx kvs) ∧ FdR K ca F m kvs fs := by
  cases dx with
  | ref i =>
    unfold objAt at h
    cases q : A[i]? with
    | none => simp [q] at h
    | some o =>
      cases o with
      | obj C' fs' =>
        simp [q] at h
        obtain ⟨rfl, rfl⟩ := h
        obtain ⟨a, e, ha, dxx, kvs, h1, h2⟩ := R.at q r
        exact ⟨i, a, dxx, kvs, rfl, e, ha, q, h1, h2⟩
      | lst _ => simp [q] at h
      | dic _ _ _ => simp [q] at h
  | _ => simp [objAt] at h
/-- the classes cs, that know no name f -/
def NoF (K : PySem.W.Frag) (ca : String → Addr) (cs : List String) (f : Str) : Prop := AllC (fun C => Cls K (ca C) ∧ NoAttr K (ca C) f) cs
theorem getFld_at {f : String} {f' : Str} (hf : f' = fS f) (R : Rl K ca F m A H) (r : Rep K ca F m x dx) (kc : NoF K ca cs f') (h : getFld cs f A dx = some d) : ∃ a C dxx kvs v, C ∈ cs ∧ x = .ref a ∧ H a = some (.ins (ca C) dxx kvs) ∧ Cls K (ca C) ∧ NoAttr K (ca C) f' ∧ kvs.lookup f' = some v ∧ Rep K ca F m v d := by
  unfold getFld at h
  cases q : objAt A dx with
  | none => rw [q] at h; cases h
  | some z =>
    obtain ⟨C, fs⟩ := z
    rw [q] at h
    simp only at h
    split at h
    · rename_i hc
      obtain ⟨i, a, dxx, kvs, e1, e2, h1, h2, h3, h4⟩ := obj_at R r q
      obtain ⟨v, h5, h6⟩ := (fS_look (f := f) h4).1 d h
      have kk := AllC.of kc hc
      exact ⟨a, C, dxx, kvs, v, hc, e2, h3, kk.1, kk.2, by rw [hf]; exact h5, h6⟩
    · cases h
theorem se_fld {f : String} {f' : Str} (hf : f' = fS f) (kc : NoF K ca cs f') (ha : SimE K ca W ta a) : SimE K ca W (tFld K ta f') (eFld cs f a) := fun F m A σ H env Q R S p =>
  ha.bind R S p fun F1 m1 A1 H1 x dx R1 g1 S1 rx p1 => by
    cases q : getFld cs f A1 dx with
    | none => simp only [q] at p1; exact p1.elim
    | some d =>
      simp only [q] at p1
      obtain ⟨a, C, dxx, kvs, v, _, e, h1, h2, h3, h4, h5⟩ := getFld_at hf R1 rx kc q
      exact ⟨a, ca C, dxx, kvs, v, e, h1, h2, h3, h4, p1 v F1 m1 H1 R1 Stp.refl h5⟩
theorem putF_rep {f : String} {v : V} (hv : Rep K ca F m v d) : ∀ {kvs : List (Str × V)} {fs : List (String × D)}, FdR K ca F m kvs fs → FdR K ca F m (L2.putF (fS f) v kvs) (putF f d fs)
  | _, _, .nil => .cons hv .nil
  | _, _, .cons (f := g) h r => by
    unfold L2.putF SM.putF
    by_cases q : g = f
    · subst q; rw [if_pos rfl, if_pos rfl]; exact .cons hv r
    · rw [if_neg q, if_neg (fun z => q (fS_inj.mp z))]; exact .cons h (putF_rep hv r)
theorem setFld_at {f : String} {f' : Str} {v : V} (hf : f' = fS f) (R : Rl K ca F m A H) (r : Rep K ca F m x dx) (rv : Rep K ca F m v d) (kc : NoF K ca cs f') (h : setFld cs A dx f d = some A2) :
    ∃ a C dxx kvs, C ∈ cs ∧ x = .ref a ∧ H a = some (.ins (ca C) dxx kvs) ∧ Cls K (ca C) ∧ NoAttr K (ca C) f' ∧ kvs.length < 999 ∧ Rl K ca F m A2 (upd H a (.ins (ca C) dxx (L2.putF f' v kvs))) ∧ Stp F m H F m (upd H a (.ins (ca C) dxx (L2.putF f' v kvs))) := by
  unfold setFld at h
  cases dx with
  | ref i =>
    simp only at h
    cases q : A[i]? with
    | none => simp [q] at h
    | some o =>
      cases o with
      | obj C fs =>
        simp only [q] at h
        split at h
        · rename_i hc
          cases h
          obtain ⟨a, e, ha, dxx, kvs, h1, h2⟩ := R.at q r
          have kk := AllC.of kc hc.1
          obtain ⟨R2, g2⟩ := R.put (u := .ins (ca C) dxx (L2.putF f' v kvs)) (o' := .obj C (putF f d fs)) ha (fun od w z => by rw [h1] at z; cases z) ⟨dxx, _, upd_same, by rw [hf]; exact putF_rep rv h2⟩
          exact ⟨a, C, dxx, kvs, hc.1, e, h1, kk.1, kk.2, by rw [h2.length]; exact hc.2, R2, g2⟩
        · cases h
      | lst _ => simp [q] at h
      | dic _ _ _ => simp [q] at h
  | _ => simp at h

/-! ### statements -/
def PoS (K : PySem.W.Frag) (ca : String → Addr) (F : Hp) (m : List Addr) (H : Hp) (W : WX) (Dn : Ends) : RS → Prop
  | .nx e A' => ∀ F' m' σ' H', Rl K ca F' m' A' H' → Stp F m H F' m' H' → Slt K ca F' m' σ' e → Dn.nx σ' H'
  | .bk e A' => ∀ F' m' σ' H', Rl K ca F' m' A' H' → Stp F m H F' m' H' → Slt K ca F' m' σ' e → Dn.bk σ' H'
  | .ct e A' => ∀ F' m' σ' H', Rl K ca F' m' A' H' → Stp F m H F' m' H' → Slt K ca F' m' σ' e → Dn.ct σ' H'
  | .rt d A' => ∀ v F' m' H', Rl K ca F' m' A' H' → Stp F m H F' m' H' → Rep K ca F' m' v d → Dn.rt v H'
  | .exc C e A' => ∀ F' m' σ' H', Rl K ca F' m' A' H' → Stp F m H F' m' H' → Slt K ca F' m' σ' e → W (.ref (ca C)) none σ' H'
  | .stuck => False
def SimS (K : PySem.W.Frag) (ca : String → Addr) (W : WX) (t : TS) (f : S) : Prop := ∀ F m A σ H env Dn, Rl K ca F m A H → Slt K ca F m σ env → PoS K ca F m H W Dn (f env A) → t Dn σ H
variable {s1 s2 s : TS} {f1 f2 f : S} {Dn : Ends}
theorem PoS.stp {r : RS} (h : PoS K ca F m H W Dn r) (g : Stp F m H F1 m1 H1) : PoS K ca F1 m1 H1 W Dn r := by
  cases r with
  | nx e A' => exact fun F' m' σ' H' R g' q => h F' m' σ' H' R (g.trans g') q
  | bk e A' => exact fun F' m' σ' H' R g' q => h F' m' σ' H' R (g.trans g') q
  | ct e A' => exact fun F' m' σ' H' R g' q => h F' m' σ' H' R (g.trans g') q
  | rt d A' => exact fun v F' m' H' R g' q => h v F' m' H' R (g.trans g') q
  | exc C e A' => exact fun F' m' σ' H' R g' q => h F' m' σ' H' R (g.trans g') q
  | stuck => exact h
/-- the value of an expression, then a statement's rest -/
theorem ofE_bind {k : D → Hs → RS} {T : VK} (h : SimE K ca W te a) (R : Rl K ca F m A H) (S : Slt K ca F m σ env) (p : PoS K ca F m H W Dn (ofE env (a env A) k))
    (kk : ∀ F1 m1 A1 H1 x d, Rl K ca F1 m1 A1 H1 → Stp F m H F1 m1 H1 → Slt K ca F1 m1 σ env → Rep K ca F1 m1 x d → PoS K ca F1 m1 H1 W Dn (k d A1) → T x H1) : te σ H T := by
  refine h F m A σ H env T R S ?_
  cases q : a env A with
  | ok d A1 =>
    rw [q] at p
    exact fun v F1 m1 H1 R1 g1 r => kk F1 m1 A1 H1 v d R1 g1 (S.stp g1) r (PoS.stp p g1)
  | exc C A1 => rw [q] at p; exact fun F1 m1 H1 R1 g1 => p F1 m1 σ H1 R1 g1 (S.stp g1)
  | stuck => rw [q] at p; exact p
theorem ofT_bind {k : Bool → Hs → RS} {T : Bool → Hp → Prop} (h : SimT K ca W t ft) (R : Rl K ca F m A H) (S : Slt K ca F m σ env) (p : PoS K ca F m H W Dn (ofT env (ft env A) k))
    (kk : ∀ F1 m1 A1 H1 c, Rl K ca F1 m1 A1 H1 → Stp F m H F1 m1 H1 → Slt K ca F1 m1 σ env → PoS K ca F1 m1 H1 W Dn (k c A1) → T c H1) : t σ H T := by
  refine h F m A σ H env T R S ?_
  cases q : ft env A with
  | ok d A1 =>
    rw [q] at p
    intro v F1 m1 H1 R1 g1 r
    cases (show v = d from r)
    exact kk F1 m1 A1 H1 d R1 g1 (S.stp g1) (PoS.stp p g1)
  | exc C A1 => rw [q] at p; exact fun F1 m1 H1 R1 g1 => p F1 m1 σ H1 R1 g1 (S.stp g1)
  | stuck => rw [q] at p; exact p
theorem ss_seq (h1 : SimS K ca W s1 f1) (h2 : SimS K ca W s2 f2) : SimS K ca W (tSeq s1 s2) (sSeq f1 f2) := fun F m A σ H env Dn R S p => by
  refine h1 F m A σ H env { Dn with nx := s2 Dn } R S ?_
  unfold sSeq at p
  cases q : f1 env A with
  | nx e A1 =>
    rw [q] at p
    exact fun F' m' σ' H' R' g' S' => h2 F' m' A1 σ' H' e Dn R' S' (PoS.stp p g')
  | bk e A1 => rw [q] at p; exact p
  | ct e A1 => rw [q] at p; exact p
  | rt d A1 => rw [q] at p; exact p
  | exc C e A1 => rw [q] at p; exact p
  | stuck => rw [q] at p; exact p
theorem ss_next : SimS K ca W tNext sNx := fun F m A σ H env Dn R S p => p F m σ H R Stp.refl S
theorem ss_drop (h : SimE K ca W te a) : SimS K ca W (tDrop te) (sDrop a) := fun F m A σ H env Dn R S p => ofE_bind h R S p fun F1 m1 A1 H1 x d R1 g1 S1 rx p1 => p1 F1 m1 σ H1 R1 Stp.refl S1
theorem ss_ret (h : SimE K ca W te a) : SimS K ca W (tRet te) (sRet a) := fun F m A σ H env Dn R S p => ofE_bind h R S p fun F1 m1 A1 H1 x d R1 g1 S1 rx p1 => p1 x F1 m1 H1 R1 Stp.refl rx
theorem ss_if (ht : SimT K ca W t ft) (h1 : SimS K ca W s1 f1) (h2 : SimS K ca W s2 f2) : SimS K ca W (tIfS t s1 s2) (sIf ft f1 f2) := fun F m A σ H env Dn R S p => ofT_bind ht R S p fun F1 m1 A1 H1 c R1 g1 S1 p1 => by
  cases c with
  | true => exact h1 F1 m1 A1 σ H1 env Dn R1 S1 p1
  | false => exact h2 F1 m1 A1 σ H1 env Dn R1 S1 p1
theorem ss_set (h : SimE K ca W te a) : SimS K ca W (tAsg te (gName i)) (sSet i a) := fun F m A σ H env Dn R S p => ofE_bind h R S p fun F1 m1 A1 H1 x d R1 g1 S1 rx p1 => p1 F1 m1 _ H1 R1 Stp.refl (S1.set rx)
/-- targets: slots js alone change -/
def SimG (K : PySem.W.Frag) (ca : String → Addr) (g : TG) (f : G) (js : List Nat) : Prop := ∀ F m A σ H env v d env', Rl K ca F m A H → Slt K ca F m σ env → Rep K ca F m v d → f d env A = some env' → ∀ Q : L2.St → Hp → Prop,
  (∀ σ', Slt K ca F m σ' env' → σ'.length = σ.length → (∀ i : Nat, i ∉ js → σ'[i]? = σ[i]?) → Q σ' H) → g v σ H Q
def SimGs (K : PySem.W.Frag) (ca : String → Addr) (g : TGs) (f : List G) (js : List Nat) : Prop := ∀ F m A σ H env vs ds env', Rl K ca F m A H → Slt K ca F m σ env → RepL K ca F m vs ds → gAll f ds env A = some env' → ∀ Q : L2.St → Hp → Prop,
  (∀ σ', Slt K ca F m σ' env' → σ'.length = σ.length → (∀ i : Nat, i ∉ js → σ'[i]? = σ[i]?) → Q σ' H) → g vs σ H Q
theorem sg_name : SimG K ca (gName i) (gN i) [i] := fun F m A σ H env v d env' R S r h Q k => by
  cases h
  exact k _ (S.set r) (by simp) fun j hj => by rw [List.getElem?_set_ne (by intro z; exact hj (by simp [z]))]
theorem sgs_nil : SimGs K ca gNil [] [] := fun F m A σ H env vs ds env' R S r h Q k => by
  cases r with
  | nil => cases h; exact ⟨rfl, k σ S rfl fun _ _ => rfl⟩
  | cons _ _ => cases h
theorem sgs_cons {g : TG} {gs : TGs} {f : G} {fs : List G} {js ks : List Nat} (h : SimG K ca g f js) (hs : SimGs K ca gs fs ks) : SimGs K ca (gCons g gs) (f :: fs) (js ++ ks) := fun F m A σ H env vs ds env' R S r e Q k => by
  cases r with
  | nil => cases e
  | cons r1 r2 =>
    rename_i v vs d ds
    unfold gAll at e
    cases q : f d env A with
    | none => rw [q] at e; cases e
    | some env1 =>
      rw [q] at e
      refine ⟨v, vs, rfl, h F m A σ H env v d env1 R S r1 q _ fun σ1 S1 l1 k1 => hs F m A σ1 H env1 vs ds env' R S1 r2 e Q fun σ2 S2 l2 k2 => k σ2 S2 (l2.trans l1) fun i hi => ?_⟩
      rw [k2 i (fun z => hi (List.mem_append_right _ z)), k1 i (fun z => hi (List.mem_append_left _ z))]
theorem gAll_len : ∀ {fs : List G} {ds : List D} {env env' : Sl} {A : Hs}, gAll fs ds env A = some env' → ds.length = fs.length
  | [], [], _, _, _, _ => rfl
  | g :: gs, d :: ds, env, env', A, h => by
    unfold gAll at h
    cases q : g d env A with
    | none => rw [q] at h; cases h
    | some e => rw [q] at h; rw [List.length_cons, List.length_cons, gAll_len h]
  | [], _ :: _, _, _, _, h => by cases h
  | _ :: _, [], _, _, _, h => by cases h
theorem sg_tup {gs : TGs} {fs : List G} {js : List Nat} {n : Nat} (h : SimGs K ca gs fs js) (hn : fs.length = n) : SimG K ca (gTup K n gs) (gT fs) js := fun F m A σ H env v d env' R S r e Q k => by
  cases r with
  | tup s p =>
    have e' : gAll fs _ env A = some env' := e
    exact ⟨_, _, rfl, .inl (.inl (R.fh _ _ s)), by rw [p.length, gAll_len e', hn], h F m A σ H env _ _ env' R S p e' Q k⟩
  | _ => cases e
theorem ss_asg {g : TG} {gf : G} {js : List Nat} (h : SimE K ca W te a) (hg : SimG K ca g gf js) : SimS K ca W (tAsg te g) (sAsg a gf) := fun F m A σ H env Dn R S p => ofE_bind h R S p fun F1 m1 A1 H1 x d R1 g1 S1 rx p1 => by
  cases q : gf d env A1 with
  | none => simp only [q] at p1; exact p1.elim
  | some env' =>
    simp only [q] at p1
    exact hg F1 m1 A1 σ H1 env x d env' R1 S1 rx q _ fun σ' S' _ _ => p1 F1 m1 σ' H1 R1 Stp.refl S'
theorem ss_par {j : Nat} (h : SimA K ca W ts as) : SimS K ca W (tPar i j ts) (sPar i j as) := fun F m A σ H env Dn R S p => by
  refine h F m A σ H env _ R S ?_
  unfold sPar at p
  cases q : as env A with
  | ok ds A1 =>
    rw [q] at p
    intro vs F1 m1 H1 R1 g1 r
    match ds, r, p with
    | [], _, p => exact p.elim
    | [_], _, p => exact p.elim
    | [d, e], .cons r1 (.cons r2 .nil), p => exact ⟨_, _, rfl, p F1 m1 _ H1 R1 g1 (((S.stp g1).set r1).set r2)⟩
    | _ :: _ :: _ :: _, _, p => exact p.elim
  | exc C A1 => rw [q] at p; exact fun F1 m1 H1 R1 g1 => p F1 m1 σ H1 R1 g1 (S.stp g1)
  | stuck => rw [q] at p; exact p
/-- x op= e -/
def IpS (K : PySem.W.Frag) (ca : String → Addr) (r : TIp) (o : D → D → Hs → RE D) : Prop := ∀ F m A H x y dx dy W σ Q, Rl K ca F m A H → Rep K ca F m x dx → Rep K ca F m y dy → Po K ca (Rep K ca) F m H W σ Q (o dx dy A) → r x y H Q
theorem po_ofE {k : D → Hs → RS} {T : VK} {r : RE D} (S : Slt K ca F m σ env) (p : PoS K ca F m H W Dn (ofE env r k)) (kk : ∀ F1 m1 A1 H1 x d, Rl K ca F1 m1 A1 H1 → Stp F m H F1 m1 H1 → Slt K ca F1 m1 σ env → Rep K ca F1 m1 x d → PoS K ca F1 m1 H1 W Dn (k d A1) → T x H1) : Po K ca (Rep K ca) F m H W σ T r := by
  cases r with
  | ok d A1 => exact fun v F1 m1 H1 R1 g1 r => kk F1 m1 A1 H1 v d R1 g1 (S.stp g1) r (PoS.stp p g1)
  | exc C A1 => exact fun F1 m1 H1 R1 g1 => p F1 m1 σ H1 R1 g1 (S.stp g1)
  | stuck => exact p
theorem ss_aug {r : TIp} {o : D → D → Hs → RE D} (ho : IpS K ca r o) (h : SimE K ca W te a) : SimS K ca W (tAug i te r) (sAug i o a) := fun F m A σ H env Dn R S p => by
  unfold sAug at p
  cases q : env[i]? with
  | none => rw [q] at p; exact p.elim
  | some z =>
    cases z with
    | none => rw [q] at p; exact p.elim
    | some dx =>
      rw [q] at p
      obtain ⟨x, h1, h2⟩ := S.val i dx q
      refine ⟨x, h1, ofE_bind h R S p fun F1 m1 A1 H1 y dy R1 g1 S1 ry p1 => ?_⟩
      exact ho F1 m1 A1 H1 x y dx dy W σ _ R1 (h2.mono g1.ff g1.mm) ry (po_ofE S1 p1 fun F2 m2 A2 H2 z dz R2 g2 S2 rz p2 => p2 F2 m2 _ H2 R2 Stp.refl (S2.set rz))
theorem ss_fl {f : String} {f' : Str} {tv : TE} (hf : f' = fS f) (kc : NoF K ca cs f') (ho : SimE K ca W ta a) (hv : SimE K ca W tv b) : SimS K ca W (sFld K ta tv f') (sFl cs f a b) := fun F m A σ H env Dn R S p =>
  ofE_bind hv R S p fun F1 m1 A1 H1 y dy R1 g1 S1 ry p1 => ofE_bind ho R1 S1 p1 fun F2 m2 A2 H2 x dx R2 g2 S2 rx p2 => by
    cases q : setFld cs A2 dx f dy with
    | none => simp only [q] at p2; exact p2.elim
    | some A3 =>
      simp only [q] at p2
      obtain ⟨a, C, dxx, kvs, _, e, h1, h2, h3, h4, R3, g3⟩ := setFld_at hf R2 rx (ry.mono g2.ff g2.mm) kc q
      exact ⟨a, ca C, dxx, kvs, e, h1, h2, h3, by omega, p2 F2 m2 σ _ R3 g3 S2⟩
theorem ss_raise {C : String} {Ca : Addr} (h : ca C = Ca) : SimS K ca W (tRaise W Ca) (sRaise C) := fun F m A σ H env Dn R S p => by
  subst h; exact p F m σ H R Stp.refl S
theorem ss_tryK {cts : List String} {c : Value} {i j : Nat} {tb : WX → TS} (hc : AllC (fun C => PySem.W.exmOne K (.ref (ca C)) c = some true) cts) (h : ∀ W', SimS K ca W' (tb W') f) : SimS K ca W (tTry K c i j tb) (sTryK cts i j f) := fun F m A σ H env Dn R S p => by
  refine h (wKeep K c i j Dn) F m A σ H env Dn R S ?_
  unfold sTryK at p
  cases q : f env A with
  | exc C e1 A1 =>
    rw [q] at p
    simp only at p
    split at p
    · rename_i hC
      intro F' m' σ' H' R' g' S'
      refine ⟨ca C, rfl, rfl, AllC.of hc hC, fun a na => ?_⟩
      obtain ⟨R2, g2⟩ := R'.new (u := ExK (ca C) a) na
      have rep : Rep K ca (upd F' a (ExK (ca C) a)) m' (.ref a) (.exc C) := .exc upd_same
      exact p _ _ _ _ R2 (g'.trans g2) ((((S'.stp g2).set (i := i) rep).set (i := j) rep).unset)
    · exact p.elim
  | nx e A1 => rw [q] at p; exact p
  | bk e A1 => rw [q] at p; exact p
  | ct e A1 => rw [q] at p; exact p
  | rt d A1 => rw [q] at p; exact p
  | stuck => rw [q] at p; exact p
theorem ss_tryO {cts : List String} {c : Value} {tb : WX → TS} (hc : AllC (fun C => PySem.W.exmOne K (.ref (ca C)) c = some true) cts) (h : ∀ W', SimS K ca W' (tb W') f) (hs : SimS K ca W s f2) : SimS K ca W (tTryO K c s tb) (sTryO cts f f2) := fun F m A σ H env Dn R S p => by
  refine h (wOnly K c (fun _ _ _ => s) (fun _ _ _ _ => False) Dn) F m A σ H env Dn R S ?_
  unfold sTryO at p
  cases q : f env A with
  | exc C e1 A1 =>
    rw [q] at p
    simp only at p
    split at p
    · rename_i hC
      intro F' m' σ' H' R' g' S'
      exact ⟨true, AllC.of hc hC, fun _ a na => hs F' m' A1 σ' H' e1 Dn R' S' (PoS.stp p g'), fun z => by cases z⟩
    · exact p.elim
  | nx e A1 => rw [q] at p; exact p
  | bk e A1 => rw [q] at p; exact p
  | ct e A1 => rw [q] at p; exact p
  | rt d A1 => rw [q] at p; exact p
  | stuck => rw [q] at p; exact p

/-! ### loops -/
theorem ss_while (ht : SimT K ca W t ft) (h : SimS K ca W s f) : SimS K ca W (tWhile t s) (sWh ft f) := fun F m A σ H env Dn R S p => by
  have hx : ∃ n, whN ft f n env A ≠ .stuck := by
    by_cases q : ∃ n, whN ft f n env A ≠ .stuck
    · exact q
    · unfold sWh at p; rw [dif_neg q] at p; exact p.elim
  obtain ⟨n, hn⟩ := hx
  rw [sWh_eq hn] at p
  refine ⟨fun n σ' H' => ∃ F' m' A' env', Rl K ca F' m' A' H' ∧ Slt K ca F' m' σ' env' ∧ PoS K ca F' m' H' W Dn (whN ft f n env' A'), ⟨n, F, m, A, env, R, S, p⟩, ?_⟩
  rintro n σ' H' ⟨F', m', A', env', R', S', p'⟩
  cases n with
  | zero => exact p'.elim
  | succ n =>
    unfold whN at p'
    refine ofT_bind ht R' S' p' fun F1 m1 A1 H1 c R1 g1 S1 p1 => ?_
    cases c with
    | false => exact p1 F1 m1 σ' H1 R1 Stp.refl S1
    | true =>
      refine ⟨fun σ2 H2 => ∃ F2 m2 A2 env2, Rl K ca F2 m2 A2 H2 ∧ Slt K ca F2 m2 σ2 env2 ∧ PoS K ca F2 m2 H2 W Dn (whN ft f n env2 A2), fun σ2 H2 z => ⟨n, Nat.lt_succ_self n, z⟩, ?_⟩
      refine h F1 m1 A1 σ' H1 env' _ R1 S1 ?_
      simp only [if_true] at p1
      cases q : f env' A1 with
      | nx e A2 => rw [q] at p1; exact fun F2 m2 σ2 H2 R2 g2 S2 => ⟨F2, m2, A2, e, R2, S2, PoS.stp p1 g2⟩
      | ct e A2 => rw [q] at p1; exact fun F2 m2 σ2 H2 R2 g2 S2 => ⟨F2, m2, A2, e, R2, S2, PoS.stp p1 g2⟩
      | bk e A2 => rw [q] at p1; exact p1
      | rt d A2 => rw [q] at p1; exact p1
      | exc C e A2 => rw [q] at p1; exact p1
      | stuck => rw [q] at p1; exact p1
/-- what is walked -/
def PoW (K : PySem.W.Frag) (ca : String → Addr) (F : Hp) (m : List Addr) (H : Hp) (W : WX) (σ : L2.St) (R : It → Hp → Prop) : RE Wk → Prop
  | .ok k A' => ∀ J F' m' H', Rl K ca F' m' A' H' → Stp F m H F' m' H' → (∃ (G : Hp → Prop) (Y : Nat → Hp → V → Hp → Prop), Walk J k.ds.length G Y ∧
      (∀ F2 m2 A2 H2, k.gd A2 → Rl K ca F2 m2 A2 H2 → Stp F' m' H' F2 m2 H2 → G H2) ∧
      ∀ i d x F2 m2 A2 H2 H3, k.ds[i]? = some d → k.gd A2 → Rl K ca F2 m2 A2 H2 → Stp F' m' H' F2 m2 H2 → Y i H2 x H3 → (H3 = H2 ∧ Rep K ca F2 m2 x d) ∨ (∃ T vs l, d = .tup l ∧ x = .ref T ∧ H2 T = none ∧ H3 = upd H2 T (.tup vs) ∧ RepL K ca F2 m2 vs l) ∨ (∃ T vs l, d = .tup l ∧ x = .ref T ∧ H2 T = some (.tup vs) ∧ H3 = H2 ∧ RepL K ca F2 m2 vs l)) → R J H'
  | .exc C A' => ∀ F' m' H', Rl K ca F' m' A' H' → Stp F m H F' m' H' → W (.ref (ca C)) none σ H'
  | .stuck => False
def SimI (K : PySem.W.Frag) (ca : String → Addr) (W : WX) (wi : TI) (f : Sl → Hs → RE Wk) : Prop := ∀ F m A σ H env R, Rl K ca F m A H → Slt K ca F m σ env → PoW K ca F m H W σ R (f env A) → wi σ H R
theorem ss_for {wi : TI} {w : Sl → Hs → RE Wk} {g : TG} {gf : G} {js : List Nat} (hi : SimI K ca W wi w) (hg : SimG K ca g gf js) (h : SimS K ca W s f) : SimS K ca W (tFor wi g s) (sFor w gf f) := fun F m A σ H env Dn R S p => by
  refine hi F m A σ H env _ R S ?_
  unfold sFor at p
  cases q : w env A with
  | stuck => rw [q] at p; exact p
  | exc C A1 => rw [q] at p; exact fun F1 m1 H1 R1 g1 => p F1 m1 σ H1 R1 g1 (S.stp g1)
  | ok k A1 =>
    rw [q] at p
    rintro J F1 m1 H1 R1 g1 ⟨G, Y, wk, hG, hY⟩
    refine for_it wk (fun i σ' H' => ∃ F' m' A' env', Rl K ca F' m' A' H' ∧ Slt K ca F' m' σ' env' ∧ Stp F1 m1 H1 F' m' H' ∧ PoS K ca F' m' H' W Dn (forL gf f k.gd (k.ds.drop i) env' A')) ⟨F1, m1, A1, env, R1, S.stp g1, Stp.refl, PoS.stp p g1⟩ ?_ ?_ ?_
    · rintro i σ' H' hi ⟨F', m', A', env', R', S', g', p'⟩
      refine hG F' m' A' H' ?_ R' g'
      cases z : k.ds.drop i with
      | nil => rw [z] at p'; unfold forL at p'; split at p'; assumption; exact p'.elim
      | cons d ds => rw [z] at p'; unfold forL at p'; split at p'; assumption; exact p'.elim
    · rintro i x σ2 H2 H3 hlt ⟨F2, m2, A2, env2, R2, S2, g2, p2⟩ y
      rw [List.drop_eq_getElem_cons hlt] at p2
      have gd2 : k.gd A2 := by
        by_cases z : k.gd A2
        · exact z
        · unfold forL at p2; rw [if_neg z] at p2; exact p2.elim
      have st3 : ∃ F3, Rl K ca F3 m2 A2 H3 ∧ Stp F2 m2 H2 F3 m2 H3 ∧ Rep K ca F3 m2 x k.ds[i] := by
        rcases hY i k.ds[i] x F2 m2 A2 H2 H3 (by simp [hlt]) gd2 R2 g2 y with ⟨e, rp⟩ | ⟨T, vs, l, q1, q2, q3, q4, q5⟩ | ⟨T, vs, l, q1, q2, q3, q4, q5⟩
        · subst e; exact ⟨F2, R2, Stp.refl, rp⟩
        · subst q4
          rw [q1, q2]
          obtain ⟨R3, g3⟩ := R2.new (u := .tup vs) q3
          exact ⟨_, R3, g3, .tup upd_same (q5.mono g3.ff g3.mm)⟩
        · subst q4
          rw [q1, q2]
          obtain ⟨F3, R3, g3, hT⟩ := R2.catch q3
          exact ⟨F3, R3, g3, .tup hT (q5.mono g3.ff g3.mm)⟩
      obtain ⟨F3, R3, g3, rp⟩ := st3
      have p3 := PoS.stp p2 g3
      unfold forL at p3
      rw [if_pos gd2] at p3
      cases z : gf k.ds[i] env2 A2 with
      | none => rw [z] at p3; exact p3.elim
      | some env3 =>
        rw [z] at p3
        refine hg F3 m2 A2 σ2 H3 env2 x k.ds[i] env3 R3 (S2.stp g3) rp z _ fun σ3 S3 _ _ => ?_
        refine h F3 m2 A2 σ3 H3 env3 _ R3 S3 ?_
        cases y : f env3 A2 with
        | nx e A4 => simp only [y] at p3; exact fun F4 m4 σ4 H4 R4 g4 S4 => ⟨F4, m4, A4, e, R4, S4, (g2.trans g3).trans g4, PoS.stp p3 g4⟩
        | ct e A4 => simp only [y] at p3; exact fun F4 m4 σ4 H4 R4 g4 S4 => ⟨F4, m4, A4, e, R4, S4, (g2.trans g3).trans g4, PoS.stp p3 g4⟩
        | bk e A4 => simp only [y] at p3; exact p3
        | rt d A4 => simp only [y] at p3; exact p3
        | exc C e A4 => simp only [y] at p3; exact p3
        | stuck => simp only [y] at p3; exact p3
    · rintro σ' H' ⟨F', m', A', env', R', S', g', p'⟩
      rw [List.drop_length] at p'
      unfold forL at p'
      split at p'
      · exact p' F' m' σ' H' R' Stp.refl S'
      · exact p'.elim
end
end SM

/-! ## comprehensions, new instances, methods, defs -/
namespace SM
open PySem L2
open DL (Ex ExK)
section
variable {K : PySem.W.Frag} {ca : String → Addr} {F F1 F2 H H1 H2 : Hp} {m m1 m2 : List Addr} {A A1 A2 : Hs} {σ : L2.St} {env : Sl} {W : WX}
variable {ta tb tc te : TE} {a b c : E} {i : Nat} {d : D} {t u : TT} {ft fu : Tt} {ts : TA} {as : As} {x : V} {dx : D} {C : String} {fs : List (String × D)} {cs : List String}
theorem Slt.wiped (S : Slt K ca F m σ env) : ∀ vs : List Nat, Slt K ca F m (L2.wipe σ vs) (wipeS env vs)
  | [] => S
  | v :: vs => (Slt.wiped S vs).unset
theorem wipe_same {σ : L2.St} {σ2 : L2.St} {vs js : List Nat} (hj : ∀ j ∈ js, j ∈ vs) (l4 : σ2.length = (L2.wipe σ vs).length) (q4 : ∀ i : Nat, i ∉ js → σ2[i]? = (L2.wipe σ vs)[i]?) : L2.wipe σ2 vs = L2.wipe σ vs := by
  have len : ∀ (a : L2.St) (us : List Nat), (L2.wipe a us).length = a.length := fun a us => wipe_length a us
  have inn : ∀ (a : L2.St) (us : List Nat) (n : Nat), n ∈ us → n < a.length → (L2.wipe a us)[n]? = some none := fun a us => by
    induction us with
    | nil => intro n h _; simp at h
    | cons v us ih =>
      intro n h hl
      unfold L2.wipe
      by_cases z : v = n
      · subst z; rw [List.getElem?_set_self (by rw [len]; exact hl)]
      · rw [List.getElem?_set_ne z]
        exact ih n (by simp only [List.mem_cons] at h; rcases h with h | h; exact absurd h.symm z; exact h) hl
  apply List.ext_getElem?
  intro n
  by_cases z : n ∈ vs
  · by_cases hl : n < σ.length
    · rw [inn σ2 vs n z (by rw [l4, len]; exact hl), inn σ vs n z hl]
    · rw [List.getElem?_eq_none (by rw [len, l4, len]; omega), List.getElem?_eq_none (by rw [len]; omega)]
  · rw [DL.wipe_out z, q4 n (fun y => z (hj n y)), DL.wipe_out z]
theorem se_lc {wi : TI} {w : Sl → Hs → RE Wk} {g : TG} {gf : G} {js vs : List Nat} {W2 : WX} (hi : SimI K ca W wi w) (hg : SimG K ca g gf js) (hj : ∀ j ∈ js, j ∈ vs) (ht : SimT K ca W2 t ft) (ha : SimE K ca W2 ta a) : SimE K ca W (tLc wi g t ta vs) (eLc w gf ft a vs) := fun F m A σ H env Q R S p => by
  refine hi F m A σ H env _ R S ?_
  unfold eLc at p
  cases q : w env A with
  | stuck => rw [q] at p; exact p
  | exc C A1 => rw [q] at p; exact p
  | ok k A1 =>
    rw [q] at p
    rintro J F1 m1 H1 R1 g1 ⟨G, Y, wk, hG, hY⟩ Dl hD
    have p := Po.stp (r := match lcL gf ft a k.gd (wipeS env vs) k.ds [] A1 with
      | .ok l A2 => alloc A2 (.lst l)
      | _ => .stuck) p g1
    obtain ⟨R2, g2⟩ := R1.newH (u := .lst []) hD
    -- the plain run from turn i
    let run := fun (i : Nat) (acc : List D) (A' : Hs) => match lcL gf ft a k.gd (wipeS env vs) (k.ds.drop i) acc A' with
      | .ok l A2 => alloc A2 (.lst l)
      | _ => RE.stuck
    refine lc_it wk (fun i H' => ∃ F' m' A' acc ws, Rl K ca F' m' A' H' ∧ Stp F1 m1 H1 F' m' H' ∧ H' Dl = some (.lst ws) ∧ Dl ∉ m' ∧ F' Dl = none ∧ RepL K ca F' m' ws acc ∧ Po K ca (Rep K ca) F1 m1 H1 W σ Q (run i acc A')) ?_ ?_ ?_ ?_
    · exact ⟨F1, m1, A1, [], [], R2, g2, upd_same, R1.out hD, R1.fh.back hD, .nil, p⟩
    · rintro i H' hi ⟨F', m', A', acc, ws, R', g', d1, d2, d3, rs, p'⟩
      refine hG F' m' A' H' ?_ R' g'
      show k.gd A'
      dsimp only [run] at p'
      cases z : k.ds.drop i with
      | nil =>
        rw [z] at p'; unfold lcL at p'
        by_cases y : k.gd A'
        · exact y
        · rw [if_neg y] at p'; exact p'.elim
      | cons d ds =>
        rw [z] at p'; unfold lcL at p'
        by_cases y : k.gd A'
        · exact y
        · rw [if_neg y] at p'; exact p'.elim
    · rintro i x H2 H3 hlt ⟨F2, m2, A2, acc, ws, R2, g2, d1, d2, d3, rs, p2⟩ y
      have gd2 : k.gd A2 := by
        dsimp only [run] at p2
        rw [List.drop_eq_getElem_cons hlt] at p2
        by_cases z : k.gd A2
        · exact z
        · unfold lcL at p2; rw [if_neg z] at p2; exact p2.elim
      have st3 : ∃ F3, Rl K ca F3 m2 A2 H3 ∧ Stp F2 m2 H2 F3 m2 H3 ∧ Rep K ca F3 m2 x k.ds[i] ∧ H3 Dl = some (.lst ws) ∧ F3 Dl = none := by
        rcases hY i k.ds[i] x F2 m2 A2 H2 H3 (by simp [hlt]) gd2 R2 g2 y with ⟨e, rp⟩ | ⟨T, us, l, q1, q2, q3, q4, q5⟩ | ⟨T, us, l, q1, q2, q3, q4, q5⟩
        · subst e; exact ⟨F2, R2, Stp.refl, rp, d1, d3⟩
        · subst q4
          rw [q1, q2]
          obtain ⟨R3, g3⟩ := R2.new (u := .tup us) q3
          have nT : Dl ≠ T := fun z => by rw [← z, d1] at q3; cases q3
          exact ⟨_, R3, g3, .tup upd_same (q5.mono g3.ff g3.mm), by rw [upd_ne nT]; exact d1, by rw [upd_ne nT]; exact d3⟩
        · subst q4
          rw [q1, q2]
          obtain ⟨F3, R3, g3, hT⟩ := R2.catch q3
          refine ⟨F3, R3, g3, .tup hT (q5.mono g3.ff g3.mm), d1, ?_⟩
          cases w : F3 Dl with
          | none => rfl
          | some v => have := R3.fh Dl v w; rw [d1] at this; cases this; exact (g3.gn Dl (by rw [w]; simp)).elim (fun z => absurd d3 z) fun z => z.elim (fun z => by rw [d1] at z; cases z) fun ⟨xs, z⟩ => by rw [w] at z; cases z
      obtain ⟨F3, R3, g3, rp, e1, e3⟩ := st3
      have rs3 := rs.mono g3.ff g3.mm
      have p3 := p2
      dsimp only [run] at p3
      rw [List.drop_eq_getElem_cons hlt] at p3
      unfold lcL at p3
      by_cases gd : k.gd A2
      · rw [if_pos gd] at p3
        cases z : gf k.ds[i] (wipeS env vs) A2 with
        | none => rw [z] at p3; exact p3.elim
        | some env3 =>
          rw [z] at p3
          have S3 := (((S.stp g1).stp g2).stp g3).wiped vs
          refine hg F3 m2 A2 (L2.wipe σ vs) H3 _ x k.ds[i] env3 R3 S3 rp z _ fun σ3 S4 l4 k4 => ?_
          refine ⟨wipe_same hj l4 k4, ?_⟩
          -- what a step keeps of the new list
          have keep : ∀ {F' m' A' H'}, Rl K ca F' m' A' H' → Stp F3 m2 H3 F' m' H' → H' Dl = some (.lst ws) ∧ Dl ∉ m' ∧ F' Dl = none := fun R' g' => by
            have h1 := g'.kp Dl _ e1 d2
            refine ⟨h1, fun z => ?_, ?_⟩
            · rcases g'.gm Dl z with y | y
              · exact d2 y
              · rw [e1] at y; cases y
            · rename_i F' m' A' H'
              cases w : F' Dl with
              | none => rfl
              | some v =>
                rcases g'.gn Dl (by rw [w]; simp) with y | y | ⟨xs, y⟩
                · exact absurd e3 y
                · rw [e1] at y; cases y
                · have := R'.fh Dl _ y
                  rw [h1] at this; cases this
          refine ht F3 m2 A2 σ3 H3 env3 _ R3 S4 ?_
          cases y : ft env3 A2 with
          | stuck => simp only [y] at p3; exact p3.elim
          | exc C A4 => simp only [y] at p3; exact p3.elim
          | ok bb A4 =>
            intro v F4 m4 H4 R4 g4 ev
            cases (show v = bb from ev)
            cases bb with
            | false =>
              simp only [y] at p3
              obtain ⟨f1, f2, f3⟩ := keep R4 g4
              exact ⟨F4, m4, A4, acc, ws, R4, (g2.trans g3).trans g4, f1, f2, f3, rs3.mono g4.ff g4.mm, p3⟩
            | true =>
              simp only [y] at p3
              have p4 := p3
              refine ha F4 m4 A4 σ3 H4 env3 _ R4 (S4.stp g4) ?_
              cases y2 : a env3 A4 with
              | stuck => simp only [y2] at p4; exact p4.elim
              | exc C A5 => simp only [y2] at p4; exact p4.elim
              | ok dz A5 =>
                simp only [y2] at p4
                by_cases hl : acc.length < sizeLine
                · rw [if_pos hl] at p4
                  intro v F5 m5 H5 R5 g5 rv
                  obtain ⟨f1, f2, f3⟩ := keep R5 (g4.trans g5)
                  refine ⟨ws, f1, by rw [rs.length]; exact hl, ?_⟩
                  have rs5 := rs3.mono (g4.trans g5).ff (g4.trans g5).mm
                  -- the new list grows
                  have ne : ∀ a, a ∈ m5 → a ≠ Dl := fun a ha z => f2 (by rw [← z]; exact ha)
                  have R6 : Rl K ca F5 m5 A5 (upd H5 Dl (.lst (ws ++ [v]))) := ⟨R5.fh.right f3, R5.len, R5.nd, R5.fr, fun j o b h1 h2 => (R5.ob j o b h1 h2).mono (Ex.refl _) (Pre.refl _) fun w hw => by
                    rw [upd_ne (ne b (List.mem_of_getElem? h2))]; exact hw⟩
                  have nD0 : H1 Dl = none := hD
                  have gA : Stp F1 m1 H1 F5 m5 H5 := ((g2.trans g3).trans g4).trans g5
                  have gB : Stp F1 m1 H1 F5 m5 (upd H5 Dl (.lst (ws ++ [v]))) := ⟨gA.ff, gA.mm, fun b w h n => by
                      rw [upd_ne fun z => by rw [z, nD0] at h; cases h]; exact gA.kp b w h n, gA.gn, gA.gm, fun b h z => by
                      by_cases w : b = Dl
                      · rw [w, nD0] at h; exact h rfl
                      · rw [upd_ne w] at z; exact gA.th b h z, fun b od w h => by
                      rw [upd_ne fun z => by rw [z, nD0] at h; cases h]; exact gA.fz b od w h⟩
                  refine ⟨F5, m5, A5, acc ++ [dz], ws ++ [v], R6, gB, upd_same, f2, f3, rs5.append (.cons rv .nil), p4⟩
                · rw [if_neg hl] at p4; exact p4.elim
      · rw [if_neg gd] at p3; exact p3.elim
    · rintro H' ⟨F', m', A', acc, ws, R', g', d1, d2, d3, rs, p'⟩
      dsimp only [run] at p'
      rw [List.drop_length] at p'
      unfold lcL at p'
      by_cases gd : k.gd A'
      · rw [if_pos gd] at p'
        have R2 := R'.take (o := .lst acc) d2 d3 ⟨ws, d1, rs.mono (Ex.refl _) ⟨_, rfl⟩⟩
        refine p' (.ref Dl) F' (m' ++ [Dl]) H' R2 ⟨g'.ff, g'.mm.trans ⟨_, rfl⟩, g'.kp, g'.gn, fun b h => ?_, g'.th, g'.fz⟩ (.ref (by rw [List.getElem?_append_right (by rw [R'.len]; exact Nat.le_refl _), R'.len]; simp))
        rcases List.mem_append.mp h with z | z
        · exact g'.gm b z
        · rw [List.mem_singleton] at z; rw [z]; exact .inr hD
      · rw [if_neg gd] at p'; exact p'.elim

/-! ### new instances -/
theorem make_sim {f : Fn} {vs : List V} {ds : List D} {Q : VK} {X : XK} {x dx : Addr} (R1 : Rl K ca F m A H) (rs : RepL K ca F m vs ds) (hx : H x = none) (hdx : H dx = none) (hne : dx ≠ x) (p : PoF K ca F m H Q X (make C f ds A)) :
    SpF K ca f (.ref x :: vs) (upd (upd H dx (.own x)) x (.ins (ca C) dx [])) (fun v H2 => v = .non ∧ Q (.ref x) H2) X := by
  obtain ⟨R2, g2⟩ := R1.newH (u := .own x) hdx
  have hx2 : (upd H dx (.own x)) x = none := by rw [upd_ne (Ne.symm hne)]; exact hx
  obtain ⟨R3, g3, r3⟩ := R2.alloc (u := .ins (ca C) dx []) (o := .obj C []) hx2 ⟨dx, [], upd_same, .nil⟩
  have g := g2.trans g3
  refine ⟨F, m ++ [x], A ++ [.obj C []], .ref A.length :: ds, R3, .cons r3 (rs.mono g.ff g.mm), ?_⟩
  unfold make at p
  cases q : f (.ref A.length :: ds) (A ++ [.obj C []]) with
  | stuck => rw [q] at p; exact p
  | exc Ce A2 => rw [q] at p; exact fun F' m' H' R' g' => p F' m' H' R' (g.trans g')
  | ok d A2 =>
    rw [q] at p
    intro v F' m' H' R' g' rv
    cases rv with
    | non => exact ⟨rfl, p (.ref x) F' m' H' R' (g.trans g') (r3.mono g'.ff g'.mm)⟩
    | _ => exact p.elim
theorem se_make {f : Fn} (hs : SimA K ca W ts as) : SimE K ca W (tMakeS (ca C) (SpF K ca f) (WE W) ts) (eMake C f as) := fun F m A σ H env Q R S p =>
  hs.bind R S p fun F1 m1 A1 H1 xs ds R1 g1 S1 rs p1 => fun x dx hx hdx hne => make_sim R1 rs hx hdx hne (pof_po p1)
theorem se_make0 {f : Fn} {X : XK} (hs : SimA K ca W ts as) : SimE K ca W (tMake (ca C) (SpF K ca f) [] X ts) (eMake0 C f as) := fun F m A σ H env Q R S p =>
  hs.bind R S p fun F1 m1 A1 H1 xs ds R1 g1 S1 rs p1 => fun x dx hx hdx hne => by
    rw [List.append_nil]
    exact make_sim R1 rs hx hdx hne (pof_noX p1)

/-! ### methods, by the classes at hand -/
theorem methX_sim {f : Fn} {mm : String} {mm' : Str} {Q : VK} {X : XK} (hf : mm' = fS mm) (R : Rl K ca F m A H) (S : Slt K ca F m σ env) (hs : SimA K ca W ts as) (rx : Rep K ca F m x dx) {fs : List (String × D)} (ho : objAt A dx = some (C, fs)) (hn : fs.lookup mm = none)
    {k : RE D → RE D} (hk : ∀ {F1 m1 H1 r}, Po K ca (Rep K ca) F1 m1 H1 W σ Q (k r) → PoF K ca F1 m1 H1 Q X r)
    (p : Po K ca (Rep K ca) F m H W σ Q ((as env A).bind fun ds A2 => k (f (dx :: ds) A2))) : ∃ a dxx kvs, x = .ref a ∧ H a = some (.ins (ca C) dxx kvs) ∧ kvs.lookup mm' = none ∧ ts σ H fun vs H2 => SpF K ca f (x :: vs) H2 Q X := by
  obtain ⟨i, a, dxx, kvs, e1, e2, h1, h2, h3, h4⟩ := obj_at R rx ho
  refine ⟨a, dxx, kvs, e2, h3, by rw [hf]; exact (fS_look (f := mm) h4).2 hn, ?_⟩
  exact hs.bind R S p fun F1 m1 A1 H1 xs ds R1 g1 S1 rs p1 => ⟨F1, m1, A1, dx :: ds, R1, .cons (rx.mono g1.ff g1.mm) rs, hk p1⟩
theorem methOf_one {mm : String} {C : String} {f f' : Fn} {A : Hs} {x : D} (q : methOf mm [(C, f)] A x = some f') : f' = f ∧ ∃ fs, objAt A x = some (C, fs) ∧ fs.lookup mm = none := by
  unfold methOf at q
  cases z : objAt A x with
  | none => rw [z] at q; cases q
  | some w =>
    obtain ⟨C', fs⟩ := w
    rw [z] at q
    simp only at q
    split at q
    · cases q
    · rename_i hn
      rw [List.lookup_cons] at q
      cases y : (C' == C) with
      | false => rw [y] at q; cases q
      | true =>
        rw [y] at q
        cases q
        have e := eq_of_beq y
        subst e
        exact ⟨rfl, fs, rfl, by cases w : fs.lookup mm with
          | none => rfl
          | some _ => rw [w] at hn; exact absurd rfl hn⟩
theorem meth_one {mm : String} {mm' : Str} {f : Fn} (hf : mm' = fS mm) (ho : SimE K ca W ta a) (hs : SimA K ca W ts as) : SimE K ca W (tMethX (ca C) mm' (SpF K ca f) (WE W) ta ts) (eMeth mm [(C, f)] a as) := fun F m A σ H env Q R S p =>
  ho.bind R S p fun F1 m1 A1 H1 x dx R1 g1 S1 rx p1 => by
    cases q : methOf mm [(C, f)] A1 dx with
    | none => simp only [q] at p1; exact p1.elim
    | some f' =>
      simp only [q] at p1
      obtain ⟨rfl, fs, z, hn⟩ := methOf_one q
      exact methX_sim (k := fun r => r) hf R1 S1 hs rx z hn pof_po p1
theorem meth0_one {mm : String} {mm' : Str} {f : Fn} {X : XK} (hf : mm' = fS mm) (ho : SimE K ca W ta a) (hs : SimA K ca W ts as) : SimE K ca W (tMeth (ca C) mm' (SpF K ca f) [] X ta ts) (eMeth0 mm [(C, f)] a as) := fun F m A σ H env Q R S p =>
  ho.bind R S p fun F1 m1 A1 H1 x dx R1 g1 S1 rx p1 => by
    cases q : methOf mm [(C, f)] A1 dx with
    | none => simp only [q] at p1; exact p1.elim
    | some f' =>
      simp only [q] at p1
      obtain ⟨rfl, fs, z, hn⟩ := methOf_one q
      obtain ⟨a', b', c', e, h1, h2, h3⟩ := methX_sim (X := X) (k := fun r => r.noX) hf R1 S1 hs rx z hn pof_noX p1
      refine ⟨a', b', c', e, h1, h2, ?_⟩
      simp only [List.append_nil]
      exact h3
end

/-! ### defs -/
section
variable {P : Program} {w : World} {K : PySem.W.Frag} {ca : String → Addr} {mg : Str → Option Value} {base : Heap} {x qn : Str} {st : Stmt} {fa : Addr} {fd : FuncData} {N ps : List Str} {k : Nat}
theorem spF_len {n mm : Nat} {b : S} {vs : List V} {H : Hp} {Q : VK} {E : XK} (h : SpF K ca (mkFn n mm b) vs H Q E) : vs.length = n := by
  obtain ⟨F, m, A, ds, R, rs, p⟩ := h
  rw [rs.length]
  unfold mkFn at p
  split at p
  · assumption
  · exact p.elim
theorem run_SpF {n : Nat} {b : S} {t : TS} {vs : List V} {H : Hp} {Q : VK} {E : XK} (h : SpF K ca (mkFn n N.length b) vs H Q E) (hb : SimS K ca (fun cls d _ H => E cls d H) t b) : t { nx := fun _ H' => Q .non H', rt := Q } (L2.start N vs) H := by
  have hl := spF_len h
  obtain ⟨F, m, A, ds, R, rs, p⟩ := h
  have hn : ds.length = n := by rw [← rs.length, hl]
  unfold mkFn at p
  rw [if_pos hn] at p
  have S : Slt K ca F m (L2.start N vs) (ds.map some ++ List.replicate (N.length - n) none) := by
    refine ⟨by unfold L2.start; simp [hl, hn], fun i d h => ?_⟩
    by_cases hi : i < ds.length
    · rw [List.getElem?_append_left (by simpa using hi), List.getElem?_map] at h
      cases z : ds[i]? with
      | none => rw [z] at h; cases h
      | some d' =>
        rw [z] at h; cases h
        obtain ⟨v, h1, h2⟩ := rs.get z
        refine ⟨v, ?_, h2⟩
        unfold L2.start
        have hv : i < vs.length := (List.getElem?_eq_some_iff.mp h1).1
        rw [List.getElem?_append_left (by simpa using hv), List.getElem?_map, h1]; rfl
    · rw [List.getElem?_append_right (by simpa using Nat.le_of_not_lt hi)] at h
      obtain ⟨h1, h2⟩ := List.getElem?_eq_some_iff.mp h
      rw [List.getElem_replicate] at h2
      cases h2
  refine hb F m A _ H _ _ R S ?_
  cases q : b (ds.map some ++ List.replicate (N.length - n) none) A with
  | nx e A' => rw [q] at p; exact fun F' m' σ' H' R' g' S' => p .non F' m' H' R' g' .non
  | rt d A' => rw [q] at p; exact p
  | exc C e A' => rw [q] at p; exact fun F' m' σ' H' R' g' S' => p F' m' H' R' g'
  | bk e A' => rw [q] at p; exact p.elim
  | ct e A' => rw [q] at p; exact p.elim
  | stuck => rw [q] at p; exact p.elim
/-- a def that may raise -/
theorem Fn.ofF {n : Nat} {b : S} (F : Fun K x qn st fa fd) (S : FnScope N ps (defScope st)) (hn : ps.length = n)
    (body : ∀ (cdv : Value) (A : Around) (outer : List PySem.Env) (s : Shared) (H : Hp) (E : XK), Room k (A.deeper (PyProof.Rows.envOfC qn (defScope st) s.heap.objs.size fa cdv)) →
      ∃ t, PSs (cxOf (L2.CX P w) P w K mg base N qn (defScope st) fa cdv A outer s H E) (defBody st) t ∧ SimS K ca (fun cls d _ H => E cls d H) t b) : FnOk P w K mg base (L2.CX P w) (k + 1) fa fd ps (SpF K ca (mkFn n N.length b)) :=
  F.okX S (fun vs H Q E h => by rw [hn]; exact spF_len h) fun cdv A outer s H vs Q E hr h => by
    obtain ⟨t, h1, h2⟩ := body cdv A outer s H E hr
    exact ⟨t, h1, run_SpF h h2⟩
/-- a def that lets nothing out -/
theorem Fn.ofF0 {n : Nat} {b : S} (F : Fun K x qn st fa fd) (S : FnScope N ps (defScope st)) (hn : ps.length = n)
    (body : ∀ (cdv : Value) (A : Around) (outer : List PySem.Env) (s : Shared) (H : Hp) (E : XK), Room k (A.deeper (PyProof.Rows.envOfC qn (defScope st) s.heap.objs.size fa cdv)) →
      ∃ t, PSs (cxOf CX0 P w K mg base N qn (defScope st) fa cdv A outer s H E).nox (defBody st) t ∧ SimS K ca (fun cls d _ H => E cls d H) t b) : FnOk P w K mg base CX0 (k + 1) fa fd ps (SpF K ca (mkFn n N.length b)) :=
  F.ok S (fun vs H Q E h => by rw [hn]; exact spF_len h) fun cdv A outer s H vs Q E hr h => by
    obtain ⟨t, h1, h2⟩ := body cdv A outer s H E hr
    exact ⟨t, h1, run_SpF h h2⟩
end
/-! ### methods by name -/
structure Mt (P : Program) (w : World) (K : PySem.W.Frag) (mg : Str → Option Value) (base : Heap) (k : Nat) (C : Addr) (mm : Str) (sp : Sp) : Prop where
  ex : ∃ (f : Addr) (fd : FuncData) (ps : List Str), Meth K C mm f ∧ FnOk P w K mg base (L2.CX P w) k f fd ps sp ∧ Binds K fd ps []
theorem Mt.of {P : Program} {w : World} {K : PySem.W.Frag} {mg : Str → Option Value} {base : Heap} {k : Nat} {C fa : Addr} {mm : Str} {fd : FuncData} {ps : List Str} {sp : Sp} (M : Meth K C mm fa) (h : FnOk P w K mg base (L2.CX P w) k fa fd ps sp) (b : Binds K fd ps []) : Mt P w K mg base k C mm sp := ⟨fa, fd, ps, M, h, b⟩
section
variable {X : Cx} {W : WX} {k j : Nat} {x mm : Str} {C : Addr} {sp : Sp} {p pos apos : Pos} {o e : Expr} {es : List Expr} {t : TA} {ta : TE}
theorem pe_mtX {pl : Sem Bool} (c : Mt X.prog X.w X.K X.mg X.base k C mm sp) (tk : Takes X W) (hr : Room j X.A) (hk : k ≤ j) (cl : Cls X.K C) (he : PE X o ta) (ha : PA X (e :: es) t)
    (hst : starEach (e :: es) X.env = (false, eval e X.env) :: starEach es X.env := by rfl) (hpl : (backTo pos (starEach es X.env)).any (·.1) = false := by rfl)
    (ht : eval (.Call (.Attribute o mm apos) (e :: es) [] pos) X.env = (do
      let ov ← eval o X.env
      standAt apos.atName
      let (f, first) ← holding [ov] (getMethod ov mm pl)
      callWith pos f first (backTo pos (starEach (e :: es) X.env)) (backToKw pos (keywordEach [] X.env))) := by rfl) :
    PE X (.Call (.Attribute o mm apos) (e :: es) [] pos) (tMethX C mm sp (WE W) ta t) := by
  obtain ⟨f, fd, ps, M, F, b⟩ := c.ex
  exact pe_methX he cl M F (hr.mono hk) b (fun σ => passAt tk σ) ha hst hpl ht
theorem pe_mtX0 {pl : Sem Bool} (c : Mt X.prog X.w X.K X.mg X.base k C mm sp) (tk : Takes X W) (hr : Room j X.A) (hk : k ≤ j) (cl : Cls X.K C) (he : PE X o ta)
    (ht : eval (.Call (.Attribute o mm apos) [] [] pos) X.env = (do
      let ov ← eval o X.env
      standAt apos.atName
      let (f, first) ← holding [ov] (getMethod ov mm pl)
      callWith pos f first (backTo pos (starEach [] X.env)) (backToKw pos (keywordEach [] X.env))) := by rfl) :
    PE X (.Call (.Attribute o mm apos) [] [] pos) (tMethX C mm sp (WE W) ta tNil) := by
  obtain ⟨f, fd, ps, M, F, b⟩ := c.ex
  exact pe_methX0 he cl M F (hr.mono hk) b (fun σ => passAt tk σ) ht
theorem pe_mtN {pl : Sem Bool} (c : Mt X.prog X.w X.K X.mg X.base k C mm sp) (hr : Room j X.A) (hk : k ≤ j) (cl : Cls X.K C) (he : PE X o ta) (ha : PA X (e :: es) t)
    (hst : starEach (e :: es) X.env = (false, eval e X.env) :: starEach es X.env := by rfl) (hpl : (backTo pos (starEach es X.env)).any (·.1) = false := by rfl)
    (ht : eval (.Call (.Attribute o mm apos) (e :: es) [] pos) X.env = (do
      let ov ← eval o X.env
      standAt apos.atName
      let (f, first) ← holding [ov] (getMethod ov mm pl)
      callWith pos f first (backTo pos (starEach (e :: es) X.env)) (backToKw pos (keywordEach [] X.env))) := by rfl) :
    PE X (.Call (.Attribute o mm apos) (e :: es) [] pos) (tMeth C mm sp [] E0 ta t) := by
  obtain ⟨f, fd, ps, M, F, b⟩ := c.ex
  exact pe_meth he cl M F (hr.mono hk) b .nil passL ha hst hpl ht
open DL (Dx)
end
end SM

/-! ## == and in, of data of any texts -/
namespace L2
open PySem PySem.Spec PyProof.Rows
/-- two lists of different lengths -/
def UnL (H : Hp) (x y : V) : Prop := ∃ a b xs ys, x = .ref a ∧ y = .ref b ∧ H a = some (.lst xs) ∧ H b = some (.lst ys) ∧ xs.length ≠ ys.length
def rEqP (K : PySem.W.Frag) : R2 := fun x y H Q => (∃ d e, Dp K H x d ∧ Dp K H y e ∧ d.plain = true ∧ e.plain = true ∧ d.depth ≤ 60 ∧ Q (.bl (PyData.eqv d e)) H) ∨ (UnL H x y ∧ Q (.bl false) H)
def rNeP (K : PySem.W.Frag) : R2 := fun x y H Q => (∃ d e, Dp K H x d ∧ Dp K H y e ∧ d.plain = true ∧ e.plain = true ∧ d.depth ≤ 60 ∧ Q (.bl (!PyData.eqv d e)) H) ∨ (UnL H x y ∧ Q (.bl true) H)
theorem op_eqP {X : Cx} (hu : X.A.units + 64 < cLine) : OpR X (compareOp .Eq) (rEqP X.K) := by
  intro pins s σ H x y v u Q I rx ry h
  rcases h with ⟨d, e, hd, he, sd, se, dp, q⟩ | ⟨⟨a, b, xs, ys, rfl, rfl, ha, hb, hl⟩, q⟩
  · obtain ⟨as, r1⟩ := Dp.reads I d x v hd rx
    obtain ⟨bs, r2⟩ := Dp.reads I e y u he ry
    exact PySem.SeqAt.eq_plain r1 r2 sd se (by omega) ⟨.bl _, H, I, rfl, q⟩
  · cases (show v = Value.ref a from rx)
    cases (show u = Value.ref b from ry)
    obtain ⟨us, r1, p1, _⟩ := I.list (.inl (.inl ha))
    obtain ⟨ws, r2, p2, _⟩ := I.list (.inl (.inl hb))
    refine PySem.SeqAt.eq_list_lengthsAt p1.isList p2.isList ?_ (by omega) ⟨.bl _, H, I, rfl, q⟩
    rw [List.size_toArray, List.size_toArray, ← r1.length, ← r2.length]
    simpa using hl
theorem op_neP {X : Cx} (hu : X.A.units + 64 < cLine) : OpR X (compareOp .NotEq) (rNeP X.K) := by
  intro pins s σ H x y v u Q I rx ry h
  rcases h with ⟨d, e, hd, he, sd, se, dp, q⟩ | ⟨⟨a, b, xs, ys, rfl, rfl, ha, hb, hl⟩, q⟩
  · obtain ⟨as, r1⟩ := Dp.reads I d x v hd rx
    obtain ⟨bs, r2⟩ := Dp.reads I e y u he ry
    exact PySem.SeqAt.ne_plain r1 r2 sd se (by omega) ⟨.bl _, H, I, rfl, q⟩
  · cases (show v = Value.ref a from rx)
    cases (show u = Value.ref b from ry)
    obtain ⟨us, r1, p1, _⟩ := I.list (.inl (.inl ha))
    obtain ⟨ws, r2, p2, _⟩ := I.list (.inl (.inl hb))
    refine PySem.SeqAt.RcNeAt.lists_lengths p1.isList p2.isList ?_ (by omega) X.prog X.w _ _ ⟨.bl _, H, I, rfl, q⟩
    rw [List.size_toArray, List.size_toArray, ← r1.length, ← r2.length]
    simpa using hl
end L2
namespace SM
open PySem L2
open DL (Ex ExK rAddU rSubU rMulA rDivU rModU rPowU rShlU rShrU rAndU rOrU rXorU rLtU rLeU rGtU rGeU rIsU rNotU)

/-! ### data read as Python's -/
def allSome {α : Type} : List (Option α) → Option (List α)
  | [] => some []
  | some a :: r => (allSome r).map (a :: ·)
  | none :: _ => none
def pyA (A : Hs) : Nat → D → Option PyData
  | _, .non => some .none
  | _, .bl b => some (.bool b)
  | _, .int i => some (.int i)
  | _, .str x => some (.str x)
  | n + 1, .tup l => (allSome (l.map (pyA A n))).map .tuple
  | n + 1, .wt l => (allSome (l.map (pyA A n))).map .tuple
  | n + 1, .scr l => (allSome (l.map (pyA A n))).map .list
  | n + 1, .ref i => match A[i]? with
    | some (.lst l) => (allSome (l.map (pyA A n))).map .list
    | _ => none
  | _, _ => none

/-- two lists of different lengths -/
def unL (A : Hs) (x y : D) : Option Bool := match x, y with
  | .ref i, .ref j => match A[i]?, A[j]? with
    | some (.lst l), some (.lst k) => if l.length = k.length then none else some false
    | _, _ => none
  | _, _ => none
def eqA (A : Hs) (x y : D) : Option Bool := match pyA A 40 x, pyA A 40 y with
  | some p, some q => some (PyData.eqv p q)
  | _, _ => unL A x y
def oB (f : Hs → D → D → Option Bool) (x y : D) (A : Hs) : RE D := match f A x y with
  | some b => .ok (.bl b) A
  | none => .stuck
def oEq : D → D → Hs → RE D := oB eqA
def oNe : D → D → Hs → RE D := oB fun A x y => (eqA A x y).map (!·)
section
variable {K : PySem.W.Frag} {ca : String → Addr} {F F1 F2 H H1 H2 : Hp} {m m1 m2 : List Addr} {A A1 A2 : Hs} {σ : L2.St} {env : Sl} {W : WX} {Q : VK}
theorem dp_all {n : Nat} (R : Rl K ca F m A H) (ih : ∀ {v : V} {d : D} {p : PyData}, Rep K ca F m v d → pyA A n d = some p → Dp K H v p ∧ p.plain = true ∧ p.depth ≤ n) :
    ∀ {vs : List V} {l : List D} {ps : List PyData}, RepL K ca F m vs l → allSome (l.map (pyA A n)) = some ps → DpAll K H vs ps ∧ PyData.plainAll ps = true ∧ PyData.depthAll ps ≤ n
  | _, _, _, .nil, h => by cases h; exact ⟨.nil, rfl, Nat.zero_le _⟩
  | _, _, _, .cons (d := d) (ds := ds) r rs, h => by
    rw [List.map_cons] at h
    cases q : pyA A n d with
    | none => rw [q] at h; cases h
    | some p =>
      rw [q] at h
      unfold allSome at h
      cases q2 : allSome (ds.map (pyA A n)) with
      | none => rw [q2] at h; cases h
      | some ps =>
        rw [q2] at h
        cases h
        obtain ⟨h1, h2, h3⟩ := ih r q
        obtain ⟨g1, g2, g3⟩ := dp_all R ih rs q2
        exact ⟨.cons h1 g1, by unfold PyData.plainAll; rw [h2, g2]; rfl, by unfold PyData.depthAll; omega⟩
theorem dp_of (R : Rl K ca F m A H) : ∀ {n : Nat} {v : V} {d : D} {p : PyData}, Rep K ca F m v d → pyA A n d = some p → Dp K H v p ∧ p.plain = true ∧ p.depth ≤ n := by
  intro n
  induction n with
  | zero =>
    intro v d p r h
    cases r <;> simp [pyA] at h <;> subst h <;> exact ⟨by constructor, rfl, Nat.zero_le _⟩
  | succ n ih =>
    intro v d p r h
    cases r with
    | non => simp [pyA] at h; subst h; exact ⟨.non, rfl, Nat.zero_le _⟩
    | bl b => simp [pyA] at h; subst h; exact ⟨.bl b, rfl, Nat.zero_le _⟩
    | int i => simp [pyA] at h; subst h; exact ⟨.int i, rfl, Nat.zero_le _⟩
    | str x => simp [pyA] at h; subst h; exact ⟨.str x, rfl, Nat.zero_le _⟩
    | ty n => simp [pyA] at h
    | nm x => simp [pyA] at h
    | exc h' => simp [pyA] at h
    | tup s rs =>
      unfold pyA at h
      cases q : allSome (List.map (pyA A n) _) with
      | none => rw [q] at h; cases h
      | some ps =>
        rw [q] at h; cases h
        obtain ⟨h1, h2, h3⟩ := dp_all R ih rs q
        exact ⟨.tup (.inl (.inl (R.fh _ _ s))) h1, h2, by unfold PyData.depth; omega⟩
    | wt s rs =>
      unfold pyA at h
      cases q : allSome (List.map (pyA A n) _) with
      | none => rw [q] at h; cases h
      | some ps =>
        rw [q] at h; cases h
        obtain ⟨h1, h2, h3⟩ := dp_all R ih rs q
        exact ⟨.tup (R.fh.t s) h1, h2, by unfold PyData.depth; omega⟩
    | scr s rs =>
      unfold pyA at h
      cases q : allSome (List.map (pyA A n) _) with
      | none => rw [q] at h; cases h
      | some ps =>
        rw [q] at h; cases h
        obtain ⟨h1, h2, h3⟩ := dp_all R ih rs q
        exact ⟨.lst (R.fh.l s) h1, h2, by unfold PyData.depth; omega⟩
    | ref hm =>
      rename_i a i
      unfold pyA at h
      cases q0 : A[i]? with
      | none => simp [q0] at h
      | some o =>
        cases o with
        | lst l =>
          simp only [q0] at h
          obtain ⟨a', e, ha, vs, h1, h2⟩ := R.at (v := .ref a) q0 (.ref hm)
          cases e
          cases q : allSome (List.map (pyA A n) l) with
          | none => rw [q] at h; cases h
          | some ps =>
            rw [q] at h; cases h
            obtain ⟨h3, h4, h5⟩ := dp_all R ih h2 q
            exact ⟨.lst (.inl (.inl h1)) h3, h4, by unfold PyData.depth; omega⟩
        | dic _ _ _ => simp [q0] at h
        | obj _ _ => simp [q0] at h
theorem po_ok {α β : Type} {Rr : Hp → List Addr → β → α → Prop} {Q : β → Hp → Prop} {v : β} {d : α} (R : Rl K ca F m A H) (r : Rr F m v d) (p : Po K ca Rr F m H W σ Q (.ok d A)) : Q v H := p v F m H R Stp.refl r
theorem unL_of {x y : V} {dx dy : D} {b : Bool} (R : Rl K ca F m A H) (rx : Rep K ca F m x dx) (ry : Rep K ca F m y dy) (h : unL A dx dy = some b) : b = false ∧ UnL H x y := by
  unfold unL at h
  split at h
  · rename_i i j
    cases q1 : A[i]? with
    | none => simp [q1] at h
    | some o1 =>
      cases o1 with
      | lst l =>
        cases q2 : A[j]? with
        | none => simp [q1, q2] at h
        | some o2 =>
          cases o2 with
          | lst k =>
            simp only [q1, q2] at h
            split at h
            · cases h
            · rename_i hn
              obtain ⟨a, e, _, vs, h1, h2⟩ := R.at q1 rx
              obtain ⟨a', e', _, vs', h1', h2'⟩ := R.at q2 ry
              refine ⟨(Option.some.inj h).symm, a, a', vs, vs', e, e', h1, h1', ?_⟩
              rw [h2.length, h2'.length]
              exact hn
          | dic _ _ _ => simp [q1, q2] at h
          | obj _ _ => simp [q1, q2] at h
      | dic _ _ _ => simp [q1] at h
      | obj _ _ => simp [q1] at h
  · cases h
theorem os_eq : OpS K ca (rEqP K) oEq := fun F m A H x y dx dy W σ Q R rx ry p => by
  unfold oEq oB at p
  cases q : eqA A dx dy with
  | none => rw [q] at p; exact p.elim
  | some b =>
    rw [q] at p
    unfold eqA at q
    split at q
    · rename_i p1 p2 q1 q2
      obtain ⟨a1, a2, a3⟩ := dp_of R rx q1
      obtain ⟨b1, b2, b3⟩ := dp_of R ry q2
      cases q
      exact .inl ⟨p1, p2, a1, b1, a2, b2, by omega, po_ok R (.bl _) p⟩
    · obtain ⟨rfl, u⟩ := unL_of R rx ry q
      exact .inr ⟨u, po_ok R (.bl _) p⟩
theorem os_ne : OpS K ca (rNeP K) oNe := fun F m A H x y dx dy W σ Q R rx ry p => by
  unfold oNe oB at p
  cases q : eqA A dx dy with
  | none => simp only [q, Option.map] at p; exact p.elim
  | some b =>
    simp only [q, Option.map] at p
    unfold eqA at q
    split at q
    · rename_i p1 p2 q1 q2
      obtain ⟨a1, a2, a3⟩ := dp_of R rx q1
      obtain ⟨b1, b2, b3⟩ := dp_of R ry q2
      cases q
      exact .inl ⟨p1, p2, a1, b1, a2, b2, by omega, po_ok R (.bl _) p⟩
    · obtain ⟨rfl, u⟩ := unL_of R rx ry q
      exact .inr ⟨u, po_ok R (.bl _) p⟩

/-! ### operators on ints -/
def oII (f : Int → Int → Option D) (x y : D) (A : Hs) : RE D := match x, y with
  | .int i, .int j => match f i j with
    | some d => .ok d A
    | none => .stuck
  | _, _ => .stuck
theorem os_ii {r : R2} {f : Int → Int → Option D} (h : ∀ i j d, f i j = some d → ∃ z, (∀ F m, Rep K ca F m z d) ∧ ∀ H Q, Q z H → r (.int i) (.int j) H Q) : OpS K ca r (oII f) := fun F m A H x y dx dy W σ Q R rx ry p => by
  cases rx with
  | int i =>
    cases ry with
    | int j =>
      unfold oII at p
      simp only at p
      cases q : f i j with
      | none => rw [q] at p; exact p.elim
      | some d =>
        rw [q] at p
        obtain ⟨z, hz, k⟩ := h i j d q
        exact k H Q (po_ok R (hz F m) p)
    | _ => exact p.elim
  | _ => exact p.elim
def oSub := oII fun i j => some (.int (i - j))
def oDiv := oII fun i j => if 0 < j ∧ j.natAbs.log2 < 9000 then some (.int (i / j)) else none
def oMod := oII fun i j => if 0 < j then some (.int (i % j)) else none
open Classical in
noncomputable def oPow := oII fun i j => if CPow i j then some (.int (i ^ j.toNat)) else none
open Classical in
noncomputable def oShl := oII fun i j => if CShl i j then some (.int (i * 2 ^ j.toNat)) else none
def oShr := oII fun i j => if 0 ≤ j then some (.int (i / 2 ^ j.toNat)) else none
def oAnd := oII fun i j => some (.int (Builtin.bitAnd i j))
def oOr := oII fun i j => some (.int (Builtin.bitOr i j))
def oXor := oII fun i j => some (.int (Builtin.bitXor i j))
def oLt := oII fun i j => some (.bl (decide (i < j)))
def oLe := oII fun i j => some (.bl (decide (i ≤ j)))
def oGt := oII fun i j => some (.bl (decide (j < i)))
def oGe := oII fun i j => some (.bl (decide (j ≤ i)))
theorem os_sub : OpS K ca rSubU oSub := os_ii fun i j d h => by cases h; exact ⟨_, fun _ _ => .int _, fun H Q q => ⟨i, j, rfl, rfl, q⟩⟩
theorem os_div : OpS K ca rDivU oDiv := os_ii fun i j d h => by
  split at h
  · rename_i z; cases h; exact ⟨_, fun _ _ => .int _, fun H Q q => ⟨i, j, rfl, rfl, z, q⟩⟩
  · cases h
theorem os_mod : OpS K ca rModU oMod := os_ii fun i j d h => by
  split at h
  · rename_i z; cases h; exact ⟨_, fun _ _ => .int _, fun H Q q => ⟨i, j, rfl, rfl, z, q⟩⟩
  · cases h
theorem os_pow : OpS K ca rPowU oPow := os_ii fun i j d h => by
  split at h
  · rename_i z; cases h; exact ⟨_, fun _ _ => .int _, fun H Q q => ⟨i, j, rfl, rfl, z, q⟩⟩
  · cases h
theorem os_shl : OpS K ca rShlU oShl := os_ii fun i j d h => by
  split at h
  · rename_i z; cases h; exact ⟨_, fun _ _ => .int _, fun H Q q => ⟨i, j, rfl, rfl, z, q⟩⟩
  · cases h
theorem os_shr : OpS K ca rShrU oShr := os_ii fun i j d h => by
  split at h
  · rename_i z; cases h; exact ⟨_, fun _ _ => .int _, fun H Q q => ⟨i, j, rfl, rfl, z, q⟩⟩
  · cases h
theorem os_and : OpS K ca rAndU oAnd := os_ii fun i j d h => by cases h; exact ⟨_, fun _ _ => .int _, fun H Q q => ⟨i, j, rfl, rfl, q⟩⟩
theorem os_or : OpS K ca rOrU oOr := os_ii fun i j d h => by cases h; exact ⟨_, fun _ _ => .int _, fun H Q q => ⟨i, j, rfl, rfl, q⟩⟩
theorem os_xor : OpS K ca rXorU oXor := os_ii fun i j d h => by cases h; exact ⟨_, fun _ _ => .int _, fun H Q q => ⟨i, j, rfl, rfl, q⟩⟩
theorem os_lt : OpS K ca rLtU oLt := os_ii fun i j d h => by cases h; exact ⟨_, fun _ _ => .bl _, fun H Q q => ⟨i, j, rfl, rfl, q⟩⟩
theorem os_le : OpS K ca rLeU oLe := os_ii fun i j d h => by cases h; exact ⟨_, fun _ _ => .bl _, fun H Q q => ⟨i, j, rfl, rfl, q⟩⟩
theorem os_gt : OpS K ca rGtU oGt := os_ii fun i j d h => by cases h; exact ⟨_, fun _ _ => .bl _, fun H Q q => ⟨i, j, rfl, rfl, q⟩⟩
theorem os_ge : OpS K ca rGeU oGe := os_ii fun i j d h => by cases h; exact ⟨_, fun _ _ => .bl _, fun H Q q => ⟨i, j, rfl, rfl, q⟩⟩
def oNeg (x : D) (A : Hs) : RE D := match x with
  | .int i => .ok (.int (-i)) A
  | _ => .stuck
theorem us_neg : UnS K ca (rU fun i => .int (-i)) oNeg := fun F m A H x dx W σ Q R rx p => by
  cases rx with
  | int i => exact ⟨i, rfl, po_ok R (.int _) p⟩
  | _ => exact p.elim
/-- a list that may be read -/
def seqL (A : Hs) : D → Option (List D)
  | .ref i => match A[i]? with
    | some (.lst l) => some l
    | _ => none
  | .scr l => some l
  | _ => none
def seqT : D → Option (List D)
  | .tup l => some l
  | .wt l => some l
  | _ => none
theorem seqL_at {x : V} {d : D} {l : List D} (R : Rl K ca F m A H) (r : Rep K ca F m x d) (h : seqL A d = some l) : ∃ a vs, x = .ref a ∧ SqL K H a vs ∧ RepL K ca F m vs l := by
  cases r with
  | ref hm =>
    rename_i a i
    unfold seqL at h
    simp only at h
    cases q : A[i]? with
    | none => simp [q] at h
    | some o =>
      cases o with
      | lst l' =>
        simp [q] at h; subst h
        obtain ⟨a', e, ha, vs, h1, h2⟩ := R.at (v := .ref a) q (.ref hm)
        cases e
        exact ⟨a, vs, rfl, .inl (.inl h1), h2⟩
      | dic _ _ _ => simp [q] at h
      | obj _ _ => simp [q] at h
  | scr s rs => cases h; exact ⟨_, _, rfl, R.fh.l s, rs⟩
  | _ => cases h
theorem seqT_at {x : V} {d : D} {l : List D} (R : Rl K ca F m A H) (r : Rep K ca F m x d) (h : seqT d = some l) : ∃ a vs, x = .ref a ∧ SqT K H a vs ∧ RepL K ca F m vs l := by
  cases r with
  | tup s rs => cases h; exact ⟨_, _, rfl, .inl (.inl (R.fh _ _ s)), rs⟩
  | wt s rs => cases h; exact ⟨_, _, rfl, R.fh.t s, rs⟩
  | _ => cases h
/-- a list of the plain heap -/
theorem lst_at {x : V} {i : Nat} {l : List D} (R : Rl K ca F m A H) (r : Rep K ca F m x (.ref i)) (h : A[i]? = some (.lst l)) : ∃ a vs, x = .ref a ∧ m[i]? = some a ∧ H a = some (.lst vs) ∧ RepL K ca F m vs l := by
  obtain ⟨a, e, ha, vs, h1, h2⟩ := R.at h r
  exact ⟨a, vs, e, ha, h1, h2⟩
theorem lst_put {i : Nat} {l' : List D} {vs' : List V} (R : Rl K ca F m A H) {a : Addr} {vs : List V} (ha : m[i]? = some a) (h1 : H a = some (.lst vs)) (r : RepL K ca F m vs' l') :
    Rl K ca F m (A.set i (.lst l')) (upd H a (.lst vs')) ∧ Stp F m H F m (upd H a (.lst vs')) :=
  R.put (o' := .lst l') ha (fun od w z => by rw [h1] at z; cases z) ⟨vs', upd_same, r⟩

/-! ### + -/
def oAdd (x y : D) (A : Hs) : RE D := match x, y with
  | .int i, .int j => .ok (.int (i + j)) A
  | .str a, .str b => if a.length + b.length ≤ sizeLine then .ok (.str (a ++ b)) A else .stuck
  | .tup l, .tup k => if l.length + k.length ≤ sizeLine then .ok (.tup (l ++ k)) A else .stuck
  | .wt l, .tup k => if l ≠ [] ∧ l.length + k.length ≤ sizeLine then .ok (if k.isEmpty then .wt l else .tup (l ++ k)) A else .stuck
  | .tup l, .wt k => if k ≠ [] ∧ l.length + k.length ≤ sizeLine then .ok (if l.isEmpty then .wt k else .tup (l ++ k)) A else .stuck
  | .ref i, .ref j => match A[i]?, A[j]? with
    | some (.lst l), some (.lst k) => if l.length + k.length ≤ sizeLine then alloc A (.lst (l ++ k)) else .stuck
    | _, _ => .stuck
  | _, _ => .stuck
theorem os_add : OpS K ca (rAddU K) oAdd := fun F m A H x y dx dy W σ Q R rx ry p => by
  cases rx with
  | int i =>
    cases ry with
    | int j => exact .inl ⟨i, j, rfl, rfl, po_ok R (.int _) p⟩
    | _ => exact p.elim
  | str a =>
    cases ry with
    | str b =>
      unfold oAdd at p
      simp only at p
      split at p
      · rename_i hl; exact .inr (.inl ⟨a, b, rfl, rfl, hl, po_ok R (.str _) p⟩)
      · exact p.elim
    | _ => exact p.elim
  | tup s rs =>
    cases ry with
    | tup s' rs' =>
      rename_i a vs l b ws k
      unfold oAdd at p
      simp only at p
      split at p
      · rename_i hl
        refine .inr (.inr (.inl ⟨a, b, vs, ws, rfl, rfl, .inl (.inl (R.fh _ _ s)), .inl (.inl (R.fh _ _ s')), by rw [rs.length, rs'.length]; exact hl, fun e => ?_, fun _ e => ?_, fun _ _ q hq => ?_⟩))
        · subst e; cases rs; exact po_ok R (.tup s' rs') p
        · subst e; cases rs'; rw [List.append_nil] at p; exact po_ok R (.tup s rs) p
        · obtain ⟨R2, g2⟩ := R.new (u := .tup (vs ++ ws)) hq
          exact p _ _ _ _ R2 g2 (.tup upd_same ((rs.append rs').mono g2.ff g2.mm))
      · exact p.elim
    | wt s' rs' =>
      rename_i a vs l b ws k
      unfold oAdd at p
      simp only at p
      split at p
      · rename_i hl
        refine .inr (.inr (.inl ⟨a, b, vs, ws, rfl, rfl, .inl (.inl (R.fh _ _ s)), R.fh.t s', by rw [rs.length, rs'.length]; exact hl.2, fun e => ?_, fun _ e => ?_, fun n1 _ q hq => ?_⟩))
        · subst e; cases rs; exact po_ok R (.wt s' rs') p
        · subst e; cases rs'; exact absurd rfl hl.1
        · obtain ⟨R2, g2⟩ := R.new (u := .tup (vs ++ ws)) hq
          have : l.isEmpty = false := by
            cases rs with
            | nil => exact absurd rfl n1
            | cons _ _ => rfl
          rw [this] at p
          exact p _ _ _ _ R2 g2 (.tup upd_same ((rs.append rs').mono g2.ff g2.mm))
      · exact p.elim
    | _ => exact p.elim
  | wt s rs =>
    cases ry with
    | tup s' rs' =>
      rename_i a vs l b ws k
      unfold oAdd at p
      simp only at p
      split at p
      · rename_i hl
        refine .inr (.inr (.inl ⟨a, b, vs, ws, rfl, rfl, R.fh.t s, .inl (.inl (R.fh _ _ s')), by rw [rs.length, rs'.length]; exact hl.2, fun e => ?_, fun _ e => ?_, fun _ n2 q hq => ?_⟩))
        · subst e; cases rs; exact absurd rfl hl.1
        · subst e; cases rs'; exact po_ok R (.wt s rs) p
        · obtain ⟨R2, g2⟩ := R.new (u := .tup (vs ++ ws)) hq
          have : k.isEmpty = false := by
            cases rs' with
            | nil => exact absurd rfl n2
            | cons _ _ => rfl
          rw [this] at p
          exact p _ _ _ _ R2 g2 (.tup upd_same ((rs.append rs').mono g2.ff g2.mm))
      · exact p.elim
    | _ => exact p.elim
  | ref hm =>
    cases ry with
    | ref hm' =>
      rename_i a i b j
      unfold oAdd at p
      simp only at p
      split at p
      · rename_i l k q1 q2
        split at p
        · rename_i hl
          obtain ⟨a', vs, e1, h1, h2, h3⟩ := lst_at R (.ref hm) q1
          obtain ⟨b', ws, e2, h4, h5, h6⟩ := lst_at R (.ref hm') q2
          refine .inr (.inr (.inr ⟨a', b', vs, ws, e1, e2, h2, h5, by rw [h3.length, h6.length]; exact hl, fun q hq => ?_⟩))
          exact po_alloc (o := .lst (l ++ k)) R hq ⟨_, upd_same, (h3.append h6).mono (Ex.refl _) ⟨_, rfl⟩⟩ p
        · exact p.elim
      · exact p.elim
    | _ => exact p.elim
  | _ => exact p.elim
/-! ### * -/
open Classical in
noncomputable def oMul (x y : D) (A : Hs) : RE D := match x, y with
  | .int i, .int j => if CMul i j ∨ CMulX i j then .ok (.int (i * j)) A else .stuck
  | .tup l, .int j => if l.length ≤ 1000 ∧ -1000 ≤ j ∧ j ≤ 4000 then .ok (.tup (List.replicate j.toNat l).flatten) A else .stuck
  | .ref i, .int j => match A[i]? with
    | some (.lst l) => if -(2 ^ 63) ≤ j ∧ j < 2 ^ 63 ∧ l.length * j.toNat ≤ sizeLine then alloc A (.lst (List.replicate j.toNat l).flatten) else .stuck
    | _ => .stuck
  | _, _ => .stuck
theorem os_mul : OpS K ca (rMulA K) oMul := fun F m A H x y dx dy W σ Q R rx ry p => by
  cases ry with
  | int j =>
    cases rx with
    | int i =>
      unfold oMul at p
      simp only at p
      split at p
      · rename_i hc
        refine .inl ?_
        rcases hc with hc | hc
        · exact .inl ⟨i, j, rfl, rfl, hc, po_ok R (.int _) p⟩
        · exact .inr (.inl ⟨i, j, rfl, rfl, hc, po_ok R (.int _) p⟩)
      · exact p.elim
    | tup s rs =>
      rename_i a vs l
      unfold oMul at p
      simp only at p
      split at p
      · rename_i hc
        have lv := rs.length
        refine .inr ⟨a, j, vs, rfl, rfl, .inl (.inl (R.fh _ _ s)), hc.2.2, hc.2.1, by omega, fun e => ?_, fun e => ?_, fun n1 n2 q hq => ?_⟩
        · subst e; cases rs
          have : (List.replicate j.toNat ([] : List D)).flatten = [] := by simp
          rw [this] at p
          exact po_ok R (.tup s .nil) p
        · subst e
          have : (List.replicate (1 : Int).toNat l).flatten = l := by simp
          rw [this] at p
          exact po_ok R (.tup s rs) p
        · obtain ⟨R2, g2⟩ := R.new (u := .tup (List.replicate j.toNat vs).flatten) hq
          exact p _ _ _ _ R2 g2 (.tup upd_same ((rs.flatRep _).mono g2.ff g2.mm))
      · exact p.elim
    | ref hm =>
      rename_i a i
      unfold oMul at p
      simp only at p
      split at p
      · rename_i l q1
        split at p
        · rename_i hc
          obtain ⟨a', vs, e1, h1, h2, h3⟩ := lst_at R (.ref hm) q1
          refine .inl (.inr (.inr ⟨a', j, vs, e1, rfl, h2, hc.1, hc.2.1, by rw [h3.length]; exact hc.2.2, fun q hq => ?_⟩))
          exact po_alloc (o := .lst (List.replicate j.toNat l).flatten) R hq ⟨_, upd_same, (h3.flatRep _).mono (Ex.refl _) ⟨_, rfl⟩⟩ p
        · exact p.elim
      · exact p.elim
    | _ => exact p.elim
  | _ => cases rx <;> exact p.elim
/-! ### is -/
def isNon : D → Bool
  | .non => true
  | _ => false
theorem rep_non {v : V} {d : D} (h : Rep K ca F m v d) : decide (v = V.non) = isNon d := by
  cases h <;> first | rfl | simp [isNon]
def oIs (x y : D) (A : Hs) : RE D := match y with
  | .non => .ok (.bl (isNon x)) A
  | .bl c => match x with
    | .bl b => .ok (.bl (decide (b = c))) A
    | _ => .stuck
  | _ => .stuck
def oIsNot (x y : D) (A : Hs) : RE D := match y with
  | .non => .ok (.bl (!isNon x)) A
  | .bl c => match x with
    | .bl b => .ok (.bl (!decide (b = c))) A
    | _ => .stuck
  | _ => .stuck
theorem os_is : OpS K ca rIsU oIs := fun F m A H x y dx dy W σ Q R rx ry p => by
  cases ry with
  | non => refine .inl ⟨rfl, ?_⟩; rw [rep_non rx]; exact po_ok R (.bl _) p
  | bl c =>
    cases rx with
    | bl b => exact .inr ⟨b, c, rfl, rfl, po_ok R (.bl _) p⟩
    | _ => exact p.elim
  | _ => exact p.elim
theorem os_isnot : OpS K ca rNotU oIsNot := fun F m A H x y dx dy W σ Q R rx ry p => by
  cases ry with
  | non => refine .inl ⟨rfl, ?_⟩; rw [rep_non rx]; exact po_ok R (.bl _) p
  | bl c =>
    cases rx with
    | bl b => exact .inr ⟨b, c, rfl, rfl, po_ok R (.bl _) p⟩
    | _ => exact p.elim
  | _ => exact p.elim
/-! ### subscripts -/
def oIx (x y : D) (A : Hs) : RE D := match y with
  | .int i => match seqL A x with
    | some l => match atI l i with
      | some d => .ok d A
      | none => .stuck
    | none => match seqT x with
      | some l => match atI l i with
        | some d => .ok d A
        | none => .stuck
      | none => match x with
        | .str z => if z.length ≤ sizeLine then match atI z.cps.toList i with
            | some c => .ok (.str ⟨#[c]⟩) A
            | none => .stuck
          else .stuck
        | _ => .stuck
  | _ => .stuck
theorem atI_rep {vs : List V} {l : List D} {i : Int} {d : D} (p : RepL K ca F m vs l) (h : atI l i = some d) : ∃ v, atI vs i = some v ∧ Rep K ca F m v d := by
  unfold atI at h ⊢
  obtain ⟨n, e, g⟩ := Option.bind_eq_some_iff.mp h
  obtain ⟨z, z1, z2⟩ := p.get g
  exact ⟨z, by rw [p.length, e]; exact z1, z2⟩
theorem os_ix : OpS K ca (rIx K) oIx := fun F m A H x y dx dy W σ Q R rx ry p => by
  cases ry with
  | int i =>
    unfold oIx at p
    simp only at p
    split at p
    · rename_i l hl
      split at p
      · rename_i d hd
        obtain ⟨a, vs, e, h1, h2⟩ := seqL_at R rx hl
        obtain ⟨v, h3, h4⟩ := atI_rep h2 hd
        exact .inl ⟨a, vs, i, v, e, rfl, h1, h3, po_ok R h4 p⟩
      · exact p.elim
    · split at p
      · rename_i l hl
        split at p
        · rename_i d hd
          obtain ⟨a, vs, e, h1, h2⟩ := seqT_at R rx hl
          obtain ⟨v, h3, h4⟩ := atI_rep h2 hd
          exact .inr (.inl ⟨a, vs, i, v, e, rfl, h1, h3, po_ok R h4 p⟩)
        · exact p.elim
      · cases rx with
        | str z =>
          simp only at p
          split at p
          · rename_i hz
            split at p
            · rename_i c hc
              exact .inr (.inr ⟨z, i, c, rfl, rfl, hz, hc, po_ok R (.str _) p⟩)
            · exact p.elim
          · exact p.elim
        | _ => exact p.elim
  | _ => exact p.elim
def cutD {α : Type} (xs : List α) (lo hi : Option Int) : List α := (xs.drop (HT.sIx xs.length 0 lo)).take (HT.sIx xs.length xs.length hi - HT.sIx xs.length 0 lo)
theorem cut_rep {vs : List V} {l : List D} {lo hi : Option Int} (h : RepL K ca F m vs l) : RepL K ca F m (cutV vs lo hi) (cutD l lo hi) := by
  unfold cutV cutD
  rw [h.length]
  exact (h.drop _).take _
def oSl (x : D) (lo hi : Option Int) (A : Hs) : RE D := match seqL A x with
  | some l => alloc A (.lst (cutD l lo hi))
  | none => match x with
    | .tup l => .ok (.tup (cutD l lo hi)) A
    | .str z => if z.length ≤ sizeLine then .ok (.str (cutS z lo hi)) A else .stuck
    | _ => .stuck
theorem sls_all : SlS K ca (DL.rSlU K) oSl := fun F m A H x dx lo hi W σ Q R rx p => by
  unfold oSl at p
  split at p
  · rename_i l hl
    obtain ⟨a, vs, e, h1, h2⟩ := seqL_at R rx hl
    exact .inl ⟨a, vs, e, h1, fun q hq => po_alloc (o := .lst (cutD l lo hi)) R hq ⟨_, upd_same, (cut_rep h2).mono (Ex.refl _) ⟨_, rfl⟩⟩ p⟩
  · cases rx with
    | @tup a vs l s rs =>
      refine .inr (.inl ⟨a, vs, rfl, .inl (.inl (R.fh _ _ s)), fun hw => ?_, fun _ q hq => ?_⟩)
      · have e : cutD l lo hi = l := by
          unfold cutD
          rw [← rs.length, hw.1, hw.2]
          simp [rs.length]
        simp only [e] at p
        exact po_ok R (.tup s rs) p
      · obtain ⟨R2, g2⟩ := R.new (u := .tup (cutV vs lo hi)) hq
        exact p _ _ _ _ R2 g2 (.tup upd_same ((cut_rep rs).mono g2.ff g2.mm))
    | str z =>
      simp only at p
      split at p
      · rename_i hz; exact .inr (.inr ⟨z, rfl, hz, po_ok R (.str _) p⟩)
      · exact p.elim
    | _ => exact p.elim
def oRev (x : D) (A : Hs) : RE D := match seqL A x with
  | some l => alloc A (.lst l.reverse)
  | none => .stuck
/-! ### which of two readings -/
theorem Sim.pick {α β : Type} {Rr : Hp → List Addr → β → α → Prop} {t u : L2.St → Hp → (β → Hp → Prop) → Prop} {f g h : Sl → Hs → RE α} (h1 : Sim K ca Rr W t g) (h2 : Sim K ca Rr W u h) (k : ∀ env A, f env A = g env A ∨ f env A = h env A) : Sim K ca Rr W (fun σ H Q => t σ H Q ∨ u σ H Q) f := fun F m A σ H env Q R S p => by
  rcases k env A with q | q
  · rw [q] at p; exact .inl (h1 F m A σ H env Q R S p)
  · rw [q] at p; exact .inr (h2 F m A σ H env Q R S p)
end
end SM

namespace L2
open PySem PySem.Spec PyProof.Rows
/-- x in a list or tuple of data -/
def rInP (K : PySem.W.Frag) (neg : Bool) : R2 := fun x y H Q => ∃ d ds, Dp K H x d ∧ (Dp K H y (.list ds) ∨ Dp K H y (.tuple ds)) ∧ d.plain = true ∧ PyData.plainAll ds = true ∧ d.depth ≤ 60 ∧ Q (.bl (if neg then !(ds.any fun z => PyData.eqv z d) else ds.any fun z => PyData.eqv z d)) H
theorem op_inP {X : Cx} {K : PySem.W.Frag} (hu : X.A.units + 65 < cLine) (eK : X.K = K := by rfl) : OpR X (compareOp .In) (rInP K false) := by
  subst eK
  intro pins s σ H x y v u Q I rx ry h
  obtain ⟨d, ds, hd, he, sd, se, dp, q⟩ := h
  obtain ⟨as, r1⟩ := Dp.reads I d x v hd rx
  rcases he with he | he
  · obtain ⟨bs, r2⟩ := Dp.reads I _ y u he ry
    exact PySem.SeqAt.in_list_data r2 r1 se sd (by omega) ⟨.bl _, H, I, rfl, q⟩
  · obtain ⟨bs, r2⟩ := Dp.reads I _ y u he ry
    exact PySem.SeqAt.in_tuple_data r2 r1 se sd (by omega) ⟨.bl _, H, I, rfl, q⟩
theorem op_notInP {X : Cx} {K : PySem.W.Frag} (hu : X.A.units + 65 < cLine) (eK : X.K = K := by rfl) : OpR X (compareOp .NotIn) (rInP K true) := by
  subst eK
  intro pins s σ H x y v u Q I rx ry h
  obtain ⟨d, ds, hd, he, sd, se, dp, q⟩ := h
  obtain ⟨as, r1⟩ := Dp.reads I d x v hd rx
  rcases he with he | he
  · obtain ⟨bs, r2⟩ := Dp.reads I _ y u he ry
    exact PySem.SeqAt.notIn_list_data r2 r1 se sd (by omega) ⟨.bl _, H, I, rfl, q⟩
  · obtain ⟨bs, r2⟩ := Dp.reads I _ y u he ry
    exact PySem.SeqAt.notIn_tuple_data r2 r1 se sd (by omega) ⟨.bl _, H, I, rfl, q⟩
/-- y in d -/
def rDIn (neg : Bool) : R2 := fun y x H Q => ∃ a o, x = .ref a ∧ DGet H a y o ∧ Q (.bl (if neg then !o.isSome else o.isSome)) H
theorem op_dIn {X : Cx} (hu : X.A.units + 65 < cLine) : OpR X (compareOp .In) (rDIn false) := by
  intro pins s σ H y x iv u Q I ry rx h
  obtain ⟨a, ov, ex, g, q2⟩ := h
  subst ex
  obtain rfl : u = Value.ref a := rx
  exact d_in (by omega) I g ry fun s3 I3 => ⟨.bl ov.isSome, H, I3, rfl, q2⟩
theorem op_dNotIn {X : Cx} (hu : X.A.units + 65 < cLine) : OpR X (compareOp .NotIn) (rDIn true) := by
  intro pins s σ H y x iv u Q I ry rx h
  obtain ⟨a, ov, ex, g, q2⟩ := h
  subst ex
  obtain rfl : u = Value.ref a := rx
  exact d_notIn (by omega) I g ry fun s3 I3 => ⟨.bl (!ov.isSome), H, I3, rfl, q2⟩
def rInAll (K : PySem.W.Frag) (neg : Bool) : R2 := fun x y H Q => rInP K neg x y H Q ∨ (DL.rSign neg x y H Q ∨ rDIn neg x y H Q)
theorem op_inAll {X : Cx} {K : PySem.W.Frag} (hu : X.A.units + 65 < cLine) (e : X.K = K := by rfl) : OpR X (compareOp .In) (rInAll K false) := DL.OpR.or (op_inP hu e) (DL.OpR.or op_in_sign (op_dIn hu))
theorem op_notInAll {X : Cx} {K : PySem.W.Frag} (hu : X.A.units + 65 < cLine) (e : X.K = K := by rfl) : OpR X (compareOp .NotIn) (rInAll K true) := DL.OpR.or (op_notInP hu e) (DL.OpR.or op_notIn_sign (op_dNotIn hu))
theorem op_eqPK {X : Cx} {K : PySem.W.Frag} (hu : X.A.units + 65 < cLine) (e : X.K = K := by rfl) : OpR X (compareOp .Eq) (rEqP K) := by subst e; exact op_eqP (by omega)
theorem op_nePK {X : Cx} {K : PySem.W.Frag} (hu : X.A.units + 65 < cLine) (e : X.K = K := by rfl) : OpR X (compareOp .NotEq) (rNeP K) := by subst e; exact op_neP (by omega)
end L2
namespace SM
open PySem L2
open DL (Ex ExK rLenU rAbs rMax2 rMin2 rInt1 rListOf rTupleOf iSeqU rIsiU InC)
section
variable {K : PySem.W.Frag} {ca : String → Addr} {F F1 F2 H H1 H2 : Hp} {m m1 m2 : List Addr} {A A1 A2 : Hs} {σ : L2.St} {env : Sl} {W : WX} {Q : VK}
variable {ta tb tc te : TE} {a b c : E} {i : Nat} {d : D} {ts : TA} {as : As} {x : V} {dx : D}
/-! ### dicts -/
def keyK : D → Option Key
  | .int i => some (.inl i)
  | .str x => some (.inr x)
  | _ => none
def keysK : List D → Option (List Key)
  | [] => some []
  | d :: r => match keyK d, keysK r with
    | some k, some ks => some (k :: ks)
    | _, _ => none
/-- whether two keys are one -/
def keq : D → D → Bool
  | .int i, .int j => decide (i = j)
  | .str x, .str y => decide (x = y)
  | .tup l, .tup k => keqL l k
  | _, _ => false
where keqL : List D → List D → Bool
  | [], [] => true
  | .int i :: r, .int j :: s => decide (i = j) && keqL r s
  | .str x :: r, .str y :: s => decide (x = y) && keqL r s
  | _, _ => false
def kget : List (D × D) → D → Option D
  | [], _ => none
  | (k, v) :: r, y => if keq k y then some v else kget r y
def khas (l : List (D × D)) (y : D) : Bool := l.any fun kv => keq kv.1 y
def kput (l : List (D × D)) (y v : D) : List (D × D) := if khas l y then l.map (fun kv => if keq kv.1 y then (kv.1, v) else kv) else l ++ [(y, v)]
def kdel (l : List (D × D)) (y : D) : List (D × D) := l.filter fun kv => !keq kv.1 y
/-- y may be a key of a dict of the kind t -/
def keyOk : Bool → D → Bool
  | false, y => (keyK y).isSome
  | true, .tup l => (keysK l).isSome
  | true, _ => false
theorem keyK_kD {y : D} {k : Key} (h : keyK y = some k) : y = kD k := by
  cases y <;> simp [keyK] at h <;> subst h <;> rfl
theorem keysK_kT : ∀ {l : List D} {ks : List Key}, keysK l = some ks → l = ks.map kD
  | [], ks, h => by cases h; rfl
  | d :: r, ks, h => by
    unfold keysK at h
    cases q : keyK d with
    | none => rw [q] at h; cases h
    | some k =>
      cases q2 : keysK r with
      | none => rw [q, q2] at h; cases h
      | some s => rw [q, q2] at h; cases h; rw [List.map_cons, ← keyK_kD q, ← keysK_kT q2]
theorem keq_kD (a b : Key) : keq (kD a) (kD b) = decide (a = b) := by
  cases a <;> cases b <;> simp [kD, keq]
theorem keqL_kT : ∀ (a b : List Key), keq.keqL (a.map kD) (b.map kD) = decide (a = b)
  | [], [] => by simp [keq.keqL]
  | [], y :: s => by cases y <;> simp [keq.keqL]
  | x :: r, [] => by cases x <;> simp [keq.keqL]
  | x :: r, y :: s => by
    have ih := keqL_kT r s
    cases x <;> cases y <;> simp [kD, keq.keqL, ih]
theorem keq_kT (a b : List Key) : keq (kT a) (kT b) = decide (a = b) := by
  unfold kT keq; exact keqL_kT a b
section
variable {κ : Type} [DecidableEq κ] {kd : κ → D}
theorem kget_rep (hk : ∀ a b, keq (kd a) (kd b) = decide (a = b)) {k : κ} : ∀ {kvs : List (κ × V)} {l : List (D × D)}, KvR K ca F m kd kvs l → (∀ d, kget l (kd k) = some d → ∃ v, valV kvs k = some v ∧ Rep K ca F m v d) ∧ (kget l (kd k) = none → valV kvs k = none)
  | _, _, .nil => ⟨fun d h => by simp [kget] at h, fun _ => rfl⟩
  | _, _, .cons (k := k') (v := v') h r => by
    have ih := kget_rep hk (k := k) r
    unfold kget valV
    by_cases q : k' = k
    · subst q
      simp only [hk, decide_true, if_true, List.find?_cons]
      exact ⟨fun d e => by cases e; exact ⟨v', by simp, h⟩, fun e => by cases e⟩
    · rw [hk, decide_eq_false q]
      simp only [Bool.false_eq_true, if_false, List.find?_cons, decide_eq_false q]
      exact ih
theorem khas_rep (hk : ∀ a b, keq (kd a) (kd b) = decide (a = b)) {k : κ} : ∀ {kvs : List (κ × V)} {l : List (D × D)}, KvR K ca F m kd kvs l → khas l (kd k) = kvs.any fun kv => decide (kv.1 = k)
  | _, _, .nil => rfl
  | _, _, .cons h r => by
    have ih := khas_rep hk (k := k) r
    unfold khas at ih ⊢
    rw [List.any_cons, List.any_cons, ih, hk]
theorem KvR.snoc {k : κ} {v : V} (hv : Rep K ca F m v d) : ∀ {kvs : List (κ × V)} {l : List (D × D)}, KvR K ca F m kd kvs l → KvR K ca F m kd (kvs ++ [(k, v)]) (l ++ [(kd k, d)])
  | _, _, .nil => .cons hv .nil
  | _, _, .cons h r => .cons h (KvR.snoc hv r)
theorem KvR.remap (hk : ∀ a b, keq (kd a) (kd b) = decide (a = b)) {k : κ} {v : V} (hv : Rep K ca F m v d) : ∀ {kvs : List (κ × V)} {l : List (D × D)}, KvR K ca F m kd kvs l → KvR K ca F m kd (kvs.map fun kv => if kv.1 = k then (kv.1, v) else kv) (l.map fun kv => if keq kv.1 (kd k) then (kv.1, d) else kv)
  | _, _, .nil => .nil
  | _, _, .cons (k := k') h r => by
    rw [List.map_cons, List.map_cons]
    by_cases q : k' = k
    · simp only [q, hk, decide_true, if_true]; exact .cons hv (KvR.remap hk hv r)
    · simp only [q, hk, decide_false, Bool.false_eq_true, if_false]; exact .cons h (KvR.remap hk hv r)
theorem kput_rep (hk : ∀ a b, keq (kd a) (kd b) = decide (a = b)) {k : κ} {v : V} (hv : Rep K ca F m v d) {kvs : List (κ × V)} {l : List (D × D)} (h : KvR K ca F m kd kvs l) : KvR K ca F m kd (putK kvs k v) (kput l (kd k) d) := by
  unfold putK kput
  rw [khas_rep hk h]
  split
  · exact KvR.remap hk hv h
  · exact KvR.snoc hv h
theorem kdel_rep (hk : ∀ a b, keq (kd a) (kd b) = decide (a = b)) {k : κ} : ∀ {kvs : List (κ × V)} {l : List (D × D)}, KvR K ca F m kd kvs l → KvR K ca F m kd (dropK kvs k) (kdel l (kd k))
  | _, _, .nil => .nil
  | _, _, .cons (k := k') h r => by
    have ih := kdel_rep hk (k := k) r
    unfold dropK kdel at ih ⊢
    rw [List.filter_cons, List.filter_cons]
    by_cases q : k' = k
    · simp only [q, hk, decide_true, Bool.not_true, Bool.false_eq_true, if_false, ne_eq, not_true_eq_false, decide_false]; exact ih
    · simp only [q, hk, decide_false, Bool.not_false, if_true, ne_eq, not_false_eq_true, decide_true]; exact .cons h ih
end
/-- the dict at hand: its kind, its pairs -/
def dicAt (A : Hs) : D → Option (Bool × List (D × D))
  | .ref i => match A[i]? with
    | some (.dic t _ l) => some (t, l)
    | _ => none
  | _ => none
theorem rdK {lk : Bool} {a : Addr} {u : HO} (h : At H a lk u) : L2.Rd H a u := by
  cases lk with
  | false => exact .inl h
  | true => exact .inr h
theorem tup_key {y : V} {l : List D} {ks : List Key} (R : Rl K ca F m A H) (r : Rep K ca F m y (.tup l)) (h : keysK l = some ks) : ∃ b, y = .ref b ∧ H b = some (.tup (ks.map kV)) := by
  cases r with
  | tup s rs =>
    refine ⟨_, rfl, ?_⟩
    have e := keysK_kT h
    subst e
    have : ∀ {vs : List V} {ks : List Key}, RepL K ca F m vs (ks.map kD) → vs = ks.map kV := by
      intro vs ks
      induction ks generalizing vs with
      | nil => intro r; cases r; rfl
      | cons k ks ih =>
        intro r
        cases r with
        | cons q t =>
          rw [List.map_cons, ih t]
          cases k with
          | inl i => cases q; rfl
          | inr x => cases q; rfl
    rw [← this rs]
    exact R.fh _ _ s
/-- what the dict holds at a key -/
theorem dic_get {x y : V} {dy : D} {t : Bool} {l : List (D × D)} (R : Rl K ca F m A H) (rx : Rep K ca F m x dx) (ry : Rep K ca F m y dy) (h : dicAt A dx = some (t, l)) (hk : keyOk t dy = true) : ∃ a o, x = .ref a ∧ DGet H a y o ∧ L2.IsD H a ∧ (∀ d, kget l dy = some d → ∃ v, o = some v ∧ Rep K ca F m v d) ∧ (kget l dy = none → o = none) := by
  cases dx with
  | ref i =>
    unfold dicAt at h
    cases q : A[i]? with
    | none => simp [q] at h
    | some o =>
      cases o with
      | dic t' lk l' =>
        simp [q] at h
        obtain ⟨rfl, rfl⟩ := h
        obtain ⟨a, e, ha, r⟩ := R.at q rx
        cases t' with
        | false =>
          obtain ⟨kvs, h1, h2⟩ := r
          cases z : keyK dy with
          | none => simp [keyOk, z] at hk
          | some k =>
            have e2 := keyK_kD z
            subst e2
            obtain ⟨g1, g2⟩ := kget_rep keq_kD (k := k) h2
            refine ⟨a, valV kvs k, e, .inl ⟨kvs, k, rdK h1, ?_, rfl⟩, .inl ⟨kvs, rdK h1⟩, g1, g2⟩
            cases k with
            | inl i => cases ry; rfl
            | inr x => cases ry; rfl
        | true =>
          obtain ⟨kvs, h1, h2⟩ := r
          cases dy with
          | tup dl =>
              cases z : keysK dl with
            | none => simp [keyOk, z] at hk
            | some ks =>
              obtain ⟨b, e3, h3⟩ := tup_key R ry z
              have e2 := keysK_kT z
              subst e2
              obtain ⟨g1, g2⟩ := kget_rep keq_kT (k := ks) h2
              exact ⟨a, valV kvs ks, e, .inr ⟨kvs, ks, b, rdK h1, e3, h3, rfl⟩, .inr ⟨kvs, rdK h1⟩, g1, g2⟩
          | _ => simp [keyOk] at hk
      | lst _ => simp [q] at h
      | obj _ _ => simp [q] at h
  | _ => simp [dicAt] at h
/-- d[y] -/
def oDGet (x y : D) (A : Hs) : RE D := match dicAt A x with
  | some (t, l) => if keyOk t y then match kget l y with
      | some d => .ok d A
      | none => .stuck
    else .stuck
  | none => .stuck
def rDGet : R2 := fun x y H Q => ∃ a v, x = .ref a ∧ DGet H a y (some v) ∧ Q v H
theorem os_dget : OpS K ca rDGet oDGet := fun F m A H x y dx dy W σ Q R rx ry p => by
  unfold oDGet at p
  split at p
  · rename_i t l hd
    split at p
    · rename_i hk
      split at p
      · rename_i d hg
        obtain ⟨a, o, e, h1, _, h2, h3⟩ := dic_get R rx ry hd hk
        obtain ⟨v, e2, rv⟩ := h2 d hg
        subst e2
        exact ⟨a, v, e, h1, po_ok R rv p⟩
      · exact p.elim
    · exact p.elim
  · exact p.elim
theorem pe_dgetO {X : Cx} {o i : Expr} {pos : Pos} {td ty : TE} (hu : X.A.units + 65 < cLine) (ho : PE X o td) (hi : PE X i ty) (hs : NoSl i) : PE X (.Subscript o i pos) (tOp rDGet td ty) := pe_dget (by omega) ho hi hs
/-- y in c -/
def inData (A : Hs) (x c : D) : Option Bool := match pyA A 40 x, pyA A 40 c with
  | some p, some (.list ps) => some (ps.any fun z => PyData.eqv z p)
  | some p, some (.tuple ps) => some (ps.any fun z => PyData.eqv z p)
  | _, _ => none
def inStr (x : D) (w : Str) : Option Bool := match x with
  | .str z => match z.cps.toList with
    | [k] => some (decide (k ∈ w.cps.toList))
    | _ => none
  | _ => none
def inDic (t : Bool) (l : List (D × D)) (x : D) : Option Bool := if keyOk t x then some (kget l x).isSome else none
def inA (A : Hs) (x c : D) : Option Bool := match dicAt A c with
  | some (t, l) => inDic t l x
  | none => match c with
    | .str w => inStr x w
    | _ => inData A x c
def oIn : D → D → Hs → RE D := oB inA
def oNotIn : D → D → Hs → RE D := oB fun A x y => (inA A x y).map (!·)
theorem in_data {neg b : Bool} {x y : V} {dx dy : D} (R : Rl K ca F m A H) (rx : Rep K ca F m x dx) (ry : Rep K ca F m y dy) (h : inData A dx dy = some b) (q : Q (.bl (if neg then !b else b)) H) : rInAll K neg x y H Q := by
  unfold inData at h
  cases q1 : pyA A 40 dx with
  | none => simp [q1] at h
  | some p1 =>
    cases q2 : pyA A 40 dy with
    | none => simp [q1, q2] at h
    | some p2 =>
      obtain ⟨a1, a2, a3⟩ := dp_of R rx q1
      obtain ⟨b1, b2, b3⟩ := dp_of R ry q2
      cases p2 with
      | list ps =>
        simp only [q1, q2, Option.some.injEq] at h
        subst h
        exact .inl ⟨p1, ps, a1, .inl b1, a2, b2, by omega, q⟩
      | tuple ps =>
        simp only [q1, q2, Option.some.injEq] at h
        subst h
        exact .inl ⟨p1, ps, a1, .inr b1, a2, b2, by omega, q⟩
      | _ => simp [q1, q2] at h
theorem in_core {neg b : Bool} {x y : V} {dx dy : D} (R : Rl K ca F m A H) (rx : Rep K ca F m x dx) (ry : Rep K ca F m y dy) (h : inA A dx dy = some b) (q : Q (.bl (if neg then !b else b)) H) : rInAll K neg x y H Q := by
  unfold inA at h
  cases hd : dicAt A dy with
  | some tl =>
    obtain ⟨t, l⟩ := tl
    simp only [hd, inDic] at h
    split at h
    · rename_i hk
      obtain ⟨a, o, e, h1, _, h2, h3⟩ := dic_get R ry rx hd hk
      refine .inr (.inr ⟨a, o, e, h1, ?_⟩)
      have : o.isSome = b := by
        cases h
        cases z : kget l dx with
        | none => rw [h3 z]; rfl
        | some d => obtain ⟨v, e2, _⟩ := h2 d z; rw [e2]; rfl
      rw [this]; exact q
    · cases h
  | none =>
    simp only [hd] at h
    cases ry with
    | str w =>
      simp only [inStr] at h
      cases rx with
      | str z =>
        simp only at h
        split at h
        · rename_i k hz
          cases h
          have : z = ⟨#[k]⟩ := by
            cases z with
            | mk cps => congr; exact Array.toList_inj.mp (by simpa using hz)
          subst this
          exact .inr (.inl ⟨k, w, rfl, rfl, q⟩)
        · cases h
      | _ => cases h
    | non => exact in_data R rx .non h q
    | bl b => exact in_data R rx (.bl b) h q
    | int b => exact in_data R rx (.int b) h q
    | ty b => exact in_data R rx (.ty b) h q
    | tup s r => exact in_data R rx (.tup s r) h q
    | wt s r => exact in_data R rx (.wt s r) h q
    | scr s r => exact in_data R rx (.scr s r) h q
    | ref s => exact in_data R rx (.ref s) h q
    | nm s => exact in_data R rx (.nm s) h q
    | exc s => exact in_data R rx (.exc s) h q
theorem os_in : OpS K ca (rInAll K false) oIn := fun F m A H x y dx dy W σ Q R rx ry p => by
  unfold oIn oB at p
  cases q : inA A dx dy with
  | none => rw [q] at p; exact p.elim
  | some b => rw [q] at p; exact in_core R rx ry q (po_ok R (.bl _) p)
theorem os_notin : OpS K ca (rInAll K true) oNotIn := fun F m A H x y dx dy W σ Q R rx ry p => by
  unfold oNotIn oB at p
  cases q : inA A dx dy with
  | none => simp only [q] at p; exact p.elim
  | some b => simp only [q, Option.map] at p; exact in_core R rx ry q (po_ok R (.bl _) p)
/-! ### stores -/
/-- xs[i] = v, d[k] = v -/
def setIt (A : Hs) (x y v : D) : Option Hs := match x with
  | .ref i => match A[i]? with
    | some (.lst l) => match y with
      | .int k => match ixN l.length k with
        | some n => some (A.set i (.lst (l.set n v)))
        | none => none
      | _ => none
    | some (.dic t false l) => if keyOk t y && decide (l.length < sizeLine) then some (A.set i (.dic t false (kput l y v))) else none
    | _ => none
  | _ => none
/-- o[i] = e: first e, then o, then i -/
def ofH (env : Sl) : Option Hs → RS
  | some A => .nx env A
  | none => .stuck
def sPut (o i a : E) : S := fun env A => ofE env (a env A) fun v A1 => ofE env (o env A1) fun x A2 => ofE env (i env A2) fun y A3 => ofH env (setIt A3 x y v)
theorem set_lst {x y v : V} {dy dv : D} {i : Nat} {l : List D} (R : Rl K ca F m A H) (rx : Rep K ca F m x (.ref i)) (ry : Rep K ca F m y dy) (rv : Rep K ca F m v dv) (hA : A[i]? = some (.lst l)) (h : setIt A (.ref i) dy dv = some A2) {Dn : Ends} {f : Hp → Prop}
    (k : ∀ H2, Rl K ca F m A2 H2 → Stp F m H F m H2 → f H2) : rSetL x y v H f := by
  unfold setIt at h
  simp only [hA] at h
  cases ry with
  | int j =>
    simp only at h
    cases q : ixN l.length j with
    | none => rw [q] at h; cases h
    | some n =>
      rw [q] at h; cases h
      obtain ⟨a, vs, e, h1, h2, h3⟩ := lst_at R rx hA
      obtain ⟨R2, g2⟩ := lst_put R h1 h2 (h3.set rv n)
      exact ⟨a, vs, j, n, e, rfl, h2, by rw [h3.length]; exact q, k _ R2 g2⟩
  | _ => cases h
theorem set_dic {x y v : V} {dy dv : D} {i : Nat} {t : Bool} {l : List (D × D)} (R : Rl K ca F m A H) (rx : Rep K ca F m x (.ref i)) (ry : Rep K ca F m y dy) (rv : Rep K ca F m v dv) (hA : A[i]? = some (.dic t false l)) (h : setIt A (.ref i) dy dv = some A2) :
    ∃ a H2, x = .ref a ∧ DPut H a y v H2 ∧ Rl K ca F m A2 H2 ∧ Stp F m H F m H2 := by
  unfold setIt at h
  simp only [hA] at h
  split at h
  · rename_i hk
    cases h
    rw [Bool.and_eq_true, decide_eq_true_eq] at hk
    obtain ⟨a, e, ha, r⟩ := R.at hA rx
    cases t with
    | false =>
      obtain ⟨kvs, h1, h2⟩ := r
      cases z : keyK dy with
      | none => simp [keyOk, z] at hk
      | some kk =>
        have e2 := keyK_kD z
        subst e2
        have e3 : y = kV kk := by
          cases kk with
          | inl i => cases ry; rfl
          | inr x => cases ry; rfl
        have h1' : H a = some (.dK kvs) := h1
        obtain ⟨R2, g2⟩ := R.put (u := .dK (putK kvs kk v)) (o' := .dic false false (kput l (kD kk) dv)) ha (fun od w z => by rw [h1'] at z; cases z) ⟨_, upd_same, kput_rep keq_kD rv h2⟩
        exact ⟨a, _, e, .inl ⟨kvs, kk, h1, e3, by rw [h2.length]; exact hk.2, rfl⟩, R2, g2⟩
    | true =>
      obtain ⟨kvs, h1, h2⟩ := r
      cases dy with
      | tup dl =>
          cases z : keysK dl with
        | none => simp [keyOk, z] at hk
        | some ks =>
          obtain ⟨b, e3, h3⟩ := tup_key R ry z
          have e2 := keysK_kT z
          subst e2
          have h1' : H a = some (.dT kvs) := h1
          obtain ⟨R2, g2⟩ := R.put (u := .dT (putK kvs ks v)) (o' := .dic true false (kput l (kT ks) dv)) ha (fun od w z => by rw [h1'] at z; cases z) ⟨_, upd_same, kput_rep keq_kT rv h2⟩
          exact ⟨a, _, e, .inr ⟨kvs, ks, b, h1, e3, h3, by rw [h2.length]; exact hk.2, rfl⟩, R2, g2⟩
      | _ => simp [keyOk] at hk
  · cases h
end
end SM

namespace SM
open PySem L2
open DL (Ex ExK rLenU rAbs rMax2 rMin2 rInt1 rListOf rTupleOf iSeqU rIsiU InC)
section
variable {K : PySem.W.Frag} {ca : String → Addr} {F F1 F2 H H1 H2 : Hp} {m m1 m2 : List Addr} {A A1 A2 : Hs} {σ : L2.St} {env : Sl} {W : WX} {Q : VK}
variable {ta tb tc te to ti : TE} {a b c o : E} {i : Nat} {d : D} {ts : TA} {as : As} {x : V} {dx : D} {t u : TS} {f g h : S}
/-! ### o[i] = e -/
theorem SimS.pick (h1 : SimS K ca W t g) (h2 : SimS K ca W u h) (k : ∀ env A, f env A = g env A ∨ f env A = h env A) : SimS K ca W (fun D σ H => t D σ H ∨ u D σ H) f := fun F m A σ H env Dn R S p => by
  rcases k env A with q | q
  · rw [q] at p; exact .inl (h1 F m A σ H env Dn R S p)
  · rw [q] at p; exact .inr (h2 F m A σ H env Dn R S p)
def isLst (A : Hs) : D → Bool
  | .ref i => match A[i]? with
    | some (.lst _) => true
    | _ => false
  | _ => false
def sPut1 (w : Bool) (o i a : E) : S := fun env A => ofE env (a env A) fun v A1 => ofE env (o env A1) fun x A2 => ofE env (i env A2) fun y A3 => if isLst A3 x = w then ofH env (setIt A3 x y v) else .stuck
theorem put_pick {o i a : E} (env : Sl) (A : Hs) : sPut o i a env A = sPut1 true o i a env A ∨ sPut o i a env A = sPut1 false o i a env A := by
  unfold sPut sPut1
  cases a env A with
  | stuck => exact .inl rfl
  | exc _ _ => exact .inl rfl
  | ok v A1 =>
    simp only [ofE]
    cases o env A1 with
    | stuck => exact .inl rfl
    | exc _ _ => exact .inl rfl
    | ok x A2 =>
      simp only [ofE]
      cases i env A2 with
      | stuck => exact .inl rfl
      | exc _ _ => exact .inl rfl
      | ok y A3 =>
        simp only [ofE]
        cases q : isLst A3 x with
        | true => exact .inl (by simp)
        | false => exact .inr (by simp)
theorem isLst_at {A : Hs} {x : D} {w : Bool} (h : isLst A x = true) : ∃ i l, x = .ref i ∧ A[i]? = some (.lst l) := by
  cases x with
  | ref i =>
    unfold isLst at h
    cases q : A[i]? with
    | none => simp [q] at h
    | some o =>
      cases o with
      | lst l => exact ⟨i, l, rfl, q⟩
      | dic _ _ _ => simp [q] at h
      | obj _ _ => simp [q] at h
  | _ => cases h
theorem setIt_dic {A A2 : Hs} {x y v : D} (h : setIt A x y v = some A2) (n : isLst A x = false) : ∃ i t l, x = .ref i ∧ A[i]? = some (.dic t false l) := by
  unfold setIt at h
  cases x with
  | ref i =>
    unfold isLst at n
    cases q : A[i]? with
    | none => simp [q] at h
    | some o =>
      cases o with
      | lst l => simp [q] at n
      | dic t lk l =>
        cases lk with
        | false => exact ⟨i, t, l, rfl, q⟩
        | true => simp [q] at h
      | obj _ _ => simp [q] at h
  | _ => simp at h
theorem ss_putL (ho : SimE K ca W to o) (hi : SimE K ca W ti b) (ha : SimE K ca W ta a) : SimS K ca W (tAsg ta (gSub to ti rSetL)) (sPut1 true o b a) := fun F m A σ H env Dn R S p =>
  ofE_bind ha R S p fun F1 m1 A1 H1 v dv R1 g1 S1 rv p1 => ofE_bind ho R1 S1 p1 fun F2 m2 A2 H2 x dx R2 g2 S2 rx p2 => ofE_bind hi R2 S2 p2 fun F3 m3 A3 H3 y dy R3 g3 S3 ry p3 => by
    split at p3
    · rename_i hl
      cases hs : setIt A3 dx dy dv with
      | none => rw [hs] at p3; exact p3.elim
      | some A4 =>
        rw [hs] at p3
        obtain ⟨j, l, rfl, hA⟩ := isLst_at (w := true) hl
        exact set_lst (Dn := Dn) R3 (rx.mono g3.ff g3.mm) ry (rv.mono (g2.trans g3).ff (g2.trans g3).mm) hA hs fun H4 R4 g4 => p3 F3 m3 σ H4 R4 g4 (S3.stp g4)
    · exact p3.elim
theorem ss_putD (ho : SimE K ca W to o) (hi : SimE K ca W ti b) (ha : SimE K ca W ta a) : SimS K ca W (sDPut to ti ta) (sPut1 false o b a) := fun F m A σ H env Dn R S p =>
  ofE_bind ha R S p fun F1 m1 A1 H1 v dv R1 g1 S1 rv p1 => ofE_bind ho R1 S1 p1 fun F2 m2 A2 H2 x dx R2 g2 S2 rx p2 => ofE_bind hi R2 S2 p2 fun F3 m3 A3 H3 y dy R3 g3 S3 ry p3 => by
    split at p3
    · rename_i hl
      cases hs : setIt A3 dx dy dv with
      | none => rw [hs] at p3; exact p3.elim
      | some A4 =>
        rw [hs] at p3
        obtain ⟨j, t, l, rfl, hA⟩ := setIt_dic hs hl
        obtain ⟨a', H4, e, h1, R4, g4⟩ := set_dic R3 (rx.mono g3.ff g3.mm) ry (rv.mono (g2.trans g3).ff (g2.trans g3).mm) hA hs
        exact ⟨a', H4, e, h1, p3 F3 m3 σ H4 R4 g4 (S3.stp g4)⟩
    · exact p3.elim
theorem ss_put (ho : SimE K ca W to o) (hi : SimE K ca W ti b) (ha : SimE K ca W ta a) : SimS K ca W (fun D σ H => tAsg ta (gSub to ti rSetL) D σ H ∨ sDPut to ti ta D σ H) (sPut o b a) := SimS.pick (ss_putL ho hi ha) (ss_putD ho hi ha) put_pick
/-! ### built-ins -/
def c1 (f : D → Hs → RE D) : List D → Hs → RE D := fun ds A => match ds with
  | [d] => f d A
  | _ => .stuck
def c2 (f : D → D → Hs → RE D) : List D → Hs → RE D := fun ds A => match ds with
  | [d, e] => f d e A
  | _ => .stuck
theorem cs_1 {r : List V → Hp → VK → Prop} {f : D → Hs → RE D} (h : ∀ F m A H x dx W σ Q, Rl K ca F m A H → Rep K ca F m x dx → Po K ca (Rep K ca) F m H W σ Q (f dx A) → r [x] H Q) : CbS K ca r (c1 f) := fun F m A H xs ds W σ Q R rs p => by
  match ds, xs, rs, p with
  | [d], _, .cons r1 .nil, p => exact h F m A H _ d W σ Q R r1 p
  | [], _, _, p => exact p.elim
  | _ :: _ :: _, _, _, p => exact p.elim
theorem cs_2 {r : List V → Hp → VK → Prop} {f : D → D → Hs → RE D} (h : ∀ F m A H x y dx dy W σ Q, Rl K ca F m A H → Rep K ca F m x dx → Rep K ca F m y dy → Po K ca (Rep K ca) F m H W σ Q (f dx dy A) → r [x, y] H Q) : CbS K ca r (c2 f) := fun F m A H xs ds W σ Q R rs p => by
  match ds, xs, rs, p with
  | [d, e], _, .cons r1 (.cons r2 .nil), p => exact h F m A H _ _ d e W σ Q R r1 r2 p
  | [], _, _, p => exact p.elim
  | [_], _, _, p => exact p.elim
  | _ :: _ :: _ :: _, _, _, p => exact p.elim
def lenA (A : Hs) (x : D) : Option Nat := match seqL A x with
  | some l => some l.length
  | none => match seqT x with
    | some l => some l.length
    | none => match x with
      | .str z => if z.length ≤ sizeLine then some z.length else none
      | .ref i => match A[i]? with
        | some (.dic false false l) => some l.length
        | _ => none
      | _ => none
def oLen (x : D) (A : Hs) : RE D := match lenA A x with
  | some n => .ok (.int (n : Int)) A
  | none => .stuck
theorem cs_len : CbS K ca (rLenU K) (c1 oLen) := cs_1 fun F m A H x dx W σ Q R rx p => by
  unfold oLen at p
  cases q : lenA A dx with
  | none => rw [q] at p; exact p.elim
  | some n =>
    rw [q] at p
    have hq := po_ok R (Rep.int _) p
    unfold lenA at q
    split at q
    · rename_i l hl
      cases q
      obtain ⟨a, vs, e, h1, h2⟩ := seqL_at R rx hl
      subst e
      exact .inl ⟨_, l.length, rfl, .inl ⟨vs, h1, h2.length.symm⟩, hq⟩
    · split at q
      · rename_i l hl
        cases q
        obtain ⟨a, vs, e, h1, h2⟩ := seqT_at R rx hl
        subst e
        exact .inl ⟨_, l.length, rfl, .inr ⟨vs, h1, h2.length.symm⟩, hq⟩
      · cases rx with
        | str z =>
          simp only at q
          split at q
          · rename_i hz; cases q; exact .inl ⟨_, _, rfl, ⟨hz, rfl⟩, hq⟩
          · cases q
        | ref hm =>
          simp only at q
          split at q
          · rename_i l hA
            cases q
            obtain ⟨a, e, ha, kvs, h1, h2⟩ := R.at hA (.ref hm)
            refine .inr ⟨a, kvs, by rw [e], h1, ?_⟩
            rw [h2.length]; exact hq
          · cases q
        | _ => cases q
def boolsOf : List D → Option (List Bool)
  | [] => some []
  | .bl b :: r => (boolsOf r).map (b :: ·)
  | _ :: _ => none
def intsOf : List D → Option (List Int)
  | [] => some []
  | .int b :: r => (intsOf r).map (b :: ·)
  | _ :: _ => none
theorem boolsOf_eq : ∀ {l : List D} {bs : List Bool}, boolsOf l = some bs → l = bs.map D.bl
  | [], _, h => by cases h; rfl
  | d :: r, bs, h => by
    cases d with
    | bl b =>
      unfold boolsOf at h
      cases q : boolsOf r with
      | none => rw [q] at h; cases h
      | some s => rw [q] at h; cases h; rw [List.map_cons, ← boolsOf_eq q]
    | _ => cases h
theorem intsOf_eq : ∀ {l : List D} {bs : List Int}, intsOf l = some bs → l = bs.map D.int
  | [], _, h => by cases h; rfl
  | d :: r, bs, h => by
    cases d with
    | int b =>
      unfold intsOf at h
      cases q : intsOf r with
      | none => rw [q] at h; cases h
      | some s => rw [q] at h; cases h; rw [List.map_cons, ← intsOf_eq q]
    | _ => cases h
theorem z00 : ∀ bs : List Bool, boolsOf (bs.map D.bl) = some bs
  | [] => rfl
  | b :: r => by rw [List.map_cons]; unfold boolsOf; rw [z00 r]; rfl
theorem z0o : ∀ bs : List Int, intsOf (bs.map D.int) = some bs
  | [] => rfl
  | b :: r => by rw [List.map_cons]; unfold intsOf; rw [z0o r]; rfl
def oAll (x : D) (A : Hs) : RE D := match (seqL A x).bind boolsOf with
  | some bs => .ok (.bl (bs.all id)) A
  | none => .stuck
def oSum (x : D) (A : Hs) : RE D := match (seqL A x).bind intsOf with
  | some ns => .ok (.int ns.sum) A
  | none => .stuck
theorem cs_all : CbS K ca (L2.rAll K) (c1 oAll) := cs_1 fun F m A H x dx W σ Q R rx p => by
  unfold oAll at p
  split at p
  · rename_i bs hb
    obtain ⟨l, h1, h2⟩ := Option.bind_eq_some_iff.mp hb
    obtain ⟨a, vs, e, h3, h4⟩ := seqL_at R rx h1
    have e2 := boolsOf_eq h2
    subst e2
    have e3 := h4.bools
    subst e3 e
    exact ⟨a, bs, rfl, h3, po_ok R (.bl _) p⟩
  · exact p.elim
def oMax2 := oII fun i j => some (.int (if j > i then j else i))
def oMin2 := oII fun i j => some (.int (if j < i then j else i))
theorem cs_min2 : CbS K ca rMin2 (c2 oMin2) := cs_2 fun F m A H x y dx dy W σ Q R rx ry p => by
  cases rx with
  | int i =>
    cases ry with
    | int j => exact ⟨i, j, rfl, po_ok R (.int _) p⟩
    | _ => exact p.elim
  | _ => exact p.elim
def oInt (x : D) (A : Hs) : RE D := match x with
  | .int i => .ok (.int i) A
  | .bl b => .ok (.int (if b then 1 else 0)) A
  | _ => .stuck
theorem cs_int : CbS K ca rInt1 (c1 oInt) := cs_1 fun F m A H x dx W σ Q R rx p => by
  cases rx with
  | int i => exact .inl ⟨i, rfl, po_ok R (.int _) p⟩
  | bl b => exact .inr ⟨b, rfl, po_ok R (.int _) p⟩
  | _ => exact p.elim
def oList (x : D) (A : Hs) : RE D := match seqL A x with
  | some l => alloc A (.lst l)
  | none => match seqT x with
    | some l => alloc A (.lst l)
    | none => .stuck
theorem cs_list : CbS K ca (rListOf K) (c1 oList) := cs_1 fun F m A H x dx W σ Q R rx p => by
  unfold oList at p
  split at p
  · rename_i l hl
    obtain ⟨a, vs, e, h3, h4⟩ := seqL_at R rx hl
    subst e
    exact ⟨a, vs, rfl, .inl h3, fun q hq => po_alloc (o := .lst l) R hq ⟨vs, upd_same, h4.mono (Ex.refl _) ⟨_, rfl⟩⟩ p⟩
  · split at p
    · rename_i l hl
      obtain ⟨a, vs, e, h3, h4⟩ := seqT_at R rx hl
      subst e
      exact ⟨a, vs, rfl, .inr h3, fun q hq => po_alloc (o := .lst l) R hq ⟨vs, upd_same, h4.mono (Ex.refl _) ⟨_, rfl⟩⟩ p⟩
    · exact p.elim
def oTuple (x : D) (A : Hs) : RE D := match seqL A x with
  | some l => .ok (.tup l) A
  | none => match x with
    | .tup l => .ok (.tup l) A
    | _ => .stuck
theorem cs_tuple : CbS K ca (rTupleOf K) (c1 oTuple) := cs_1 fun F m A H x dx W σ Q R rx p => by
  unfold oTuple at p
  split at p
  · rename_i l hl
    obtain ⟨a, vs, e, h3, h4⟩ := seqL_at R rx hl
    subst e
    refine ⟨a, vs, rfl, .inl ⟨h3, fun q hq => ?_⟩⟩
    obtain ⟨R2, g2⟩ := R.new (u := .tup vs) hq
    exact p _ _ _ _ R2 g2 (.tup upd_same (h4.mono g2.ff g2.mm))
  · cases rx with
    | tup s rs => exact ⟨_, _, rfl, .inr ⟨.inl (.inl (R.fh _ _ s)), po_ok R (.tup s rs) p⟩⟩
    | _ => exact p.elim
/-! ### isinstance -/
/-- the class that a thing is of; os, xs: own classes, own exceptions at hand -/
def kdOf (os xs : List String) (A : Hs) : D → Option String
  | .non => some "NoneType"
  | .bl _ => some "bool"
  | .int _ => some "int"
  | .str _ => some "str"
  | .tup _ => some "tuple"
  | .scr _ => none
  | .exc C => if C ∈ xs then some C else none
  | .ref i => match A[i]? with
    | some (.lst _) => some "list"
    | some (.dic t lk _) => if t && lk then none else some "dict"
    | some (.obj C _) => if C ∈ os then some C else none
    | none => none
  | _ => none
def btn (n : String) : Bool := n == "NoneType" || n == "bool" || n == "int" || n == "str" || n == "tuple" || n == "list" || n == "dict" || n == "ValueError"
def clOf : D → Option String
  | .ty n => if btn n then some n else none
  | .nm C => if btn C then none else some C
  | _ => none
/-- a name's class object -/
def vOf (ca : String → Addr) (n : String) : Value := if btn n then .type n else .ref (ca n)
def subB (n c : String) : Bool := n == c || n == "bool" && c == "int"
/-- is the class n one of c: by the built-in ones, else by a table -/
def isiOf (tb : List (String × String × Bool)) (n c : String) : Option Bool := if btn n && btn c && n != "ValueError" then some (subB n c) else (tb.find? fun e => e.1 == n && e.2.1 == c).map (·.2.2)
/-- one of some classes -/
def isiAny (tb : List (String × String × Bool)) (n : String) : List D → Option Bool
  | [] => some false
  | c :: r => match clOf c with
    | some k => match isiOf tb n k with
      | some true => some true
      | some false => isiAny tb n r
      | none => none
    | none => none
def isiAll : List D → Bool
  | [] => true
  | c :: r => (clOf c).isSome && isiAll r
def isiD (os xs : List String) (tb : List (String × String × Bool)) (A : Hs) (x c : D) : Option Bool := match kdOf os xs A x with
  | none => none
  | some n => match c with
    | .tup l => if isiAll l then isiAny tb n l else none
    | c => match clOf c with
      | some k => isiOf tb n k
      | none => none
def oIsi (os xs : List String) (tb : List (String × String × Bool)) (x c : D) (A : Hs) : RE D := match isiD os xs tb A x c with
  | some b => .ok (.bl b) A
  | none => .stuck
inductive TbOk (K : PySem.W.Frag) (ca : String → Addr) : List (String × String × Bool) → Prop
  | nil : TbOk K ca []
  | cons {n c : String} {b : Bool} {r : List (String × String × Bool)} : PySem.W.kitOne K (vOf ca n) (vOf ca c) = some b → TbOk K ca r → TbOk K ca ((n, c, b) :: r)
theorem TbOk.of {tb : List (String × String × Bool)} (h : TbOk K ca tb) {n c : String} {b : Bool} (q : (tb.find? fun e => e.1 == n && e.2.1 == c).map (·.2.2) = some b) : PySem.W.kitOne K (vOf ca n) (vOf ca c) = some b := by
  induction h with
  | nil => cases q
  | cons h1 h2 ih =>
    rename_i n' c' b' r
    rw [List.find?_cons] at q
    cases z : (n' == n && c' == c) with
    | true =>
      simp only [z] at q
      cases q
      rw [Bool.and_eq_true] at z
      rw [← eq_of_beq z.1, ← eq_of_beq z.2]; exact h1
    | false => simp only [z] at q; exact ih q
def btns : List String := ["NoneType", "bool", "int", "str", "tuple", "list", "dict", "ValueError"]
theorem btn_mem {n : String} (h : btn n = true) : n ∈ btns := by
  simp only [btn, Bool.or_eq_true, beq_iff_eq] at h
  simp only [btns, List.mem_cons, List.mem_nil_iff, or_false]
  rcases h with ((((((h | h) | h) | h) | h) | h) | h) | h <;> simp [h]
theorem isi_all : ∀ n ∈ btns, ∀ c ∈ btns, (n != "ValueError") = true → kitB n c = some (subB n c) := by decide +kernel
theorem isi_sub {n c : String} (h1 : btn n = true) (h2 : btn c = true) (h3 : (n != "ValueError") = true) : kitB n c = some (subB n c) := isi_all n (btn_mem h1) c (btn_mem h2) h3
theorem isi_of {tb : List (String × String × Bool)} (h : TbOk K ca tb) {n c : String} {b : Bool} (q : isiOf tb n c = some b) : PySem.W.kitOne K (vOf ca n) (vOf ca c) = some b := by
  unfold isiOf at q
  split at q
  · rename_i z
    rw [Bool.and_eq_true, Bool.and_eq_true] at z
    cases q
    unfold vOf
    rw [if_pos z.1.1, if_pos z.1.2]
    exact kit_ty (isi_sub z.1.1 z.1.2 z.2)
  · exact h.of q
theorem cl_at {y : V} {dy : D} {k : String} (r : Rep K ca F m y dy) (h : clOf dy = some k) : ClsV y (vOf ca k) := by
  cases r with
  | ty n =>
    unfold clOf at h
    simp only at h
    split at h
    · rename_i z; cases h; unfold vOf; rw [if_pos z]; exact .ty _
    · cases h
  | nm C =>
    unfold clOf at h
    simp only at h
    split at h
    · cases h
    · rename_i z; cases h; unfold vOf; rw [if_neg z]; exact .own _
  | _ => cases h
/-- how isinstance sees a thing -/
inductive Sees (K : PySem.W.Frag) (H : Hp) (x : V) (u : Value) : Prop
  | ty : TyX K H x u → Sees K H x u
  | exc {a C : Addr} : x = .ref a → u = .ref C → H a = some (ExK C a) → ExcC K C → Sees K H x u
theorem sees_of {os xs : List String} {x : V} {n : String} (ho : AllC (fun C => InC K (ca C) ∧ btn C = false) os) (hx : AllC (fun C => ExcC K (ca C) ∧ btn C = false) xs) (R : Rl K ca F m A H) (rx : Rep K ca F m x dx) (h : kdOf os xs A dx = some n) : Sees K H x (vOf ca n) := by
  cases rx with
  | non => cases h; exact .ty (.base .non)
  | bl b => cases h; exact .ty (.base (.bl b))
  | int b => cases h; exact .ty (.base (.int b))
  | str b => cases h; exact .ty (.base (.str b))
  | tup s r => cases h; exact .ty (.base (.tup (R.fh _ _ s)))
  | exc s =>
    rename_i a C
    unfold kdOf at h
    simp only at h
    split at h
    · rename_i z; cases h
      have k := AllC.of hx z
      refine .exc rfl ?_ (R.fh _ _ s) k.1
      unfold vOf; rw [k.2]; rfl
    · cases h
  | ref hm =>
    unfold kdOf at h
    simp only at h
    split at h
    · rename_i l hA
      cases h
      obtain ⟨a, vs, e, h1, h2, h3⟩ := lst_at R (.ref hm) hA
      rw [e]
      exact .ty (.base (.lst h2))
    · rename_i t lk l hA
      split at h
      · cases h
      · rename_i z
        cases h
        obtain ⟨a, e, ha, r⟩ := R.at hA (.ref hm)
        rw [e]
        cases t with
        | false =>
          obtain ⟨kvs, h1, _⟩ := r
          cases lk with
          | false => exact .ty (.base (.dK h1))
          | true => obtain ⟨od, h1⟩ := h1; exact .ty (.fDict h1)
        | true =>
          obtain ⟨kvs, h1, _⟩ := r
          cases lk with
          | false => exact .ty (.base (.dT h1))
          | true => exact absurd rfl z
    · rename_i C fs hA
      split at h
      · rename_i z
        cases h
        obtain ⟨a, e, ha, dxx, kvs, h1, _⟩ := R.at hA (.ref hm)
        rw [e]
        have k := AllC.of ho z
        have i := k.1
        refine .ty (.base ?_)
        unfold vOf
        rw [k.2]
        exact .ins h1 i.cl i.ha i.hn i.ht i.hm
      · cases h
    · cases h
  | _ => cases h
theorem isiAny_kit {tb : List (String × String × Bool)} (ht : TbOk K ca tb) {n : String} : ∀ {vs : List V} {l : List D} {b : Bool}, RepL K ca F m vs l → isiAll l = true → isiAny tb n l = some b → ∃ us, Paired ClsV vs us ∧ PySem.W.kitAny K (vOf ca n) us = some b
  | _, _, _, .nil, _, h => by cases h; exact ⟨[], .nil, kitAny_nil⟩
  | _, _, _, .cons r rs, ha, h => by
    unfold isiAll at ha
    rw [Bool.and_eq_true] at ha
    unfold isiAny at h
    cases q : clOf _ with
    | none => rw [q] at h; cases h
    | some k =>
      rw [q] at h
      simp only at h
      cases q2 : isiOf tb n k with
      | none => rw [q2] at h; cases h
      | some c =>
        rw [q2] at h
        have k1 := isi_of ht q2
        cases c with
        | true =>
          cases h
          -- the rest only has to be classes
          have rest : ∀ {vs : List V} {l : List D}, RepL K ca F m vs l → isiAll l = true → ∃ us, Paired ClsV vs us := by
            intro vs l
            induction l generalizing vs with
            | nil => intro r _; cases r; exact ⟨[], .nil⟩
            | cons d l ih =>
              intro r hl
              cases r with
              | cons r1 r2 =>
                unfold isiAll at hl
                rw [Bool.and_eq_true] at hl
                obtain ⟨us, hus⟩ := ih r2 hl.2
                cases z : clOf d with
                | none => rw [z] at hl; cases hl.1
                | some kk => exact ⟨_ :: us, .cons (cl_at r1 z) hus⟩
          obtain ⟨us, hus⟩ := rest rs ha.2
          exact ⟨_ :: us, .cons (cl_at r q) hus, kitAny_cons k1 (fun z => by cases z) fun _ => rfl⟩
        | false =>
          obtain ⟨us, h1, h2⟩ := isiAny_kit ht rs ha.2 h
          exact ⟨_ :: us, .cons (cl_at r q) h1, kitAny_cons k1 (fun _ => h2) fun z => by cases z⟩
/-- isinstance(x, c) -/
theorem cs_isi {os xs : List String} {tb : List (String × String × Bool)} (ho : AllC (fun C => InC K (ca C) ∧ btn C = false) os) (hx : AllC (fun C => ExcC K (ca C) ∧ btn C = false) xs) (ht : TbOk K ca tb) : CbS K ca (rIsiU K) (c2 (oIsi os xs tb)) := cs_2 fun F m A H x y dx dy W σ Q R rx ry p => by
  unfold oIsi at p
  cases q : isiD os xs tb A dx dy with
  | none => rw [q] at p; exact p.elim
  | some b =>
    rw [q] at p
    have hq := po_ok R (Rep.bl _) p
    unfold isiD at q
    cases z : kdOf os xs A dx with
    | none => rw [z] at q; cases q
    | some n =>
      rw [z] at q
      have sees := sees_of ho hx R rx z
      have one : ∀ k, clOf dy = some k → isiOf tb n k = some b → rIsiU K [x, y] H Q := fun k h1 h2 => by
        have kit := isi_of ht h2
        have cl := cl_at ry h1
        cases sees with
        | ty t => exact .inl ⟨x, y, _, _, b, rfl, cl, t, kit, hq⟩
        | exc e1 e2 e3 e4 =>
          subst e1
          rw [e2] at kit
          exact .inr (.inr (.inl ⟨_, _, y, _, b, rfl, e3, e4, cl, kit, hq⟩))
      cases ry with
      | tup s rs =>
        simp only at q
        split at q
        · rename_i ha
          obtain ⟨us, h1, h2⟩ := isiAny_kit ht rs ha q
          cases sees with
          | ty t => exact .inr (.inl ⟨x, _, _, _, us, b, rfl, R.fh _ _ s, h1, t, h2, hq⟩)
          | exc e1 e2 e3 e4 =>
            subst e1
            rw [e2] at h2
            exact .inr (.inr (.inr ⟨_, _, _, _, us, b, rfl, e3, e4, R.fh _ _ s, h1, h2, hq⟩))
        · cases q
      | ty n' =>
        simp only at q
        split at q
        · rename_i k hk; exact one k hk q
        · cases q
      | nm n' =>
        simp only at q
        split at q
        · rename_i k hk; exact one k hk q
        · cases q
      | _ => simp [clOf] at q
end
end SM

namespace L2
open PySem PySem.Spec PyProof.Rows
theorem extT_go (l : Addr) (items : Array Value) (n : Nat) (b : Addr) (items2 : Array Value) (n2 : Nat) (dd : Option Addr) (sl : Array (Option Value)) (hs0 : ¬(!items.isEmpty && Builtin.List.listTooLong (items.size + items2.size)) = true) (hs1 : items.size ≤ sizeLine) (hs2 : items.size + items2.size ≤ sizeLine + 1) :
    Meets (Builtin.«list.extend» ⟨[.ref l, .ref b], []⟩) (fun _ R s => s.heap.get? l = some { cls := .type "list", dict := none, data := .seq items n, slots := #[] } ∧ s.heap.get? b = some { cls := .type "tuple", dict := dd, data := .seq items2 n2, slots := sl } ∧ R (.ok (.ret Value.none)) { s with heap := s.heap.update l (Obj.mapSeq fun x => x ++ items2), toks := s.toks }) :=
  .of_wp fun prog w A R s h => by
    obtain ⟨hp, g, d, tk, os⟩ := s; obtain ⟨hl, hb, h⟩ := h
    have f1 := AutoSeq1.idx_int; have f2 := AutoSeq1.sub_tuple_tuple; have f3 := AutoSeq1.sub_list_list; have f4 := AutoSeq1.sub_tuple_list; have f5 := AutoSeq1.sub_list_tuple
    have hz' : (items ++ items2).size ≤ sizeLine + 1 := by rw [Array.size_append]; exact hs2
    wp_walk using (wpAny_updateSeq hl rfl (hz := hs1) (_hz' := hz')), wpAny_loadPart' hl, wpAny_loadPart' hb; exact ⟨_, rfl, h⟩
/-- xs.extend(tuple) -/
def rExtT (K : PySem.W.Frag) : V → List V → Hp → VK → Prop := fun x vs H Q => ∃ l b xs zs, x = .ref l ∧ vs = [.ref b] ∧ H l = some (.lst xs) ∧ H b = some (.tup zs) ∧ xs.length + zs.length ≤ sizeLine ∧ Q .non (upd H l (.lst (xs ++ zs)))
theorem mt_extT {X : Cx} : MtR X "list.extend" (rExtT X.K) := by
  intro pins s σ H x vs v us Q I rx rv h
  obtain ⟨l, b, xs, zs, rfl, rfl, hH, hB, hz, q⟩ := h
  cases rx
  obtain ⟨u, rfl, ru⟩ := rv.one
  cases ru
  obtain ⟨z, its, n, r, hl, e⟩ := I.lstM hH
  obtain ⟨z2, its2, r2, ⟨oc, od, dt, sl⟩, e2, hc2, n2, hd2⟩ := (show ObjOk X.prog X.w H s.heap b (.tup zs) from I.hok b _ hB)
  dsimp only at hc2 hd2
  subst hc2 hd2
  have hl2 := r2.length
  have hsz : its.toArray.size + its2.toArray.size ≤ sizeLine := by rw [List.size_toArray, List.size_toArray]; omega
  have hlong : ¬ (!its.toArray.isEmpty && Builtin.List.listTooLong (its.toArray.size + its2.toArray.size)) = true := by
    rw [notLongL hsz, Bool.and_false]
    exact Bool.false_ne_true
  refine call_meets F.slot_list_extend ⟨_, e, rfl⟩ F.entry_list_extend (F.args_list_extend_2 _ _)
    (extT_go l its.toArray n b its2.toArray n2 od sl hlong (by rw [List.size_toArray]; omega) (by omega)) ⟨e, e2, ?_⟩
  refine ⟨.non, _, I.lset (its' := its ++ its2) hH e (by simp) (r.append r2) ?_, rfl, q⟩
  rw [List.length_append]
  omega
def rExtA (K : PySem.W.Frag) : V → List V → Hp → VK → Prop := fun x vs H Q => rExtend x vs H Q ∨ rExtT K x vs H Q
end L2
namespace SM
open PySem L2
open DL (Ex ExK rInt1 iSeqU rng rngC rng_len rngC_len rng_get rngC_get enumD enumD_len enumD_get zipD)
section
variable {K : PySem.W.Frag} {ca : String → Addr} {F F1 F2 H H1 H2 : Hp} {m m1 m2 : List Addr} {A A1 A2 : Hs} {σ : L2.St} {env : Sl} {W : WX} {Q : VK}
variable {ta tb tc te to ti : TE} {a b c o : E} {i : Nat} {d : D} {ts : TA} {as : As} {x : V} {dx : D}
/-! ### what is walked -/
theorem SimI.pick {t u : TI} {f g h : Sl → Hs → RE Wk} (h1 : SimI K ca W t g) (h2 : SimI K ca W u h) (k : ∀ env A, f env A = g env A ∨ f env A = h env A) : SimI K ca W (fun σ H R => t σ H R ∨ u σ H R) f := fun F m A σ H env Q R S p => by
  rcases k env A with q | q
  · rw [q] at p; exact .inl (h1 F m A σ H env Q R S p)
  · rw [q] at p; exact .inr (h2 F m A σ H env Q R S p)
def tt : Hs → Prop := fun _ => True
/-- the signs of a text -/
def signsOf (z : Str) : List D := z.cps.toList.map fun c => .str ⟨#[c]⟩
def wkL (A : Hs) (x : D) : Option Wk := match x with
  | .ref i => match A[i]? with
    | some (.lst l) => some ⟨l, fun A' => A'[i]? = some (.lst l)⟩
    | _ => none
  | .scr l => some ⟨l, tt⟩
  | _ => none
def wkT (_ : Hs) (x : D) : Option Wk := match x with
  | .tup l => some ⟨l, tt⟩
  | .wt l => some ⟨l, tt⟩
  | _ => none
def wkS (_ : Hs) (x : D) : Option Wk := match x with
  | .str z => some ⟨signsOf z, tt⟩
  | _ => none
/-- a list, a tuple, a text -/
def wkA (A : Hs) (x : D) : Option Wk := match x with
  | .ref _ => wkL A x
  | .scr _ => wkL A x
  | .tup _ => wkT A x
  | .wt _ => wkT A x
  | _ => wkS A x
def wOf (f : Hs → D → Option Wk) (a : E) : Sl → Hs → RE Wk := fun env A => (a env A).bind fun x A1 => match f A1 x with
  | some k => .ok k A1
  | none => .stuck
def wSeq (a : E) : Sl → Hs → RE Wk := wOf wkA a
theorem wOf_bind {f : Hs → D → Option Wk} {R' : It → Hp → Prop} {T : VK} (h : SimE K ca W te a) (R : Rl K ca F m A H) (S : Slt K ca F m σ env) (p : PoW K ca F m H W σ R' (wOf f a env A))
    (k : ∀ F1 m1 A1 H1 x d kk, Rl K ca F1 m1 A1 H1 → Rep K ca F1 m1 x d → f A1 d = some kk → PoW K ca F1 m1 H1 W σ R' (.ok kk A1) → T x H1) : te σ H T := by
  refine h F m A σ H env T R S ?_
  unfold wOf at p
  cases q : a env A with
  | ok d A1 =>
    rw [q] at p
    intro v F1 m1 H1 R1 g1 r
    simp only [RE.bind] at p
    cases z : f A1 d with
    | none => rw [z] at p; exact p.elim
    | some kk =>
      rw [z] at p
      exact k F1 m1 A1 H1 v d kk R1 r z fun J F' m' H' R2 g2 hh => p J F' m' H' R2 (g1.trans g2) hh
  | exc C A1 => rw [q] at p; exact p
  | stuck => rw [q] at p; exact p
/-- the list at a, as it is at each turn -/
theorem walk_live {a : Addr} {n : Nat} : Walk (Itl K a) n (fun H => ∃ vs, SqL K H a vs ∧ vs.length = n) (fun i H x H' => H' = H ∧ ∀ xs, SqL K H a xs → xs[i]? = some x) :=
  ⟨fun i _ hi ⟨vs, q, e⟩ => ⟨vs, vs[i]'(by omega), q, by simp [show i < vs.length by omega]⟩, fun _ ⟨vs, q, e⟩ => ⟨vs, q, by omega⟩, fun _ _ _ _ _ _ y => y⟩
theorem sw_list (h : SimE K ca W te a) : SimI K ca W (iList K te) (wOf wkL a) := fun F m A σ H env Q R S p => wOf_bind h R S p fun F1 m1 A1 H1 x d kk R1 r hk p1 => by
  cases r with
  | ref hm =>
    rename_i aa i
    unfold wkL at hk
    simp only at hk
    cases hA : A1[i]? with
    | none => simp [hA] at hk
    | some o =>
      cases o with
      | lst l =>
        simp only [hA, Option.some.injEq] at hk
        subst hk
        obtain ⟨a', vs, e, h1, h2, h3⟩ := lst_at R1 (.ref hm) hA
        cases e
        refine ⟨aa, rfl, ⟨vs, .inl (.inl h2)⟩, p1 _ F1 m1 H1 R1 Stp.refl ⟨_, _, walk_live, fun F2 m2 A2 H2 hg R2 g2 => ?_, fun i' d' x' F2 m2 A2 H2 H3 e hg R2 g2 y => .inl ⟨y.1, ?_⟩⟩⟩
        · obtain ⟨a2, vs2, e2, _, h4, h5⟩ := lst_at R2 (.ref (g2.mm.get h1)) hg
          cases e2
          exact ⟨vs2, .inl (.inl h4), h5.length⟩
        · obtain ⟨a2, vs2, e2, _, h4, h5⟩ := lst_at R2 (.ref (g2.mm.get h1)) hg
          cases e2
          obtain ⟨z, z1, z2⟩ := h5.get e
          have := y.2 vs2 (.inl (.inl h4))
          rw [z1] at this; cases this; exact z2
      | dic _ _ _ => simp [hA] at hk
      | obj _ _ => simp [hA] at hk
  | scr s rs =>
    cases hk
    refine ⟨_, rfl, ⟨_, R1.fh.l s⟩, p1 _ F1 m1 H1 R1 Stp.refl ⟨_, _, walk_live, fun F2 m2 A2 H2 hg R2 g2 => ⟨_, R2.fh.l (g2.ff.l s), rs.length⟩, fun i' d' x' F2 m2 A2 H2 H3 e hg R2 g2 y => .inl ⟨y.1, ?_⟩⟩⟩
    obtain ⟨z, z1, z2⟩ := rs.get e
    have := y.2 _ (R2.fh.l (g2.ff.l s))
    rw [z1] at this; cases this; exact z2.mono g2.ff g2.mm
  | _ => cases hk
theorem sw_tup (h : SimE K ca W te a) : SimI K ca W (iTup K te) (wOf wkT a) := fun F m A σ H env Q R S p => wOf_bind h R S p fun F1 m1 A1 H1 x d kk R1 r hk p1 => by
  have main : ∀ {aa : Addr} {vs : List V} {l : List D}, SqT K F1 aa vs → RepL K ca F1 m1 vs l → kk = ⟨l, tt⟩ → x = .ref aa → ∃ a, x = .ref a ∧ (∃ xs, SqT K H1 a xs) ∧ Q (Itt K a) H1 := fun {aa vs l} s rs e ex => by
    subst e
    refine ⟨aa, ex, ⟨vs, R1.fh.t s⟩, p1 _ F1 m1 H1 R1 Stp.refl ⟨fun H => SqT K H aa vs, YAt vs, by rw [show (Wk.mk l _).ds.length = vs.length from rs.length.symm]; exact walk_tup, fun F2 m2 A2 H2 hg R2 g2 => R2.fh.t (g2.ff.t s), fun i' d' x' F2 m2 A2 H2 H3 e hg R2 g2 y => .inl ⟨y.1, ?_⟩⟩⟩
    obtain ⟨z, z1, z2⟩ := rs.get e
    have := y.2
    rw [z1] at this; cases this; exact z2.mono g2.ff g2.mm
  cases r with
  | tup s rs => cases hk; exact main (.inl (.inl s)) rs rfl rfl
  | wt s rs => cases hk; exact main s rs rfl rfl
  | _ => cases hk
theorem sw_str (h : SimE K ca W te a) : SimI K ca W (iStr te) (wOf wkS a) := fun F m A σ H env Q R S p => wOf_bind h R S p fun F1 m1 A1 H1 x d kk R1 r hk p1 => by
  cases r with
  | str z =>
    cases hk
    refine ⟨z, rfl, p1 _ F1 m1 H1 R1 Stp.refl ⟨fun _ => True, (fun i H v H' => H' = H ∧ ∃ c, z.cps[i]? = some c ∧ v = .str ⟨#[c]⟩), by rw [show (Wk.mk (signsOf z) _).ds.length = z.cps.size by unfold signsOf; simp]; exact walk_str, fun _ _ _ _ _ _ _ => trivial, fun i' d' x' F2 m2 A2 H2 H3 e hg R2 g2 y => .inl ⟨y.1, ?_⟩⟩⟩
    obtain ⟨_, c, h1, h2⟩ := y
    have e' : (signsOf z)[i']? = some d' := e
    unfold signsOf at e'
    rw [List.getElem?_map, Array.getElem?_toList, h1] at e'
    cases e'
    rw [h2]
    exact .str _
  | _ => cases hk
theorem wOf_pick {f g h : Hs → D → Option Wk} {a : E} (k : ∀ A x, f A x = g A x ∨ f A x = h A x) (env : Sl) (A : Hs) : wOf f a env A = wOf g a env A ∨ wOf f a env A = wOf h a env A := by
  unfold wOf
  cases a env A with
  | stuck => exact .inl rfl
  | exc _ _ => exact .inl rfl
  | ok x A1 =>
    simp only [RE.bind]
    rcases k A1 x with q | q
    · rw [q]; exact .inl rfl
    · rw [q]; exact .inr rfl
def wkTS (A : Hs) (x : D) : Option Wk := match x with
  | .tup _ => wkT A x
  | .wt _ => wkT A x
  | _ => wkS A x
theorem sw_seq (h : SimE K ca W te a) : SimI K ca W (iSeqU K te) (wSeq a) := SimI.pick (sw_list h) (SimI.pick (sw_tup h) (sw_str h) (wOf_pick (f := wkTS) fun A x => by cases x <;> first | exact .inl rfl | exact .inr rfl)) (wOf_pick fun A x => by cases x <;> first | exact .inl rfl | exact .inr rfl)
/-! ranges -/
def wAs (f : List D → Option Wk) (as : As) : Sl → Hs → RE Wk := fun env A => (as env A).bind fun ds A1 => match f ds with
  | some k => .ok k A1
  | none => .stuck
theorem wAs_bind {f : List D → Option Wk} {R' : It → Hp → Prop} {T : List V → Hp → Prop} (h : SimA K ca W ts as) (R : Rl K ca F m A H) (S : Slt K ca F m σ env) (p : PoW K ca F m H W σ R' (wAs f as env A))
    (k : ∀ F1 m1 A1 H1 x d kk, Rl K ca F1 m1 A1 H1 → RepL K ca F1 m1 x d → f d = some kk → PoW K ca F1 m1 H1 W σ R' (.ok kk A1) → T x H1) : ts σ H T := by
  refine h F m A σ H env T R S ?_
  unfold wAs at p
  cases q : as env A with
  | ok d A1 =>
    rw [q] at p
    intro v F1 m1 H1 R1 g1 r
    simp only [RE.bind] at p
    cases z : f d with
    | none => rw [z] at p; exact p.elim
    | some kk =>
      rw [z] at p
      exact k F1 m1 A1 H1 v d kk R1 r z fun J F' m' H' R2 g2 hh => p J F' m' H' R2 (g1.trans g2) hh
  | exc C A1 => rw [q] at p; exact p
  | stuck => rw [q] at p; exact p
def big (i : Int) : Prop := -(2 ^ 62) ≤ i ∧ i < 2 ^ 62
def rgL (lo c : Int) (n : Nat) : List D := (List.range n).map fun i => .int (lo + (i : Nat) * c)
theorem rgL_get {lo c : Int} {n i : Nat} {d : D} (h : (rgL lo c n)[i]? = some d) : d = .int (lo + (i : Nat) * c) ∧ i < n := by
  unfold rgL at h
  rw [List.getElem?_map] at h
  by_cases q : i < n
  · rw [List.getElem?_range q] at h; cases h; exact ⟨rfl, q⟩
  · rw [List.getElem?_eq_none (by simpa using Nat.le_of_not_lt q)] at h; cases h
theorem rgL_len {lo c : Int} {n : Nat} : (rgL lo c n).length = n := by unfold rgL; simp
open Classical in
noncomputable def rg1 : List D → Option Wk
  | [.int j] => if big j then some ⟨rgL 0 1 j.toNat, tt⟩ else none
  | _ => none
open Classical in
noncomputable def rg2 : List D → Option Wk
  | [.int i, .int j] => if big i ∧ big j then some ⟨rgL i 1 (j - i).toNat, tt⟩ else none
  | _ => none
def cnt (i j c : Int) : Nat := (if i < j then (j - i - 1) / c + 1 else 0).toNat
open Classical in
noncomputable def rg3 : List D → Option Wk
  | [.int i, .int j, .int c] => if -(2 ^ 60) ≤ i ∧ i < 2 ^ 60 ∧ -(2 ^ 60) ≤ j ∧ j < 2 ^ 60 ∧ 0 < c ∧ c < 1000000 then some ⟨rgL i c (cnt i j c), tt⟩ else none
  | _ => none
theorem sw_r1 (h : SimA K ca W ts as) : SimI K ca W (iRng1 ts) (wAs rg1 as) := fun F m A σ H env Q R S p => wAs_bind h R S p fun F1 m1 A1 H1 x d kk R1 r hk p1 => by
  match d, x, r, hk with
  | [.int j], _, .cons (.int _) .nil, hk =>
    unfold rg1 at hk
    simp only at hk
    split at hk
    · rename_i hb
      cases hk
      refine ⟨j, rfl, hb.1, hb.2, p1 _ F1 m1 H1 R1 Stp.refl ⟨fun _ => True, YFn fun i => .int (0 + i), by rw [show (Wk.mk (rgL 0 1 j.toNat) _).ds.length = j.toNat from rgL_len]; exact walk_range, fun _ _ _ _ _ _ _ => trivial, fun i' d' x' F2 m2 A2 H2 H3 e hg R2 g2 y => .inl ⟨y.1, ?_⟩⟩⟩
      obtain ⟨e1, _⟩ := rgL_get e
      rw [y.2, e1, Int.mul_one]; exact .int _
    · cases hk
theorem sw_r3 (h : SimA K ca W ts as) : SimI K ca W (iRng3 ts) (wAs rg3 as) := fun F m A σ H env Q R S p => wAs_bind h R S p fun F1 m1 A1 H1 x d kk R1 r hk p1 => by
  match d, x, r, hk with
  | [.int i, .int j, .int c], _, .cons (.int _) (.cons (.int _) (.cons (.int _) .nil)), hk =>
    unfold rg3 at hk
    simp only at hk
    split at hk
    · rename_i hb
      cases hk
      refine ⟨i, j, c, cnt i j c, rfl, DL.rg_up hb.1 hb.2.1 hb.2.2.1 hb.2.2.2.1 hb.2.2.2.2.1 hb.2.2.2.2.2, p1 _ F1 m1 H1 R1 Stp.refl ⟨fun _ => True, YFn fun n => .int (i + (n : Nat) * c), by rw [show (Wk.mk (rgL i c (cnt i j c)) _).ds.length = cnt i j c from rgL_len]; exact walk_rangeC, fun _ _ _ _ _ _ _ => trivial, fun i' d' x' F2 m2 A2 H2 H3 e hg R2 g2 y => .inl ⟨y.1, ?_⟩⟩⟩
      obtain ⟨e1, _⟩ := rgL_get e
      rw [y.2, e1]; exact .int _
    · cases hk
/-! enumerate, zip -/
def enumL (l : List D) : List D := l.zipIdx.map fun p => .tup [.int (p.2 : Nat), p.1]
theorem enumL_len {l : List D} : (enumL l).length = l.length := by simp [enumL]
theorem enumL_get {l : List D} {i : Nat} {d : D} (h : (enumL l)[i]? = some d) : ∃ x, l[i]? = some x ∧ d = .tup [.int (i : Nat), x] := by
  unfold enumL at h
  rw [List.getElem?_map, List.getElem?_zipIdx] at h
  cases q : l[i]? with
  | none => rw [q] at h; cases h
  | some x => rw [q] at h; simp at h; exact ⟨x, rfl, h.symm⟩
def wkE (A : Hs) (x : D) : Option Wk := (wkL A x).map fun k => ⟨enumL k.ds, k.gd⟩
theorem walk_enumL {a : Addr} {n : Nat} : Walk (Ite K a) n (fun H => ∃ vs, SqL K H a vs ∧ vs.length = n) (fun i H v H' => ∃ T x, v = .ref T ∧ H T = none ∧ H' = upd H T (.tup [.int (i : Nat), x]) ∧ ∀ xs, SqL K H a xs → xs[i]? = some x) :=
  ⟨fun i _ hi ⟨vs, q, e⟩ => ⟨vs, vs[i]'(by omega), q, by simp [show i < vs.length by omega]⟩, fun _ ⟨vs, q, e⟩ => ⟨vs, q, by omega⟩, fun _ _ _ _ _ _ y => y⟩
theorem sw_enum (h : SimE K ca W te a) : SimI K ca W (iEnum K (tCons te tNil)) (wOf wkE a) := fun F m A σ H env Q R S p => wOf_bind h R S p fun F1 m1 A1 H1 x d kk R1 r hk p1 => by
  cases r with
  | ref hm =>
    rename_i aa i
    unfold wkE wkL at hk
    simp only at hk
    cases hA : A1[i]? with
    | none => simp [hA] at hk
    | some o =>
      cases o with
      | lst l =>
        simp only [hA, Option.map, Option.some.injEq] at hk
        subst hk
        obtain ⟨a', vs, e, h1, h2, h3⟩ := lst_at R1 (.ref hm) hA
        cases e
        refine ⟨aa, vs, rfl, .inl (.inl h2), p1 _ F1 m1 H1 R1 Stp.refl ⟨_, _, walk_enumL, fun F2 m2 A2 H2 hg R2 g2 => ?_, fun i' d' x' F2 m2 A2 H2 H3 e hg R2 g2 y => .inr (.inl ?_)⟩⟩
        · obtain ⟨a2, vs2, e2, _, h4, h5⟩ := lst_at R2 (.ref (g2.mm.get h1)) hg
          cases e2
          exact ⟨vs2, .inl (.inl h4), by rw [h5.length]; exact enumL_len.symm⟩
        · obtain ⟨a2, vs2, e2, _, h4, h5⟩ := lst_at R2 (.ref (g2.mm.get h1)) hg
          cases e2
          obtain ⟨T, z, y1, y2, y3, y4⟩ := y
          obtain ⟨dx, q1, q2⟩ := enumL_get e
          obtain ⟨w, w1, w2⟩ := h5.get q1
          have := y4 vs2 (.inl (.inl h4))
          rw [w1] at this; cases this
          exact ⟨T, _, _, q2, y1, y2, y3, .cons (.int _) (.cons w2 .nil)⟩
      | dic _ _ _ => simp [hA] at hk
      | obj _ _ => simp [hA] at hk
  | scr s rs =>
    cases hk
    refine ⟨_, _, rfl, R1.fh.l s, p1 _ F1 m1 H1 R1 Stp.refl ⟨_, _, walk_enumL, fun F2 m2 A2 H2 hg R2 g2 => ⟨_, R2.fh.l (g2.ff.l s), by rw [rs.length]; exact enumL_len.symm⟩, fun i' d' x' F2 m2 A2 H2 H3 e hg R2 g2 y => .inr (.inl ?_)⟩⟩
    obtain ⟨T, z, y1, y2, y3, y4⟩ := y
    obtain ⟨dx, q1, q2⟩ := enumL_get e
    obtain ⟨w, w1, w2⟩ := rs.get q1
    have := y4 _ (R2.fh.l (g2.ff.l s))
    rw [w1] at this; cases this
    exact ⟨T, _, _, q2, y1, y2, y3, .cons (.int _) (.cons (w2.mono g2.ff g2.mm) .nil)⟩
  | _ => cases hk

/-! ### methods of lists -/
def eBL (o : D → List D → Hs → RE D) (a : E) (as : As) : E := fun env A => (a env A).bind fun x A1 => if (seqL A1 x).isSome then (as env A1).bind fun ds A2 => o x ds A2 else .stuck
def eBL0 (o : D → Hs → RE D) (a : E) : E := fun env A => (a env A).bind fun x A1 => if (seqL A1 x).isSome then o x A1 else .stuck
def MbS (K : PySem.W.Frag) (ca : String → Addr) (r : V → List V → Hp → VK → Prop) (o : D → List D → Hs → RE D) : Prop := ∀ F m A H x dx vs ds W σ Q, Rl K ca F m A H → Rep K ca F m x dx → RepL K ca F m vs ds → Po K ca (Rep K ca) F m H W σ Q (o dx ds A) → r x vs H Q
theorem tyL_at {A : Hs} (R : Rl K ca F m A H) (r : Rep K ca F m x dx) (h : (seqL A dx).isSome = true) : tyV K "list" x H := by
  obtain ⟨l, hl⟩ := Option.isSome_iff_exists.mp h
  obtain ⟨a, vs, e, h1, h2⟩ := seqL_at R r hl
  subst e
  exact .inl ⟨rfl, vs, h1⟩
theorem se_bl_ {r : V → List V → Hp → VK → Prop} {o : D → List D → Hs → RE D} (h : MbS K ca r o) (ha : SimE K ca W ta a) (hs : SimA K ca W ts as) : SimE K ca W (tBM K "list" r ta ts) (eBL o a as) := fun F m A σ H env Q R S p =>
  ha.bind R S p fun F1 m1 A1 H1 x dx R1 g1 S1 rx p1 => by
    by_cases q : (seqL A1 dx).isSome = true
    · rw [if_pos q] at p1
      exact ⟨tyL_at R1 rx q, hs.bind R1 S1 p1 fun F2 m2 A2 H2 vs ds R2 g2 S2 rs p2 => h F2 m2 A2 H2 x dx vs ds W σ Q R2 (rx.mono g2.ff g2.mm) rs p2⟩
    · rw [if_neg q] at p1; exact p1.elim
/-- the list that stands at a place -/
def lstAt (A : Hs) : D → Option (Nat × List D)
  | .ref i => match A[i]? with
    | some (.lst l) => some (i, l)
    | _ => none
  | _ => none
theorem lstAt_at {A : Hs} {l : List D} (h : lstAt A dx = some (i, l)) : dx = .ref i ∧ A[i]? = some (.lst l) := by
  cases dx with
  | ref j =>
    unfold lstAt at h
    cases q : A[j]? with
    | none => simp [q] at h
    | some o =>
      cases o with
      | lst l' => simp [q] at h; obtain ⟨rfl, rfl⟩ := h; exact ⟨rfl, q⟩
      | dic _ _ _ => simp [q] at h
      | obj _ _ => simp [q] at h
  | _ => cases h
theorem po_put {v : V} {d : D} {a : Addr} {vs vs' : List V} {l' : List D} (R : Rl K ca F m A H) (ha : m[i]? = some a) (h1 : H a = some (.lst vs)) (r : RepL K ca F m vs' l') (rv : Rep K ca F m v d) (p : Po K ca (Rep K ca) F m H W σ Q (.ok d (A.set i (.lst l')))) : Q v (upd H a (.lst vs')) := by
  obtain ⟨R2, g2⟩ := lst_put R ha h1 r
  exact p _ _ _ _ R2 g2 rv
def oAppend (x : D) (ds : List D) (A : Hs) : RE D := match lstAt A x, ds with
  | some (i, l), [d] => if l.length < sizeLine then .ok .non (A.set i (.lst (l ++ [d]))) else .stuck
  | _, _ => .stuck
theorem ms_append : MbS K ca rAppend oAppend := fun F m A H x dx vs ds W σ Q R rx rs p => by
  unfold oAppend at p
  split at p
  · rename_i i l d hA
    split at p
    · rename_i hl
      obtain ⟨e, hA2⟩ := lstAt_at hA
      subst e
      obtain ⟨a, vs', e, h1, h2, h3⟩ := lst_at R rx hA2
      match vs, rs with
      | [y], .cons r1 .nil => exact ⟨a, vs', y, e, rfl, h2, by rw [h3.length]; exact hl, po_put R h1 h2 (h3.append (.cons r1 .nil)) .non p⟩
    · exact p.elim
  · exact p.elim
def oExtend (x : D) (ds : List D) (A : Hs) : RE D := match lstAt A x, ds with
  | some (i, l), [d] => match lstAt A d with
    | some (_, k) => if l.length + k.length ≤ sizeLine then .ok .non (A.set i (.lst (l ++ k))) else .stuck
    | none => match d with
      | .tup k => if l.length + k.length ≤ sizeLine then .ok .non (A.set i (.lst (l ++ k))) else .stuck
      | _ => .stuck
  | _, _ => .stuck
theorem ms_extend : MbS K ca (rExtA K) oExtend := fun F m A H x dx vs ds W σ Q R rx rs p => by
  unfold oExtend at p
  split at p
  · rename_i i l d hA
    obtain ⟨e, hA2⟩ := lstAt_at hA
    subst e
    obtain ⟨a, vs', e, h1, h2, h3⟩ := lst_at R rx hA2
    match vs, rs with
    | [y], .cons r1 .nil =>
      split at p
      · rename_i j k hB
        split at p
        · rename_i hl
          obtain ⟨e2, hB2⟩ := lstAt_at hB
          subst e2
          obtain ⟨b, ws, e3, h4, h5, h6⟩ := lst_at R r1 hB2
          exact .inl ⟨a, b, vs', ws, e, by rw [e3], h2, h5, by rw [h3.length, h6.length]; exact hl, po_put R h1 h2 (h3.append h6) .non p⟩
        · exact p.elim
      · cases r1 with
        | tup s rs' =>
          simp only at p
          split at p
          · rename_i hl
            exact .inr ⟨a, _, vs', _, e, rfl, h2, R.fh _ _ s, by rw [h3.length, rs'.length]; exact hl, po_put R h1 h2 (h3.append rs') .non p⟩
          · exact p.elim
        | _ => exact p.elim
  · exact p.elim
def oPopAt (x : D) (ds : List D) (A : Hs) : RE D := match lstAt A x, ds with
  | some (i, l), [.int j] => if -(2 ^ 63) ≤ j ∧ j < 2 ^ 63 then match seqIndex? j l.length with
      | some k => match l[k]? with
        | some d => .ok d (A.set i (.lst (l.eraseIdx k)))
        | none => .stuck
      | none => .stuck
    else .stuck
  | _, _ => .stuck
theorem ms_popAt : MbS K ca rPopAt oPopAt := fun F m A H x dx vs ds W σ Q R rx rs p => by
  unfold oPopAt at p
  split at p
  · rename_i i l j hA
    obtain ⟨e, hA2⟩ := lstAt_at hA
    subst e
    obtain ⟨a, vs', e, h1, h2, h3⟩ := lst_at R rx hA2
    split at p
    · rename_i hj
      split at p
      · rename_i k hk
        split at p
        · rename_i d hd
          obtain ⟨v, h4, h5⟩ := h3.get hd
          match vs, rs with
          | [_], .cons (.int _) .nil => exact ⟨a, vs', j, k, v, e, rfl, h2, hj.1, hj.2, by rw [h3.length]; exact hk, h4, po_put R h1 h2 (h3.eraseIdx k) h5 p⟩
        · exact p.elim
      · exact p.elim
    · exact p.elim
  · exact p.elim
def oClear (x : D) (A : Hs) : RE D := match lstAt A x with
  | some (i, _) => .ok .non (A.set i (.lst []))
  | none => .stuck
/-- bs.count(c), bs.index(c), of truths -/
def oCount (x : D) (ds : List D) (A : Hs) : RE D := match (seqL A x).bind boolsOf, ds with
  | some bs, [.bl c] => .ok (.int (bs.count c : Nat)) A
  | _, _ => .stuck
end
end SM

namespace SM
open PySem L2
open DL (Ex ExK rJoin rIdxS)
section
variable {K : PySem.W.Frag} {ca : String → Addr} {F F1 F2 H H1 H2 : Hp} {m m1 m2 : List Addr} {A A1 A2 : Hs} {σ : L2.St} {env : Sl} {W : WX} {Q : VK}
variable {ta tb tc te to ti : TE} {a b c o : E} {i : Nat} {d : D} {ts : TA} {as : As} {x : V} {dx : D}
/-! ### methods of texts, one argument -/
/-! ### methods of dicts -/
def isDic (A : Hs) (x : D) : Bool := (dicAt A x).isSome
theorem isD_of (R : Rl K ca F m A H) (r : Rep K ca F m x dx) (h : isDic A dx = true) : ∃ a, x = .ref a ∧ L2.IsD H a := by
  unfold isDic dicAt at h
  cases r with
  | ref hm =>
    rename_i aa i
    simp only at h
    cases q : A[i]? with
    | none => simp [q] at h
    | some o =>
      cases o with
      | dic t lk l =>
        obtain ⟨a, e, ha, r⟩ := R.at q (.ref hm)
        cases e
        cases t with
        | false => obtain ⟨kvs, h1, _⟩ := r; exact ⟨aa, rfl, .inl ⟨kvs, rdK h1⟩⟩
        | true => obtain ⟨kvs, h1, _⟩ := r; exact ⟨aa, rfl, .inr ⟨kvs, rdK h1⟩⟩
      | lst _ => simp [q] at h
      | obj _ _ => simp [q] at h
  | _ => cases h
def getD (A : Hs) (x y z : D) : Option D := match dicAt A x with
  | some (t, l) => if keyOk t y then some ((kget l y).getD z) else none
  | none => none
def ofO {α : Type} (A : Hs) : Option α → RE α
  | some d => .ok d A
  | none => .stuck
/-- d.get(y, z) -/
def eGet2 (o i e : E) : E := fun env A => (o env A).bind fun x A1 => if isDic A1 x then (i env A1).bind fun y A2 => (e env A2).bind fun z A3 => ofO A3 (getD A3 x y z) else .stuck
theorem se_get2 {tz : TE} {e : E} (ho : SimE K ca W to a) (hi : SimE K ca W ti b) (he : SimE K ca W tz e) : SimE K ca W (tDGet2 to ti tz) (eGet2 a b e) := fun F m A σ H env Q R S p =>
  ho.bind R S p fun F1 m1 A1 H1 x dx R1 g1 S1 rx p1 => by
    by_cases q : isDic A1 dx = true
    · rw [if_pos q] at p1
      obtain ⟨aa, e1, h1⟩ := isD_of R1 rx q
      refine ⟨aa, e1, h1, hi.bind R1 S1 p1 fun F2 m2 A2 H2 y dy R2 g2 S2 ry p2 => he.bind R2 S2 p2 fun F3 m3 A3 H3 z dz R3 g3 S3 rz p3 => ?_⟩
      unfold getD at p3
      cases hl : dicAt A3 dx with
      | none => simp only [hl] at p3; exact p3.elim
      | some tl =>
        obtain ⟨t, l⟩ := tl
        simp only [hl] at p3
        by_cases hk : keyOk t dy = true
        · rw [if_pos hk] at p3
          obtain ⟨a2, oo, e2, h2, _, h3, h4⟩ := dic_get R3 (rx.mono (g2.trans g3).ff (g2.trans g3).mm) (ry.mono g3.ff g3.mm) hl hk
          rw [e1] at e2; cases e2
          refine ⟨oo, h2, ?_⟩
          cases w : kget l dy with
          | none =>
            rw [h4 w]; rw [w] at p3
            exact po_ok R3 rz p3
          | some dd =>
            obtain ⟨v, e3, rv⟩ := h3 dd w
            rw [e3]; rw [w] at p3
            exact po_ok R3 rv p3
        · rw [if_neg hk] at p3; exact p3.elim
    · rw [if_neg q] at p1; exact p1.elim
/-! ### a dict of the written part -/
inductive TabOk (K : PySem.W.Frag) (w : World) (da : Addr) : List (String × Int) → Prop
  | nil : TabOk K w da []
  | cons {k : String} {k' : Str} {n : Int} {r : List (String × Int)} : k' = fS k → KDct K w da k' (.int n) → TabOk K w da r → TabOk K w da ((k, n) :: r)
theorem TabOk.of {w : World} {da : Addr} {tb : List (String × Int)} (h : TabOk K w da tb) {z : Str} {n : String × Int} (q : (tb.find? fun e => decide (fS e.1 = z)) = some n) : KDct K w da z (.int n.2) := by
  induction h with
  | nil => cases q
  | cons e h1 h2 ih =>
    rename_i k k' n' r
    rw [List.find?_cons] at q
    by_cases c : fS k = z
    · simp only [c, decide_true] at q
      cases q
      rw [← c, ← e]; exact h1
    · simp only [c, decide_false] at q
      exact ih q
end
end SM

namespace DL
open PySem L2
theorem room65w {k : Nat} {A : Around} (r : Room k A) : A.units + 1 < cLine := by have := r.un; omega
end DL
namespace SM
open PySem L2
open DL (Ex ExK)
/-- a written text -/
def dS (s : String) : D := .str (fS s)
section
variable {K : PySem.W.Frag} {ca : String → Addr} {F F1 F2 H H1 H2 : Hp} {m m1 m2 : List Addr} {A A1 A2 A3 : Hs} {σ : L2.St} {env : Sl} {W : WX} {Q : VK}
variable {ta tb tc te to ti tv : TE} {a b c o v : E} {i : Nat} {d : D} {ts : TA} {as : As} {x : V} {dx : D} {cs : List String}
/-- xs or e, xs a list -/
def eOrL (a b : E) : E := fun env A => (a env A).bind fun x A1 => match seqL A1 x with
  | some l => if l.isEmpty then b env A1 else .ok x A1
  | none => .stuck
theorem se_orL (ha : SimE K ca W ta a) (hb : SimE K ca W tb b) : SimE K ca W (tOrT K ta tb) (eOrL a b) := fun F m A σ H env Q R S p =>
  ha.bind R S p fun F1 m1 A1 H1 x dx R1 g1 S1 rx p1 => by
    cases hl : seqL A1 dx with
    | none => simp only [hl] at p1; exact p1.elim
    | some l =>
      simp only [hl] at p1
      obtain ⟨aa, vs, e, h1, h2⟩ := seqL_at R1 rx hl
      refine ⟨!vs.isEmpty, by rw [e]; exact .inl ⟨vs, h1, rfl⟩, ?_⟩
      have : vs.isEmpty = l.isEmpty := by cases h2 <;> rfl
      rw [this]
      cases z : l.isEmpty with
      | true => rw [z] at p1; exact hb F1 m1 A1 σ H1 env Q R1 S1 p1
      | false => rw [z] at p1; exact po_ok R1 rx p1
def oBits (x : D) (A : Hs) : RE D := match x with
  | .int i => .ok (.int (Builtin.Int.intBits i : Nat)) A
  | _ => .stuck
theorem se_bits (ha : SimE K ca W ta a) : SimE K ca W (tBits ta) (eUn oBits a) := fun F m A σ H env Q R S p =>
  ha.bind R S p fun F1 m1 A1 H1 x dx R1 g1 S1 rx p1 => by
    cases rx with
    | int i => exact ⟨i, rfl, po_ok R1 (.int _) p1⟩
    | _ => exact p1.elim
/-! ### {k: v, ..} -/
abbrev Dps := Sl → Hs → RE (List (D × D))
def dNil : Dps := fun _ A => .ok [] A
def dCons (k v : E) (r : Dps) : Dps := fun env A => (k env A).bind fun x A1 => (v env A1).bind fun y A2 => (r env A2).bind fun ps A3 => .ok ((x, y) :: ps) A3
def kmerge (l : List (D × D)) : List (D × D) → List (D × D)
  | [] => l
  | (k, v) :: r => kmerge (kput l k v) r
def eDisp (d : Dps) : E := fun env A => (d env A).bind fun ps A1 => if (ps.all fun p => (keyK p.1).isSome) && decide (ps.length ≤ 15) then alloc A1 (.dic false false (kmerge [] ps)) else .stuck
inductive RepP (K : PySem.W.Frag) (ca : String → Addr) (F : Hp) (m : List Addr) : List (V × V) → List (D × D) → Prop
  | nil : RepP K ca F m [] []
  | cons {x y : V} {d e : D} {r : List (V × V)} {s : List (D × D)} : Rep K ca F m x d → Rep K ca F m y e → RepP K ca F m r s → RepP K ca F m ((x, y) :: r) ((d, e) :: s)
abbrev SimP (K : PySem.W.Frag) (ca : String → Addr) (W : WX) (trs : List (TE × TE)) (f : Dps) : Prop := Sim K ca (RepP K ca) W (tPairs trs) f
theorem sd_nil : SimP K ca W [] dNil := fun F m A σ H env Q R S p => p [] F m H R Stp.refl .nil
theorem sd_cons {tk tv : TE} {r : List (TE × TE)} {k v : E} {d : Dps} (hk : SimE K ca W tk k) (hv : SimE K ca W tv v) (hr : SimP K ca W r d) : SimP K ca W ((tk, tv) :: r) (dCons k v d) := fun F m A σ H env Q R S p =>
  hk.bind R S p fun F1 m1 A1 H1 x dx R1 g1 S1 rx p1 => hv.bind R1 S1 p1 fun F2 m2 A2 H2 y dy R2 g2 S2 ry p2 => hr.bind R2 S2 p2 fun F3 m3 A3 H3 ps ds R3 g3 S3 rs p3 =>
    p3 _ F3 m3 H3 R3 Stp.refl (.cons (rx.mono (g2.trans g3).ff (g2.trans g3).mm) (ry.mono g3.ff g3.mm) rs)
theorem kmerge_rep : ∀ {more : List (Key × V)} {ps : List (D × D)} {kvs : List (Key × V)} {l : List (D × D)}, KvR K ca F m kD more ps → KvR K ca F m kD kvs l → KvR K ca F m kD (L2.mergeK kvs more) (kmerge l ps)
  | _, _, _, _, .nil, h => h
  | _ :: more, _ :: ps, kvs, l, .cons (k := k) (v := v) r1 r2, h => kmerge_rep (more := more) (ps := ps) (kvs := putK kvs k v) r2 (kput_rep keq_kD r1 h)
theorem repP_keys : ∀ {vs : List (V × V)} {ps : List (D × D)}, RepP K ca F m vs ps → (ps.all fun p => (keyK p.1).isSome) = true → ∃ kvs : List (Key × V), vs = kvs.map (fun kv => (kV kv.1, kv.2)) ∧ KvR K ca F m kD kvs ps
  | _, _, .nil, _ => ⟨[], rfl, .nil⟩
  | _, _, .cons (d := d) r1 r2 rs, h => by
    rw [List.all_cons, Bool.and_eq_true] at h
    obtain ⟨kvs, h1, h2⟩ := repP_keys rs h.2
    obtain ⟨k, hk⟩ := Option.isSome_iff_exists.mp h.1
    have e := keyK_kD hk
    have e : d = kD k := e
    subst e
    refine ⟨(k, _) :: kvs, ?_, .cons r2 h2⟩
    rw [List.map_cons, ← h1]
    cases k with
    | inl i => cases r1; rfl
    | inr x => cases r1; rfl
theorem se_disp {trs : List (TE × TE)} {d : Dps} (h : SimP K ca W trs d) : SimE K ca W (tDisp trs) (eDisp d) := fun F m A σ H env Q R S p q hq => by
  obtain ⟨R1, g1⟩ := R.newH (u := .dK []) hq
  refine h F m A σ _ env _ R1 (S.stp g1) ?_
  unfold eDisp at p
  cases z : d env A with
  | stuck => rw [z] at p; exact p
  | exc C A1 => rw [z] at p; exact fun F' m' H' R' g' => p F' m' H' R' (g1.trans g')
  | ok ps A1 =>
    rw [z] at p
    intro vs F2 m2 H2 R2 g2 rp
    simp only [RE.bind] at p
    split at p
    · rename_i hk
      rw [Bool.and_eq_true, decide_eq_true_eq] at hk
      obtain ⟨kvs, e1, h2⟩ := repP_keys rp hk.1
      have hD : H2 q = some (.dK []) := g2.kp q _ upd_same (R.out hq)
      refine ⟨hD, kvs, e1, by rw [h2.length]; exact hk.2, ?_⟩
      have nm : q ∉ m2 := fun z => by
        rcases g2.gm q z with y | y
        · exact R.out hq y
        · rw [upd_same] at y; cases y
      have nF : F2 q = none := by
        cases w : F2 q with
        | none => rfl
        | some _ =>
          rcases g2.gn q (by rw [w]; simp) with y | y | ⟨xs, y⟩
          · exact absurd (R.fh.back hq) y
          · rw [upd_same] at y; cases y
          · have := R2.fh q _ y
            rw [hD] at this; cases this
      have gA : Stp F m H F2 m2 H2 := g1.trans g2
      have R3 : Rl K ca F2 m2 A1 (upd H2 q (.dK (L2.mergeK [] kvs))) := ⟨R2.fh.right nF, R2.len, R2.nd, R2.fr, fun j o b h1 h2 => (R2.ob j o b h1 h2).mono (Ex.refl _) (Pre.refl _) fun w hw => by
        rw [upd_ne fun z => nm (by rw [← z]; exact List.mem_of_getElem? h2)]; exact hw⟩
      have R4 := R3.take (o := .dic false false (kmerge [] ps)) nm nF ⟨_, upd_same, (kmerge_rep h2 .nil).mono (Ex.refl _) ⟨_, rfl⟩⟩
      refine p (.ref q) F2 (m2 ++ [q]) _ R4 ⟨gA.ff, gA.mm.trans ⟨_, rfl⟩, fun b w hb n => ?_, gA.gn, fun b hb => ?_, fun b hb z => ?_, fun b od w hb => ?_⟩ (.ref (by rw [List.getElem?_append_right (by rw [R2.len]; exact Nat.le_refl _), R2.len]; simp))
      · rw [upd_ne fun z => by rw [z, hq] at hb; cases hb]; exact gA.kp b w hb n
      · rcases List.mem_append.mp hb with y | y
        · exact gA.gm b y
        · rw [List.mem_singleton] at y; rw [y]; exact .inr hq
      · by_cases w : b = q
        · rw [w] at hb; exact hb hq
        · rw [upd_ne w] at z; exact gA.th b hb z
      · rw [upd_ne fun z => by rw [z, hq] at hb; cases hb]; exact gA.fz b od w hb
    · exact p.elim
/-! ### op= -/
/-- += : ints, a list longer, a tuple and a tuple, texts -/
def rIAdd (K : PySem.W.Frag) : TIp := fun x y H Q => DL.ipAddT K x y H Q ∨ rAddS x y H Q
theorem ip_addA {X : Cx} {K : PySem.W.Frag} (e : X.K = K := by rfl) : PIp X .Add (rIAdd K) := by
  subst e
  intro pins s σ H x y v u Q I rx ry h
  rcases h with h | h
  · exact DL.ip_addT (X := X) rfl pins s σ H x y v u Q I rx ry h
  · exact in_addS pins s σ H x y v u Q I rx ry h
def oIAdd (x y : D) (A : Hs) : RE D := match x, y with
  | .int i, .int j => .ok (.int (i + j)) A
  | .str z, .str w => if z.length + w.length ≤ sizeLine then .ok (.str (z ++ w)) A else .stuck
  | .tup l, .tup k => if l ≠ [] ∧ l.length + k.length ≤ sizeLine then .ok (.tup (l ++ k)) A else .stuck
  | .ref i, .ref j => match A[i]?, A[j]? with
    | some (.lst l), some (.lst k) => if l.length + k.length ≤ sizeLine then .ok (.ref i) (A.set i (.lst (l ++ k))) else .stuck
    | _, _ => .stuck
  | _, _ => .stuck
theorem ips_add : IpS K ca (rIAdd K) oIAdd := fun F m A H x y dx dy W σ Q R rx ry p => by
  cases rx with
  | int i =>
    cases ry with
    | int j => exact .inl (.inl (.inl ⟨i, j, rfl, rfl, po_ok R (.int _) p⟩))
    | _ => exact p.elim
  | str z =>
    cases ry with
    | str w =>
      unfold oIAdd at p
      simp only at p
      split at p
      · rename_i hl; exact .inr ⟨z, w, rfl, rfl, hl, po_ok R (.str _) p⟩
      · exact p.elim
    | _ => exact p.elim
  | tup s rs =>
    cases ry with
    | tup s' rs' =>
      rename_i a vs l b ws k
      unfold oIAdd at p
      simp only at p
      split at p
      · rename_i hl
        refine .inl (.inr ⟨a, b, vs, ws, rfl, rfl, .inl (.inl (R.fh _ _ s)), .inl (.inl (R.fh _ _ s')), fun z => ?_, by rw [rs.length, rs'.length]; exact hl.2, fun e => ?_, fun _ q hq => ?_⟩)
        · subst z; cases rs; exact hl.1 rfl
        · subst e; cases rs'; rw [List.append_nil] at p; exact po_ok R (.tup s rs) p
        · obtain ⟨R2, g2⟩ := R.new (u := .tup (vs ++ ws)) hq
          exact p _ _ _ _ R2 g2 (.tup upd_same ((rs.append rs').mono g2.ff g2.mm))
      · exact p.elim
    | _ => exact p.elim
  | ref hm =>
    cases ry with
    | ref hm' =>
      rename_i a i b j
      unfold oIAdd at p
      simp only at p
      split at p
      · rename_i l k q1 q2
        split at p
        · rename_i hl
          obtain ⟨a', vs, e1, h1, h2, h3⟩ := lst_at R (.ref hm) q1
          obtain ⟨b', ws, e2, h4, h5, h6⟩ := lst_at R (.ref hm') q2
          rw [e1]
          exact .inl (.inl (.inr ⟨a', b', vs, ws, rfl, e2, h2, h5, by rw [h3.length, h6.length]; exact hl, po_put R h1 h2 (h3.append h6) (.ref h1) p⟩))
        · exact p.elim
      · exact p.elim
    | _ => exact p.elim
  | _ => exact p.elim
/-! ### d[k] op= e, xs[i] op= e -/
/-- a dict's item -/
def sDAugP (op : D → D → Hs → RE D) (o i a : E) : S := fun env A => ofE env (o env A) fun x A1 => ofE env (i env A1) fun y A2 => ofE env (oDGet x y A2) fun z A3 => ofE env (a env A3) fun v A4 => ofE env (op z v A4) fun r A5 => if isLst A5 x then .stuck else ofH env (setIt A5 x y r)
/-- a list's item, by a place from 0 on -/
def getN (A : Hs) (x y : D) : Option D := match seqL A x, y with
  | some l, .int i => if 0 ≤ i then l[i.toNat]? else none
  | _, _ => none
def sLAugP (op : D → D → Hs → RE D) (o i a : E) : S := fun env A => ofE env (o env A) fun x A1 => ofE env (i env A1) fun y A2 => match getN A2 x y with
  | some z => ofE env (a env A2) fun v A4 => ofE env (op z v A4) fun r A5 => if isLst A5 x then ofH env (setIt A5 x y r) else .stuck
  | none => .stuck
/-! ### min of three -/
def c3 (f : D → D → D → Hs → RE D) : List D → Hs → RE D := fun ds A => match ds with
  | [d, e, g] => f d e g A
  | _ => .stuck
def oMin3 (x y z : D) (A : Hs) : RE D := match x, y, z with
  | .int i, .int j, .int k => .ok (.int (min (min i j) k)) A
  | _, _, _ => .stuck
end
end SM

/-! ## equations for the plain functions -/
namespace SM
open PySem L2
section
variable {α β : Type} {A A1 A2 A3 : Hs} {env e1 e2 : Sl} {a b c o v : E} {as : As} {d d1 d2 x y z : D} {i j k n : Nat} {p q r : Int} {C : String} {f g : S} {F : Fn} {cs os xs : List String} {tb : List (String × String × Bool)} {l l1 l2 : List D} {fs : List (String × D)}
theorem z2f {f : α → Hs → RE β} : (RE.exc C A : RE α).bind f = .exc C A := rfl
theorem z0b {f : α → Hs → RE β} : (RE.stuck : RE α).bind f = .stuck := rfl
theorem z60 {x : α} : (RE.ok x A).noX = .ok x A := rfl
theorem z42 : (RE.exc C A : RE α).noX = .stuck := rfl
theorem z5x {e : Sl} : eVar 0 (some d :: e) A = .ok d A := rfl
theorem z5v {e : Sl} {s : Option D} : eVar (n + 1) (s :: e) A = eVar n e A := rfl
theorem eC_ : eC d env A = .ok d A := rfl
theorem zaj {o : D → D → Hs → RE D} : eOp o a b env A = (a env A).bind fun x A1 => (b env A1).bind fun y A2 => o x y A2 := rfl
theorem z96 {o : D → Hs → RE D} : eUn o a env A = (a env A).bind fun x A1 => o x A1 := rfl
theorem z7m : aNil env A = .ok [] A := rfl
theorem z6f : aCons a as env A = (a env A).bind fun x A1 => (as env A1).bind fun xs A2 => .ok (x :: xs) A2 := rfl
theorem za0 {f : List D → Hs → RE D} : eCB f as env A = (as env A).bind f := rfl
theorem z4q : eCall F as env A = (as env A).bind F := rfl
theorem z3b : eCall0 F as env A = (as env A).bind fun ds A1 => (F ds A1).noX := rfl
theorem c1_ {f : D → Hs → RE D} : c1 f [d] A = f d A := rfl
theorem c2_ {f : D → D → Hs → RE D} : c2 f [d, d1] A = f d d1 A := rfl
theorem c3_ {f : D → D → D → Hs → RE D} : c3 f [d, d1, d2] A = f d d1 d2 A := rfl
/-- a truth, or stuck -/
def bl_ {α : Type} (r : RE D) (k : Bool → Hs → RE α) : RE α := match r with
  | .ok (.bl c) A => k c A
  | .ok _ _ => .stuck
  | .exc C A => .exc C A
  | .stuck => .stuck
theorem z8g {c : Bool} {k : Bool → Hs → RE α} : bl_ (.ok (.bl c) A) k = k c A := rfl
theorem z6j {k : Bool → Hs → RE α} : bl_ (.exc C A) k = .exc C A := rfl
theorem z8c : eAnd a b env A = bl_ (a env A) fun c A1 => if c = true then b env A1 else .ok (.bl false) A1 := by
  unfold eAnd bl_ RE.bind
  cases a env A with
  | ok x A1 => cases x with
    | bl c => cases c <;> rfl
    | _ => rfl
  | _ => rfl
theorem z9a : eOr a b env A = bl_ (a env A) fun c A1 => if c = true then .ok (.bl true) A1 else b env A1 := by
  unfold eOr bl_ RE.bind
  cases a env A with
  | ok x A1 => cases x with
    | bl c => cases c <;> rfl
    | _ => rfl
  | _ => rfl
theorem z6w : eNot a env A = bl_ (a env A) fun c A1 => .ok (.bl (!c)) A1 := by
  unfold eNot bl_ RE.bind
  cases a env A with
  | ok x A1 => cases x <;> rfl
  | _ => rfl
theorem z9y {o o' : D → D → Hs → RE D} : eCh o o' a b c env A = (a env A).bind fun x A1 => (b env A1).bind fun y A2 => bl_ (o x y A2) fun k A3 => if k = true then (c env A3).bind fun w A4 => o' y w A4 else .ok (.bl false) A3 := by
  unfold eCh bl_ RE.bind
  cases a env A with
  | ok x A1 =>
    simp only
    cases b env A1 with
    | ok y A2 =>
      simp only
      cases o x y A2 with
      | ok z A3 => cases z with
        | bl k => cases k <;> rfl
        | _ => rfl
      | _ => rfl
    | _ => rfl
  | _ => rfl
theorem za3 : tOf a env A = bl_ (a env A) fun c A1 => .ok c A1 := by
  unfold tOf bl_ RE.bind
  cases a env A with
  | ok x A1 => cases x <;> rfl
  | _ => rfl
theorem z9e {s t : Tt} : tAn s t env A = (s env A).bind fun c A1 => if c = true then t env A1 else .ok false A1 := rfl
theorem z9x {s t : Tt} : tOo s t env A = (s env A).bind fun c A1 => if c = true then .ok true A1 else t env A1 := rfl
theorem zad {s : Tt} : tNo s env A = (s env A).bind fun c A1 => .ok (!c) A1 := rfl
theorem z9g : tYe env A = .ok true A := rfl
theorem z9d {s : Tt} : eIf s a b env A = (s env A).bind fun c A1 => if c = true then a env A1 else b env A1 := rfl
theorem z7f : eTup as env A = (as env A).bind fun ds A1 => if ds.length ≤ sizeLine then .ok (.tup ds) A1 else .stuck := rfl
theorem z7p : eLst as env A = (as env A).bind fun ds A1 => if ds.length ≤ sizeLine then .ok (.ref A1.length) (A1 ++ [.lst ds]) else .stuck := rfl
theorem z0d {n : Nat} (h : n ≤ 16000000) : n ≤ sizeLine := by rw [sizeLine_eq]; omega
theorem small_line' {n : Nat} (h : n < 16000000) : n < sizeLine := by rw [sizeLine_eq]; omega
theorem z62 {t : Bool} : eDNew t env A = .ok (.ref A.length) (A ++ [.dic t false []]) := rfl
theorem za4 : oNo env A = .ok none A := rfl
def int_ {α : Type} (r : RE D) (k : Int → Hs → RE α) : RE α := match r with
  | .ok (.int c) A => k c A
  | .ok _ _ => .stuck
  | .exc C A => .exc C A
  | .stuck => .stuck
theorem z5k {c : Int} {k : Int → Hs → RE α} : int_ (.ok (.int c) A) k = k c A := rfl
theorem z9n : oSo a env A = int_ (a env A) fun c A1 => .ok (some c) A1 := by
  unfold oSo int_ RE.bind
  cases a env A with
  | ok x A1 => cases x <;> rfl
  | _ => rfl
theorem z9l {o : D → Option Int → Option Int → Hs → RE D} {lo hi : Sl → Hs → RE (Option Int)} : eSl o a lo hi env A = (a env A).bind fun x A1 => (lo env A1).bind fun l A2 => (hi env A2).bind fun h A3 => o x l h A3 := rfl
/-! statements -/
def seqR (r : RS) (b : S) : RS := match r with
  | .nx env' A' => b env' A'
  | r => r
theorem z67 : seqR (.rt d A) g = .rt d A := rfl
theorem z3z : seqR (.exc C env A) g = .exc C env A := rfl
theorem z55 : seqR (.bk env A) g = .bk env A := rfl
theorem z6q : seqR (.ct env A) g = .ct env A := rfl
theorem z1j : seqR .stuck g = .stuck := rfl
theorem z9z : sNx env A = .nx env A := rfl
theorem z9f : sBk env A = .bk env A := rfl
theorem z94 : sCt env A = .ct env A := rfl
theorem z2v : sRaise C env A = .exc C env A := rfl
theorem z6e {k : D → Hs → RS} : ofE env (.ok d A) k = k d A := rfl
theorem z3m {k : D → Hs → RS} : ofE env (.exc C A) k = .exc C env A := rfl
theorem z6h {c : Bool} {k : Bool → Hs → RS} : ofT env (.ok c A) k = k c A := rfl
theorem z43 {k : Bool → Hs → RS} : ofT env (.exc C A) k = .exc C env A := rfl
theorem z5z : sDrop a env A = ofE env (a env A) fun _ A1 => .nx env A1 := rfl
theorem z71 : sRet a env A = ofE env (a env A) fun d A1 => .rt d A1 := rfl
theorem z65 : sRetN env A = .rt .non A := rfl
theorem z9b {t : Tt} : sIf t f g env A = ofT env (t env A) fun c A1 => if c = true then f env A1 else g env A1 := rfl
theorem z6y : sSet i a env A = ofE env (a env A) fun d A1 => .nx (env.set i (some d)) A1 := rfl
def ofS (r : Option Sl) (A : Hs) : RS := match r with
  | some env' => .nx env' A
  | none => .stuck
theorem z21 : ofS (some env) A = .nx env A := rfl
theorem z7e {g : G} : sAsg a g env A = ofE env (a env A) fun d A1 => ofS (g d env A1) A1 := by
  unfold sAsg ofS; rfl
theorem gN_ : gN i d env A = some (env.set i (some d)) := rfl
theorem z4p {gs : List G} : gT gs (.tup l) env A = gAll gs l env A := rfl
theorem z29 : gAll [] [] env A = some env := rfl
theorem z0r {g : G} {gs : List G} : gAll (g :: gs) (d :: l) env A = (g d env A).bind fun e => gAll gs l e A := by
  rw [gAll]; cases g d env A <;> rfl
def par_ (env : Sl) (i j : Nat) (r : RE (List D)) : RS := match r with
  | .ok [x, y] A1 => .nx ((env.set i (some x)).set j (some y)) A1
  | .exc C A1 => .exc C env A1
  | _ => .stuck
theorem z8d : sPar i j as env A = par_ env i j (as env A) := rfl
theorem z5b : par_ env i j (.ok [x, y] A) = .nx ((env.set i (some x)).set j (some y)) A := rfl
def var_ (env : Sl) (i : Nat) (k : D → RS) : RS := match env[i]? with
  | some (some x) => k x
  | _ => .stuck
theorem z7y {e : Sl} {k : D → RS} : var_ (some d :: e) 0 k = k d := rfl
theorem z72 {e : Sl} {s : Option D} {k : D → RS} : var_ (s :: e) (n + 1) k = var_ e n k := rfl
theorem z77 {o : D → D → Hs → RE D} : sAug i o a env A = var_ env i fun x => ofE env (a env A) fun y A1 => ofE env (o x y A1) fun z A2 => .nx (env.set i (some z)) A2 := rfl
def finR (r : RS) : RE D := match r with
    | .nx _ A' => .ok .non A'
    | .rt d A' => .ok d A'
    | .exc C _ A' => .exc C A'
    | _ => .stuck
theorem z4z : finR (.nx env A) = .ok .non A := rfl
theorem z5l : finR (.rt d A) = .ok d A := rfl
theorem z35 : finR (.exc C env A) = .exc C A := rfl
theorem z19 : finR .stuck = .stuck := rfl
theorem z7z (h : l.length = n) : mkFn n k f l A = finR (f (l.map some ++ List.replicate (k - n) none) A) := by
  unfold mkFn; rw [if_pos h]; unfold finR; rfl
theorem z7k {e : Sl} {s t : Option D} : List.set (s :: e) 0 t = t :: e := rfl
theorem z7j {e : Sl} {s t : Option D} : List.set (s :: e) (n + 1) t = s :: List.set e n t := rfl
/-! operators -/
theorem z5d : oAdd (.int p) (.int q) A = .ok (.int (p + q)) A := rfl
theorem z5n (h : l.length + l1.length ≤ 16000000) : oAdd (.tup l) (.tup l1) A = .ok (.tup (l ++ l1)) A := by
  unfold oAdd; simp only; rw [if_pos (z0d h)]
theorem z5m {s t : Str} (h : s.length + t.length ≤ 16000000) : oAdd (.str s) (.str t) A = .ok (.str (s ++ t)) A := by
  unfold oAdd; simp only; rw [if_pos (z0d h)]
theorem z5t : oSub (.int p) (.int q) A = .ok (.int (p - q)) A := rfl
theorem z66 (h : -18446744073709551616 < q ∧ q < 18446744073709551616) : oMul (.int p) (.int q) A = .ok (.int (p * q)) A := by
  unfold oMul; simp only; rw [if_pos (.inl (.inr ⟨by have := h.1; omega, by have := h.2; omega⟩))]
theorem z4t (h : -18446744073709551616 < p ∧ p < 18446744073709551616) : oMul (.int p) (.int q) A = .ok (.int (p * q)) A := by
  unfold oMul; simp only; rw [if_pos (.inl (.inl ⟨by have := h.1; omega, by have := h.2; omega⟩))]
theorem z6n (h : l.length ≤ 1000 ∧ -1000 ≤ q ∧ q ≤ 4000) : oMul (.tup l) (.int q) A = .ok (.tup (List.replicate q.toNat l).flatten) A := by
  unfold oMul; simp only; rw [if_pos h]
theorem log_small {q : Int} (h : 0 < q ∧ q < 18446744073709551616) : q.natAbs.log2 < 9000 := by
  have : q.natAbs < 2 ^ 64 := by omega
  by_cases z : q.natAbs = 0
  · rw [z]; decide
  · have := (Nat.log2_lt z).mpr this; omega
theorem z5p (h : 0 < q ∧ q < 18446744073709551616) : oDiv (.int p) (.int q) A = .ok (.int (p / q)) A := by
  unfold oDiv oII; simp only; rw [if_pos ⟨h.1, log_small h⟩]
theorem z6c (h : 0 < q) : oMod (.int p) (.int q) A = .ok (.int (p % q)) A := by
  unfold oMod oII; simp only; rw [if_pos h]
theorem z4u (h : 0 ≤ q ∧ q ≤ 1000000 ∧ p.natAbs < 18446744073709551616) : oPow (.int p) (.int q) A = .ok (.int (p ^ q.toNat)) A := by
  unfold oPow oII; simp only; rw [if_pos ⟨h.1, h.2.1, by have := h.2.2; omega⟩]
theorem z86 : oLt (.int p) (.int q) A = .ok (.bl (decide (p < q))) A := rfl
theorem z7h : oLe (.int p) (.int q) A = .ok (.bl (decide (p ≤ q))) A := rfl
theorem z7v : oGt (.int p) (.int q) A = .ok (.bl (decide (q < p))) A := rfl
theorem z7t : oGe (.int p) (.int q) A = .ok (.bl (decide (q ≤ p))) A := rfl
theorem z6g : oNeg (.int p) A = .ok (.int (-p)) A := rfl
theorem z3r : oMax2 (.int p) (.int q) A = .ok (.int (max p q)) A := by
  show RE.ok (D.int (if q > p then q else p)) A = _
  congr 2; omega
theorem z46 : oMin2 (.int p) (.int q) A = .ok (.int (min p q)) A := by
  show RE.ok (D.int (if q < p then q else p)) A = _
  congr 2; omega
theorem z3s : oMin3 (.int p) (.int q) (.int r) A = .ok (.int (min (min p q) r)) A := rfl
theorem z5a : oInt (.int p) A = .ok (.int p) A := rfl
theorem z6o {b : Bool} : oInt (.bl b) A = .ok (.int (if b then 1 else 0)) A := rfl
theorem z8f : oEq (.int p) (.int q) A = .ok (.bl (decide (p = q))) A := by
  unfold oEq oB eqA; simp [pyA, PyData.eqv]; rfl
theorem z89 : oNe (.int p) (.int q) A = .ok (.bl (!decide (p = q))) A := by
  unfold oNe oB eqA; simp [pyA, PyData.eqv]; rfl
theorem z31 {s t : Str} : oEq (.str s) (.str t) A = .ok (.bl (decide (s = t))) A := by
  unfold oEq oB eqA; simp [pyA, PyData.eqv]; rfl
theorem z3g {s t : Str} : oNe (.str s) (.str t) A = .ok (.bl (!decide (s = t))) A := by
  unfold oNe oB eqA; simp [pyA, PyData.eqv]; rfl
theorem z78 {s t : String} : oEq (dS s) (dS t) A = .ok (.bl (decide (s = t))) A := by
  unfold dS; rw [z31]; congr 3; exact propext fS_inj
theorem z7x {s t : String} : oNe (dS s) (dS t) A = .ok (.bl (!decide (s = t))) A := by
  unfold dS; rw [z3g]; congr 4; exact propext fS_inj
theorem eqA_of {b : Bool} (h : eqA A x y = some b) : oEq x y A = .ok (.bl b) A := by unfold oEq oB; rw [h]
theorem neA_of {b : Bool} (h : eqA A x y = some b) : oNe x y A = .ok (.bl (!b)) A := by unfold oNe oB; simp only [h]; rfl
theorem z4c : oIs x .non A = .ok (.bl (isNon x)) A := rfl
theorem z0n : oIsNot x .non A = .ok (.bl (!isNon x)) A := rfl
theorem z6a {b c : Bool} : oIs (.bl b) (.bl c) A = .ok (.bl (decide (b = c))) A := rfl
theorem z0z {b c : Bool} : oIsNot (.bl b) (.bl c) A = .ok (.bl (!decide (b = c))) A := rfl
theorem z1i : isNon .non = true := rfl
theorem z0y : isNon (.int p) = false := rfl
theorem z2m {b : Bool} : isNon (.bl b) = false := rfl
theorem z14 : isNon (.ref i) = false := rfl
theorem z1l : isNon (.tup l) = false := rfl
theorem z0x {s : Str} : isNon (.str s) = false := rfl
theorem z1y {s : String} : isNon (dS s) = false := rfl
theorem z18 : isNon (.exc C) = false := rfl
theorem z1e : oIsi os xs tb (.int p) (.ty "int") A = .ok (.bl true) A := rfl
theorem z08 : oIsi os xs tb (.int p) (.ty "bool") A = .ok (.bl false) A := rfl
theorem z1m {b : Bool} : oIsi os xs tb (.bl b) (.ty "int") A = .ok (.bl true) A := rfl
theorem z0c {b : Bool} : oIsi os xs tb (.bl b) (.ty "bool") A = .ok (.bl true) A := rfl
theorem z1g : oIsi os xs tb .non (.ty "int") A = .ok (.bl false) A := rfl
theorem z09 : oIsi os xs tb .non (.ty "bool") A = .ok (.bl false) A := rfl
theorem z0s : oIsi os xs tb .non (.ty "str") A = .ok (.bl false) A := rfl
theorem z02 : oIsi os xs tb .non (.ty "tuple") A = .ok (.bl false) A := rfl
theorem z0j : oIsi os xs tb .non (.ty "list") A = .ok (.bl false) A := rfl
theorem z13 {s : Str} : oIsi os xs tb (.str s) (.ty "int") A = .ok (.bl false) A := rfl
theorem z0m {s : Str} : oIsi os xs tb (.str s) (.ty "bool") A = .ok (.bl false) A := rfl
theorem z11 {s : Str} : oIsi os xs tb (.str s) (.ty "str") A = .ok (.bl true) A := rfl
theorem z01 {s : Str} : oIsi os xs tb (.str s) (.ty "tuple") A = .ok (.bl false) A := rfl
theorem z10 : oIsi os xs tb (.tup l) (.ty "int") A = .ok (.bl false) A := rfl
theorem z0e : oIsi os xs tb (.tup l) (.ty "bool") A = .ok (.bl false) A := rfl
theorem z06 : oIsi os xs tb (.tup l) (.ty "tuple") A = .ok (.bl true) A := rfl
theorem z0g : oIsi os xs tb (.tup l) (.ty "list") A = .ok (.bl false) A := rfl
theorem z17 : oIsi os xs tb (.tup l) (.ty "str") A = .ok (.bl false) A := rfl
theorem z03 : oIsi os xs tb (.int p) (.ty "tuple") A = .ok (.bl false) A := rfl
theorem z1n : oIsi os xs tb (.int p) (.ty "str") A = .ok (.bl false) A := rfl
theorem z0l : oIsi os xs tb (.int p) (.ty "list") A = .ok (.bl false) A := rfl
theorem z07 {b : Bool} : oIsi os xs tb (.bl b) (.ty "tuple") A = .ok (.bl false) A := rfl
theorem z1h {b : Bool} : oIsi os xs tb (.bl b) (.ty "str") A = .ok (.bl false) A := rfl
theorem isi_l (h : A[i]? = some (.lst l)) : oIsi os xs tb (.ref i) (.ty "list") A = .ok (.bl true) A ∧ oIsi os xs tb (.ref i) (.ty "tuple") A = .ok (.bl false) A ∧ oIsi os xs tb (.ref i) (.ty "int") A = .ok (.bl false) A ∧ oIsi os xs tb (.ref i) (.ty "bool") A = .ok (.bl false) A := by
  unfold oIsi isiD kdOf; simp only [h]; exact ⟨rfl, rfl, rfl, rfl⟩
/-! the heap -/
theorem z1o : seqL A (.scr l) = some l := rfl
theorem z1u : seqL A (.tup l) = none := rfl
theorem z23 {s : Str} : seqL A (.str s) = none := rfl
theorem z5q : oLen (.tup l) A = .ok (.int l.length) A := rfl
theorem z53 {s : Str} (h : s.length ≤ 16000000) : oLen (.str s) A = .ok (.int s.length) A := by
  unfold oLen lenA; simp only [seqL, seqT]; rw [if_pos (z0d h)]
theorem z24 : oTuple (.tup l) A = .ok (.tup l) A := rfl
theorem z3c : oList (.tup l) A = .ok (.ref A.length) (A ++ [.lst l]) := rfl
theorem z7c {lo hi : Option Int} : oSl (.tup l) lo hi A = .ok (.tup (cutD l lo hi)) A := rfl
def fld_ (r : Option D) (A : Hs) : RE D := match r with
  | some d => .ok d A
  | none => .stuck
theorem z2e : fld_ (some d) A = .ok d A := rfl
theorem z6v {f : String} : eFld cs f a env A = (a env A).bind fun x A1 => fld_ (getFld cs f A1 x) A1 := rfl
theorem zab {f : String} : sFl cs f o a env A = ofE env (a env A) fun d A1 => ofE env (o env A1) fun x A2 => ofH env (setFld cs A2 x f d) := by
  unfold sFl ofH; rfl
theorem z1x : ofH env (some A) = .nx env A := rfl
theorem z3l {f : String} {op : D → D → Hs → RE D} : sFlAug cs f op o a env A = ofE env (o env A) fun x A1 => ofE env (fld_ (getFld cs f A1 x) A1) fun v A1 => ofE env (a env A1) fun y A2 => ofE env (op v y A2) fun z A3 => ofH env (setFld cs A3 x f z) := by
  unfold sFlAug ofH
  congr
  funext x A1
  cases getFld cs f A1 x <;> rfl
theorem z2d {f : String} : putF f d [] = [(f, d)] := rfl
theorem z0q {f g : String} : putF f d ((g, x) :: fs) = if g = f then (g, d) :: fs else (g, x) :: putF f d fs := rfl
theorem z3u : oIAdd (.int p) (.int q) A = .ok (.int (p + q)) A := rfl
def meth_ (r : Option Fn) (k : Fn → RE D) : RE D := match r with
  | some f => k f
  | none => .stuck
theorem z0w {k : Fn → RE D} : meth_ (some F) k = k F := rfl
theorem z5f {m : String} {t : List (String × Fn)} : eMeth m t o as env A = (o env A).bind fun x A1 => meth_ (methOf m t A1 x) fun f => (as env A1).bind fun ds A2 => f (x :: ds) A2 := by
  unfold eMeth meth_; rfl
theorem z4e {m : String} {t : List (String × Fn)} : eMeth0 m t o as env A = (o env A).bind fun x A1 => meth_ (methOf m t A1 x) fun f => (as env A1).bind fun ds A2 => (f (x :: ds) A2).noX := by
  unfold eMeth0 meth_; rfl
theorem make_ok {ds : List D} (h : F (.ref A.length :: ds) (A ++ [.obj C []]) = .ok .non A1) : make C F ds A = .ok (.ref A.length) A1 := by unfold make; rw [h]
theorem z5w : eMake C F as env A = (as env A).bind fun ds A1 => make C F ds A1 := rfl
theorem z49 : eMake0 C F as env A = (as env A).bind fun ds A1 => (make C F ds A1).noX := rfl
theorem z8n : sPut o b a env A = ofE env (a env A) fun v A1 => ofE env (o env A1) fun x A2 => ofE env (b env A2) fun y A3 => ofH env (setIt A3 x y v) := rfl
theorem z40 {s : String} : keyOk false (dS s) = true := rfl
theorem z45 : keyOk false (.int p) = true := rfl
theorem z4y {s t : String} : keq (dS s) (dS t) = decide (s = t) := by
  show decide (fS s = fS t) = decide (s = t)
  simp only [fS_inj]
theorem z5u : keq (.int p) (.int q) = decide (p = q) := rfl
def augL_ (env : Sl) (r : Option D) (k : D → RS) : RS := match r with
  | some z => k z
  | none => .stuck
theorem z0t {k : D → RS} : augL_ env (some d) k = k d := rfl
theorem z3f {op : D → D → Hs → RE D} : sLAugP op o b a env A = ofE env (o env A) fun x A1 => ofE env (b env A1) fun y A2 => augL_ env (getN A2 x y) fun z => ofE env (a env A2) fun v A4 => ofE env (op z v A4) fun r A5 => if isLst A5 x then ofH env (setIt A5 x y r) else .stuck := by
  unfold sLAugP augL_; rfl
theorem z3p {op : D → D → Hs → RE D} : sDAugP op o b a env A = ofE env (o env A) fun x A1 => ofE env (b env A1) fun y A2 => ofE env (oDGet x y A2) fun z A3 => ofE env (a env A3) fun v A4 => ofE env (op z v A4) fun r A5 => if isLst A5 x then .stuck else ofH env (setIt A5 x y r) := rfl
/-! methods of lists -/
theorem z9k {o : D → List D → Hs → RE D} : eBL o a as env A = (a env A).bind fun x A1 => if (seqL A1 x).isSome then (as env A1).bind fun ds A2 => o x ds A2 else .stuck := rfl
theorem z7d {o : D → Hs → RE D} : eBL0 o a env A = (a env A).bind fun x A1 => if (seqL A1 x).isSome then o x A1 else .stuck := rfl
/-! walks -/
def ofW (env : Sl) (r : RE Wk) (k : Wk → Hs → RS) : RS := match r with
  | .ok w A => k w A
  | .exc C A => .exc C env A
  | .stuck => .stuck
theorem z6b {w : Wk} {k : Wk → Hs → RS} : ofW env (.ok w A) k = k w A := rfl
theorem z8k {w : Sl → Hs → RE Wk} {g : G} : sFor w g f env A = ofW env (w env A) fun k A1 => forL g f k.gd k.ds env A1 := by unfold sFor ofW; rfl
def wk_ (r : Option Wk) (A : Hs) : RE Wk := match r with
  | some k => .ok k A
  | none => .stuck
theorem z34 {w : Wk} : wk_ (some w) A = .ok w A := rfl
theorem z9m {f : Hs → D → Option Wk} : wOf f a env A = (a env A).bind fun x A1 => wk_ (f A1 x) A1 := by unfold wOf wk_; rfl
theorem z8i : wSeq a env A = (a env A).bind fun x A1 => wk_ (wkA A1 x) A1 := z9m
theorem z8t {f : List D → Option Wk} : wAs f as env A = (as env A).bind fun x A1 => wk_ (f x) A1 := by unfold wAs wk_; rfl
theorem z4a : wkA A (.tup l) = some ⟨l, tt⟩ := rfl
theorem z3e : wkA A (.scr l) = some ⟨l, tt⟩ := rfl
theorem z36 : wkE A (.scr l) = some ⟨enumL l, tt⟩ := rfl
theorem zah (h : -4611686018427387904 ≤ p ∧ p < 4611686018427387904) : rg1 [.int p] = some ⟨rgL 0 1 p.toNat, tt⟩ := by
  unfold rg1; simp only; rw [if_pos ⟨by have := h.1; omega, by have := h.2; omega⟩]
theorem z92 (h : -4611686018427387904 ≤ p ∧ p < 4611686018427387904 ∧ -4611686018427387904 ≤ q ∧ q < 4611686018427387904) : rg2 [.int p, .int q] = some ⟨rgL p 1 (q - p).toNat, tt⟩ := by
  unfold rg2; simp only; rw [if_pos ⟨⟨by have := h.1; omega, by have := h.2.1; omega⟩, ⟨by have := h.2.2.1; omega, by have := h.2.2.2; omega⟩⟩]
theorem za8 (h : -1152921504606846976 ≤ p ∧ p < 1152921504606846976 ∧ -1152921504606846976 ≤ q ∧ q < 1152921504606846976 ∧ 0 < r ∧ r < 1000000) : rg3 [.int p, .int q, .int r] = some ⟨rgL p r (cnt p q r), tt⟩ := by
  unfold rg3; simp only; rw [if_pos ⟨by have := h.1; omega, by have := h.2.1; omega, by have := h.2.2.1; omega, by have := h.2.2.2.1; omega, h.2.2.2.2.1, h.2.2.2.2.2⟩]
theorem forL_nil {g : G} {gd : Hs → Prop} (h : gd A) : forL g f gd [] env A = .nx env A := by unfold forL; rw [if_pos h]
def turnR (r : RS) (k : S) : RS := match r with
  | .nx e A => k e A
  | .ct e A => k e A
  | .bk e A => .nx e A
  | r => r
theorem z3j {k : S} : turnR (.nx env A) k = k env A := rfl
theorem z3q {k : S} : turnR (.ct env A) k = k env A := rfl
theorem z4d {k : S} : turnR (.rt d A) k = .rt d A := rfl
theorem z44 {k : S} : turnR (.bk env A) k = .nx env A := rfl
theorem z28 {k : S} : turnR (.exc C env A) k = .exc C env A := rfl
theorem forL_cons {g : G} {gd : Hs → Prop} (h : gd A) (hg : g d env A = some e1) : forL g f gd (d :: l) env A = turnR (f e1 A) (forL g f gd l) := by
  rw [forL]; rw [if_pos h, hg]; rfl
/-- a for by what stays true -/
theorem for_inv {g : G} {gd : Hs → Prop} (I : Nat → Sl → Hs → Prop) (R : RS → Prop) {ds : List D} (h0 : I 0 env A) (hg : ∀ i e A, i ≤ ds.length → I i e A → gd A)
    (hs : ∀ i e A d, ds[i]? = some d → I i e A → ∃ e1, g d e A = some e1 ∧ ((∃ e2 A2, (f e1 A = .nx e2 A2 ∨ f e1 A = .ct e2 A2) ∧ I (i + 1) e2 A2) ∨ (∃ d2 A2, f e1 A = .rt d2 A2 ∧ R (.rt d2 A2)) ∨ (∃ e2 A2, f e1 A = .bk e2 A2 ∧ R (.nx e2 A2)) ∨ (∃ C e2 A2, f e1 A = .exc C e2 A2 ∧ R (.exc C e2 A2))))
    (hd : ∀ e A, I ds.length e A → R (.nx e A)) : R (forL g f gd ds env A) := by
  have main : ∀ (m : Nat) (e : Sl) (A : Hs), m ≤ ds.length → I m e A → R (forL g f gd (ds.drop m) e A) := by
    intro m
    generalize hk : ds.length - m = k
    induction k generalizing m with
    | zero =>
      intro e A hm hI
      have : m = ds.length := by omega
      subst this
      rw [List.drop_length, forL_nil (hg _ _ _ hm hI)]
      exact hd e A hI
    | succ k ih =>
      intro e A hm hI
      have hlt : m < ds.length := by omega
      rw [List.drop_eq_getElem_cons hlt]
      obtain ⟨e1, h1, h2⟩ := hs m e A ds[m] (by simp [hlt]) hI
      rw [forL_cons (hg _ _ _ hm hI) h1]
      rcases h2 with ⟨e2, A2, h2, h3⟩ | ⟨d2, A2, h2, h3⟩ | ⟨e2, A2, h2, h3⟩ | ⟨C, e2, A2, h2, h3⟩
      · rcases h2 with h2 | h2
        · rw [h2, z3j]; exact ih (m + 1) (by omega) e2 A2 (by omega) h3
        · rw [h2, z3q]; exact ih (m + 1) (by omega) e2 A2 (by omega) h3
      · rw [h2]; exact h3
      · rw [h2]; exact h3
      · rw [h2]; exact h3
  have := main 0 env A (Nat.zero_le _) h0
  rwa [List.drop_zero] at this
/-- a while by what stays true and a number that falls -/
theorem wh_inv {t : Tt} (I : Nat → Sl → Hs → Prop) (R : RS → Prop) {n : Nat} (h0 : I n env A)
    (hs : ∀ n e A, I n e A → (∃ A1, t e A = .ok false A1 ∧ R (.nx e A1)) ∨ (∃ A1, t e A = .ok true A1 ∧ ((∃ e2 A2, (f e A1 = .nx e2 A2 ∨ f e A1 = .ct e2 A2) ∧ ∃ m, m < n ∧ I m e2 A2) ∨ (∃ d2 A2, f e A1 = .rt d2 A2 ∧ R (.rt d2 A2)) ∨ (∃ e2 A2, f e A1 = .bk e2 A2 ∧ R (.nx e2 A2)) ∨ (∃ C e2 A2, f e A1 = .exc C e2 A2 ∧ R (.exc C e2 A2))))) : R (sWh t f env A) := by
  induction n using Nat.strongRecOn generalizing env A with
  | _ n ih =>
    rw [sWh_turn]
    rcases hs n env A h0 with ⟨A1, h1, h2⟩ | ⟨A1, h1, h2⟩
    · rw [h1]; exact h2
    · rw [h1]
      simp only [ofT, if_true]
      rcases h2 with ⟨e2, A2, h2, m, hm, h3⟩ | ⟨d2, A2, h2, h3⟩ | ⟨e2, A2, h2, h3⟩ | ⟨C, e2, A2, h2, h3⟩
      · rcases h2 with h2 | h2
        · rw [h2]; exact ih m hm h3
        · rw [h2]; exact ih m hm h3
      · rw [h2]; exact h3
      · rw [h2]; exact h3
      · rw [h2]; exact h3
def lc_ (r : RE (List D)) : RE D := match r with
  | .ok l A2 => alloc A2 (.lst l)
  | _ => .stuck
theorem z6s : lc_ (.ok l A) = .ok (.ref A.length) (A ++ [.lst l]) := rfl
theorem z9c {w : Sl → Hs → RE Wk} {g : G} {t : Tt} {vs : List Nat} : eLc w g t a vs env A = (w env A).bind fun k A1 => lc_ (lcL g t a k.gd (wipeS env vs) k.ds [] A1) := by unfold eLc lc_; rfl
/-- a comprehension whose parts leave the heap as it is -/
theorem lc_pure {g : G} {t : Tt} {gd : Hs → Prop} (p : D → Bool) (h : D → D) {ds acc : List D} (hgd : gd A) (hl : acc.length + ds.length < 16000000)
    (hs : ∀ d ∈ ds, ∃ e1, g d env A = some e1 ∧ t e1 A = .ok (p d) A ∧ (p d = true → a e1 A = .ok (h d) A)) : lcL g t a gd env ds acc A = .ok (acc ++ (ds.filter p).map h) A := by
  induction ds generalizing acc with
  | nil => rw [lcL, if_pos hgd]; simp
  | cons d ds ih =>
    obtain ⟨e1, h1, h2, h3⟩ := hs d List.mem_cons_self
    rw [lcL, if_pos hgd, h1]
    simp only [h2]
    cases q : p d with
    | false =>
      simp only
      rw [ih (by rw [List.length_cons] at hl; omega) fun d' hd => hs d' (List.mem_cons_of_mem _ hd), List.filter_cons, q]
      rfl
    | true =>
      simp only [h3 q]
      rw [if_pos (small_line' (by rw [List.length_cons] at hl; omega)), ih (by rw [List.length_cons] at hl; rw [List.length_append, List.length_singleton]; omega) fun d' hd => hs d' (List.mem_cons_of_mem _ hd), List.filter_cons, q]
      simp
end
end SM

/-! ## frames, equal data, slices -/
namespace SM
open PySem L2
section
variable {α β : Type} {A A1 A2 A3 : Hs} {env e1 e2 : Sl} {a b c o v : E} {as : As} {d d1 d2 x y z : D} {i j k n : Nat} {p q r : Int} {C : String} {f g : S} {F : Fn} {cs os xs : List String} {tb : List (String × String × Bool)} {l l1 l2 : List D} {fs : List (String × D)} {s s1 s2 : List Nat} {u u1 u2 : O}
/-- what a piece of code leaves alone -/
def Fr (s : List Nat) (A A1 : Hs) : Prop := A.length ≤ A1.length ∧ ∀ j, j < A.length → j ∉ s → A1[j]? = A[j]?
theorem Fr.refl : Fr s A A := ⟨Nat.le_refl _, fun _ _ _ => rfl⟩
theorem Fr.trans (h : Fr s A A1) (k : Fr s A1 A2) : Fr s A A2 := ⟨Nat.le_trans h.1 k.1, fun j hj hn => (k.2 j (Nat.lt_of_lt_of_le hj h.1) hn).trans (h.2 j hj hn)⟩
theorem Fr.mono (h : Fr s A A1) (hs : ∀ j ∈ s, j ∈ s2) : Fr s2 A A1 := ⟨h.1, fun j hj hn => h.2 j hj fun h3 => hn (hs j h3)⟩
theorem lt_of_get {α : Type} {A : List α} {u : α} (h : A[i]? = some u) : i < A.length := by
  rcases Nat.lt_or_ge i A.length with h1 | h1
  · exact h1
  · rw [List.getElem?_eq_none h1] at h; cases h
theorem Fr.get (h : Fr s A A1) (g : A[j]? = some u) (hn : j ∉ s) : A1[j]? = some u := (h.2 j (lt_of_get g) hn).trans g
theorem Fr.le (h : Fr s A A1) : A.length ≤ A1.length := h.1
theorem Fr.set (h : i ∈ s) : Fr s A (A.set i u) := ⟨by simp, fun j hj hn => List.getElem?_set_ne fun (e : i = j) => hn (e ▸ h)⟩
theorem Fr.push : Fr s A (A ++ [u]) := ⟨by simp, fun j hj hn => by rw [List.getElem?_append_left hj]⟩
theorem Fr.then_set (h : Fr s A A1) (hi : i ∈ s ∨ A.length ≤ i) : Fr s A (A1.set i u) := ⟨by simpa using h.1, fun j hj hn => by
  rw [List.getElem?_set_ne fun (e : i = j) => hi.elim (fun h2 => hn (e ▸ h2)) fun h2 => by omega]
  exact h.2 j hj hn⟩
theorem Fr.then_push (h : Fr s A A1) : Fr s A (A1 ++ [u]) := h.trans .push
theorem get_push (h : A[j]? = some u1) : (A ++ [u])[j]? = some u1 := (List.getElem?_append_left (lt_of_get h)).trans h
theorem z2n : (A.set i u).set i u1 = A.set i u1 := List.set_set ..
theorem z3y : (A.set i u).length = A.length := by simp
/-! data without a heap -/
def pd : Nat → D → Bool
  | _, .non => true
  | _, .bl _ => true
  | _, .int _ => true
  | _, .str _ => true
  | n + 1, .tup l => l.all (pd n)
  | n + 1, .scr l => l.all (pd n)
  | n + 1, .wt l => l.all (pd n)
  | _, _ => false
theorem pd_bl {b : Bool} : pd n (.bl b) = true := by cases n <;> rfl
theorem pd_int : pd n (.int p) = true := by cases n <;> rfl
theorem pd_ints {ns : List Int} : (ns.map D.int).all (pd n) = true := by
  rw [List.all_eq_true]; intro d hd; obtain ⟨i, _, rfl⟩ := List.mem_map.mp hd; exact pd_int
theorem pd_py : ∀ {n : Nat} {d : D}, pd n d = true → ∃ p, p.plain = true ∧ ∀ A, pyA A n d = some p := by
  intro n
  induction n with
  | zero =>
    intro d h
    cases d with
    | non => exact ⟨.none, rfl, fun A => by simp [pyA]⟩
    | bl b => exact ⟨.bool b, rfl, fun A => by simp [pyA]⟩
    | int b => exact ⟨.int b, rfl, fun A => by simp [pyA]⟩
    | str b => exact ⟨.str b, rfl, fun A => by simp [pyA]⟩
    | _ => cases h
  | succ n ih =>
    have all : ∀ {l : List D}, l.all (pd n) = true → ∃ ps, PyData.plainAll ps = true ∧ ∀ A, allSome (l.map (pyA A n)) = some ps := by
      intro l
      induction l with
      | nil => intro _; exact ⟨[], rfl, fun A => rfl⟩
      | cons d l il =>
        intro h
        rw [List.all_cons, Bool.and_eq_true] at h
        obtain ⟨p, h0, h1⟩ := ih h.1
        obtain ⟨ps, h2, h3⟩ := il h.2
        refine ⟨p :: ps, by simp [PyData.plainAll, h0, h2], fun A => ?_⟩
        rw [List.map_cons, h1 A, allSome, h3 A]; rfl
    intro d h
    cases d with
    | tup l =>
      obtain ⟨ps, h1, h2⟩ := all h
      exact ⟨.tuple ps, by simpa [PyData.plain] using h1, fun A => by rw [pyA, h2 A]; rfl⟩
    | wt l =>
      obtain ⟨ps, h1, h2⟩ := all h
      exact ⟨.tuple ps, by simpa [PyData.plain] using h1, fun A => by rw [pyA, h2 A]; rfl⟩
    | scr l =>
      obtain ⟨ps, h1, h2⟩ := all h
      exact ⟨.list ps, by simpa [PyData.plain] using h1, fun A => by rw [pyA, h2 A]; rfl⟩
    | non => exact ⟨.none, rfl, fun A => by simp [pyA]⟩
    | bl b => exact ⟨.bool b, rfl, fun A => by simp [pyA]⟩
    | int b => exact ⟨.int b, rfl, fun A => by simp [pyA]⟩
    | str b => exact ⟨.str b, rfl, fun A => by simp [pyA]⟩
    | _ => cases h
theorem pd_all : ∀ {l : List D}, l.all (pd n) = true → ∃ ps, PyData.plainAll ps = true ∧ ∀ A, allSome (l.map (pyA A n)) = some ps := by
  intro l
  induction l with
  | nil => intro _; exact ⟨[], rfl, fun A => rfl⟩
  | cons d l il =>
    intro h
    rw [List.all_cons, Bool.and_eq_true] at h
    obtain ⟨p, h0, h1⟩ := pd_py h.1
    obtain ⟨ps, h2, h3⟩ := il h.2
    refine ⟨p :: ps, by simp [PyData.plainAll, h0, h2], fun A => ?_⟩
    rw [List.map_cons, h1 A, allSome, h3 A]; rfl
/-- two values that read the same -/
theorem eqA_same {P : PyData} (hp : P.plain = true) (h : pyA A 40 x = some P) (k : pyA A 40 y = some P) : eqA A x y = some true := by
  unfold eqA; rw [h, k]; simp only; rw [PySem.SeqAt.eqv_refl_plain _ hp]
theorem eqA_pd (h : pd 40 x = true) : eqA A x x = some true := by
  obtain ⟨P, h1, h2⟩ := pd_py h
  exact eqA_same h1 (h2 A) (h2 A)
theorem py_lst (h : A[i]? = some (.lst l)) : pyA A (n + 1) (.ref i) = (allSome (l.map (pyA A n))).map .list := by
  rw [pyA]; simp only [h]
theorem eqA_lst (h : A[i]? = some (.lst l)) (k : A[j]? = some (.lst l)) (hp : l.all (pd 39) = true) : eqA A (.ref i) (.ref j) = some true := by
  obtain ⟨ps, h1, h2⟩ := pd_all hp
  refine eqA_same (P := .list ps) (by simpa [PyData.plain] using h1) ?_ ?_
  · rw [py_lst h, h2 A]; rfl
  · rw [py_lst k, h2 A]; rfl
theorem oNe_pd (h : pd 40 x = true) : oNe x x A = .ok (.bl false) A := neA_of (eqA_pd h)
theorem oEq_lst (h : A[i]? = some (.lst l)) (k : A[j]? = some (.lst l)) (hp : l.all (pd 39) = true) : oEq (.ref i) (.ref j) A = .ok (.bl true) A := eqA_of (eqA_lst h k hp)
theorem oNe_lst (h : A[i]? = some (.lst l)) (k : A[j]? = some (.lst l)) (hp : l.all (pd 39) = true) : oNe (.ref i) (.ref j) A = .ok (.bl false) A := neA_of (eqA_lst h k hp)
theorem oEq_bb {b c : Bool} : oEq (.bl b) (.bl c) A = .ok (.bl (decide (b = c))) A := by
  refine eqA_of ?_
  unfold eqA; cases b <;> cases c <;> simp [pyA, PyData.eqv]
/-! slices -/
theorem sIx_some {n d : Nat} {v : Int} (h : 0 ≤ v) : HT.sIx n d (some v) = min v.toNat n := by
  obtain ⟨k, rfl⟩ := Int.eq_ofNat_of_zero_le h
  exact HT.sIx_nat n d k
theorem z6d {l : List α} : cutD l none none = l := by
  unfold cutD; rw [HT.sIx_none, HT.sIx_none]; simp
theorem z6i {l : List α} (h : 0 ≤ p) : cutD l none (some p) = l.take p.toNat := by
  unfold cutD; rw [HT.sIx_none, sIx_some h]
  rw [List.drop_zero, Nat.sub_zero, List.take_eq_take_iff]; omega
theorem z4s {l : List α} (h : 0 ≤ p) : cutD l (some p) none = l.drop p.toNat := by
  unfold cutD; rw [HT.sIx_none, sIx_some h]
  rcases Nat.le_total p.toNat l.length with q | q
  · rw [Nat.min_eq_left q, List.take_of_length_le (by rw [List.length_drop]; omega)]
  · rw [Nat.min_eq_right q, List.drop_of_length_le (Nat.le_refl _), List.drop_of_length_le q]; simp
theorem z5j {l : List α} (h : 0 ≤ p) (k : 0 ≤ q) : cutD l (some p) (some q) = (l.drop p.toNat).take (q.toNat - p.toNat) := by
  unfold cutD; rw [sIx_some h, sIx_some k]
  rcases Nat.le_total p.toNat l.length with r | r
  · rw [Nat.min_eq_left r, List.take_eq_take_iff, List.length_drop]; omega
  · rw [Nat.min_eq_right r, List.drop_of_length_le (Nat.le_refl _), List.drop_of_length_le r]; simp
theorem z4o {l : List α} (h : 0 ≤ p) : atI l p = l[p.toNat]? := by
  unfold atI ixN
  rw [if_pos h]
  by_cases k : p < l.length
  · rw [if_pos k]; rfl
  · rw [if_neg k, List.getElem?_eq_none (by omega)]; rfl
theorem ixN_nat (h : 0 ≤ p) (k : p < (n : Int)) : ixN n p = some p.toNat := by
  unfold ixN; rw [if_pos h, if_pos k]
theorem mem_rgL {lo c : Int} {n : Nat} (h : d ∈ rgL lo c n) : ∃ i : Nat, i < n ∧ d = .int (lo + i * c) := by
  unfold rgL at h; obtain ⟨i, hi, rfl⟩ := List.mem_map.mp h; exact ⟨i, List.mem_range.mp hi, rfl⟩
end
end SM

/-! ## the same, as rules that only compute (the heap's places are looked up in the term) -/
namespace SM
open PySem L2
section
variable {α β : Type} {A A1 A2 A3 : Hs} {env e1 e2 : Sl} {a b c o v : E} {as : As} {d d1 d2 x y z w : D} {i j k n : Nat} {p q r : Int} {C m : String} {f g : S} {F : Fn} {cs os xs : List String} {tb : List (String × String × Bool)} {l l1 l2 : List D} {fs : List (String × D)} {u u1 u2 : O} {lo hi : Option Int} {t lk : Bool} {kv : List (D × D)}
def sq_ : Option O → Option (List D)
  | some (.lst l) => some l
  | _ => none
theorem z9v : sq_ (some (.lst l)) = some l := rfl
theorem z51 : seqL A (.ref i) = sq_ A[i]? := by unfold seqL sq_; rfl
theorem z3d : lstAt A (.ref i) = (sq_ A[i]?).map fun l => (i, l) := by
  unfold lstAt sq_
  rcases h : A[i]? with _ | u
  · simp only [h]; rfl
  · cases u <;> simp only [h] <;> rfl
theorem z8b {α β : Type} {f : α → β} {x : α} : (some x).map f = some (f x) := rfl
def ob_ : Option O → Option (String × List (String × D))
  | some (.obj C fs) => some (C, fs)
  | _ => none
theorem zag : ob_ (some (.obj C fs)) = some (C, fs) := rfl
theorem z2z : objAt A (.ref i) = ob_ A[i]? := by unfold objAt ob_; rfl
def gf_ (cs : List String) (f : String) : Option (String × List (String × D)) → Option D
  | some (C, fs) => if C ∈ cs then fs.lookup f else none
  | none => none
theorem zaf {f : String} : gf_ cs f (some (C, fs)) = if C ∈ cs then fs.lookup f else none := rfl
theorem z25 {f : String} : getFld cs f A x = gf_ cs f (objAt A x) := by unfold getFld gf_; rfl
def sf_ (cs : List String) (A : Hs) (i : Nat) (f : String) (d : D) : Option (String × List (String × D)) → Option Hs
  | some (C, fs) => if C ∈ cs ∧ fs.length < 999 then some (A.set i (.obj C (putF f d fs))) else none
  | none => none
theorem z9s {f : String} : sf_ cs A i f d (some (C, fs)) = if C ∈ cs ∧ fs.length < 999 then some (A.set i (.obj C (putF f d fs))) else none := rfl
theorem z1z {f : String} : setFld cs A (.ref i) f d = sf_ cs A i f d (ob_ A[i]?) := by
  unfold setFld
  rcases h : A[i]? with _ | u
  · simp only [h]; rfl
  · cases u <;> simp only [h] <;> rfl
def mo_ (m : String) (t : List (String × Fn)) : Option (String × List (String × D)) → Option Fn
  | some (C, fs) => if (fs.lookup m).isSome = true then none else t.lookup C
  | none => none
theorem z8x {t : List (String × Fn)} : mo_ m t (some (C, fs)) = if (fs.lookup m).isSome = true then none else t.lookup C := rfl
theorem z2i {t : List (String × Fn)} : methOf m t A x = mo_ m t (objAt A x) := by
  unfold methOf mo_; rfl
theorem z2l {β : Type} {f : String} : List.lookup f ([] : List (String × β)) = none := rfl
theorem z1d {β : Type} {f g : String} {x : β} {r : List (String × β)} : List.lookup f ((g, x) :: r) = if f = g then some x else List.lookup f r := by
  by_cases h : f = g
  · rw [if_pos h]; subst h; simp
  · rw [if_neg h, List.lookup, beq_false_of_ne h]
def at_ (A : Hs) : Option D → RE D
  | some d => .ok d A
  | none => .stuck
theorem za5 : at_ A (some d) = .ok d A := rfl
def ln_ (A : Hs) : Option O → RE D
  | some (.lst l) => .ok (.int l.length) A
  | some (.dic false false l) => .ok (.int l.length) A
  | _ => .stuck
theorem zaa : ln_ A (some (.lst l)) = .ok (.int l.length) A := rfl
theorem z9h : ln_ A (some (.dic false false kv)) = .ok (.int kv.length) A := rfl
theorem z4w : oLen (.ref i) A = ln_ A A[i]? := by
  unfold oLen lenA; rw [z51]
  simp only [seqT]
  rcases A[i]? with _ | u
  · rfl
  · cases u with
    | lst l => rfl
    | obj C f => rfl
    | dic t lk kv => cases t <;> cases lk <;> rfl
theorem z1t : oLen (.scr l) A = .ok (.int l.length) A := rfl
def ix_ (A : Hs) (p : Int) : Option (List D) → RE D
  | some l => at_ A (atI l p)
  | none => .stuck
theorem zak : ix_ A p (some l) = at_ A (atI l p) := rfl
theorem z7u : oIx (.ref i) (.int p) A = ix_ A p (sq_ A[i]?) := by
  unfold oIx; simp only [z51]
  rcases h : sq_ A[i]? with _ | l
  · rfl
  · show (match atI l p with | some d => RE.ok d A | none => .stuck) = at_ A (atI l p)
    cases atI l p <;> rfl
theorem z4l : oIx (.scr l) (.int p) A = at_ A (atI l p) := by
  unfold oIx; simp only [seqL]; unfold at_; cases atI l p <;> rfl
theorem z3a : oIx (.tup l) (.int p) A = at_ A (atI l p) := by
  unfold oIx seqT; simp only [z1u]; unfold at_; cases atI l p <;> rfl
def nw_ (A : Hs) : Option (List D) → RE D
  | some l => .ok (.ref A.length) (A ++ [.lst l])
  | none => .stuck
theorem za6 : nw_ A (some l) = .ok (.ref A.length) (A ++ [.lst l]) := rfl
theorem z7b : oSl (.ref i) lo hi A = nw_ A ((sq_ A[i]?).map fun l => cutD l lo hi) := by
  unfold oSl; rw [z51]; cases sq_ A[i]? <;> rfl
theorem z4k : oSl (.scr l) lo hi A = .ok (.ref A.length) (A ++ [.lst (cutD l lo hi)]) := rfl
theorem z3i : oList (.ref i) A = nw_ A (sq_ A[i]?) := by
  unfold oList; rw [z51]; cases sq_ A[i]? <;> rfl
theorem z1k : oList (.scr l) A = .ok (.ref A.length) (A ++ [.lst l]) := rfl
theorem z58 : oRev (.ref i) A = nw_ A ((sq_ A[i]?).map List.reverse) := by
  unfold oRev; rw [z51]; cases sq_ A[i]? <;> rfl
def tp_ (A : Hs) : Option (List D) → RE D
  | some l => .ok (.tup l) A
  | none => .stuck
theorem z9o : tp_ A (some l) = .ok (.tup l) A := rfl
theorem z2a : oTuple (.ref i) A = tp_ A (sq_ A[i]?) := by
  unfold oTuple; rw [z51]; cases sq_ A[i]? <;> rfl
theorem z0f : oTuple (.scr l) A = .ok (.tup l) A := rfl
def ap_ (A : Hs) (i : Nat) (l1 : List D) : Option (List D) → RE D
  | some l => if l.length + l1.length ≤ sizeLine then .ok .non (A.set i (.lst (l ++ l1))) else .stuck
  | none => .stuck
theorem z9q (h : l.length + l1.length ≤ 16000000) : ap_ A i l1 (some l) = .ok .non (A.set i (.lst (l ++ l1))) := if_pos (z0d h)
theorem z12 : oAppend (.ref i) [d] A = ap_ A i [d] (sq_ A[i]?) := by
  unfold oAppend; rw [z3d]
  rcases sq_ A[i]? with _ | l
  · rfl
  · simp only [z8b, ap_, List.length_singleton]; rfl
theorem z0i : oExtend (.ref i) [.tup l1] A = ap_ A i l1 (sq_ A[i]?) := by
  unfold oExtend; rw [z3d]
  rcases sq_ A[i]? with _ | l
  · rfl
  · simp only [z8b, lstAt]; rfl
def ex_ (A : Hs) (i : Nat) (r : Option (List D)) : Option (List D) → RE D
  | some l1 => ap_ A i l1 r
  | none => .stuck
theorem z9j {r : Option (List D)} : ex_ A i r (some l1) = ap_ A i l1 r := rfl
theorem z0k : oExtend (.ref i) [.ref j] A = ex_ A i (sq_ A[i]?) (sq_ A[j]?) := by
  unfold oExtend
  rcases h : sq_ A[i]? with _ | l
  · rcases h2 : sq_ A[j]? with _ | l1 <;> simp only [z3d, h, Option.map] <;> rfl
  · rcases h2 : sq_ A[j]? with _ | l1 <;> simp only [z3d, h, h2, Option.map] <;> rfl
def cl_ (A : Hs) (i : Nat) : Option (List D) → RE D
  | some _ => .ok .non (A.set i (.lst []))
  | none => .stuck
theorem z9i : cl_ A i (some l) = .ok .non (A.set i (.lst [])) := rfl
theorem z2s : oClear (.ref i) A = cl_ A i (sq_ A[i]?) := by
  unfold oClear; rw [z3d]; cases sq_ A[i]? <;> rfl
def si_ (A : Hs) (i : Nat) (y v : D) (u : Option O) : Option Hs := match u with
    | some (.lst l) => match y with
      | .int k => match ixN l.length k with
        | some n => some (A.set i (.lst (l.set n v)))
        | none => none
      | _ => none
    | some (.dic t false l) => if keyOk t y && decide (l.length < sizeLine) then some (A.set i (.dic t false (kput l y v))) else none
    | _ => none
theorem z33 : setIt A (.ref i) y z = si_ A i y z A[i]? := rfl
theorem z91 (h : 0 ≤ p ∧ p < (l.length : Int)) : si_ A i (.int p) z (some (.lst l)) = some (A.set i (.lst (l.set p.toNat z))) := by
  unfold si_; simp only [ixN_nat h.1 h.2]
theorem z98 (h : kv.length < 16000000) : si_ A i y z (some (.dic t false kv)) = if keyOk t y = true then some (A.set i (.dic t false (kput kv y z))) else none := by
  unfold si_; simp only [decide_eq_true (small_line' h), Bool.and_true]
def gn_ (p : Int) : Option (List D) → Option D
  | some l => if 0 ≤ p then l[p.toNat]? else none
  | none => none
theorem zai : gn_ p (some l) = if 0 ≤ p then l[p.toNat]? else none := rfl
theorem z6r : getN A (.ref i) (.int p) = gn_ p (sq_ A[i]?) := by
  unfold getN; rw [z51]; cases sq_ A[i]? <;> rfl
def il_ : Option O → Bool
  | some (.lst _) => true
  | _ => false
theorem zae : il_ (some (.lst l)) = true := rfl
theorem z93 : il_ (some (.dic t lk kv)) = false := rfl
theorem z3k : isLst A (.ref i) = il_ A[i]? := by unfold isLst il_; rfl
def dg_ (A : Hs) (y : D) : Option O → RE D
  | some (.dic t _ kv) => if keyOk t y = true then at_ A (kget kv y) else .stuck
  | _ => .stuck
theorem za1 : dg_ A y (some (.dic t lk kv)) = if keyOk t y = true then at_ A (kget kv y) else .stuck := rfl
theorem z4j : oDGet (.ref i) y A = dg_ A y A[i]? := by
  unfold oDGet dicAt
  rcases h : A[i]? with _ | u
  · simp only [h]; rfl
  · cases u with
    | dic t lk kv => simp only [h, dg_]; unfold at_; split <;> first | rfl | (cases kget kv y <;> rfl)
    | _ => simp only [h]; rfl
def wl_ (A : Hs) (i : Nat) : Option O → Option Wk
  | some (.lst l) => some ⟨l, fun A' => A'[i]? = some (.lst l)⟩
  | _ => none
theorem z8z : wl_ A i (some (.lst l)) = some ⟨l, fun A' => A'[i]? = some (.lst l)⟩ := rfl
theorem z7n : wkA A (.ref i) = wl_ A i A[i]? := by
  unfold wkA wkL wl_
  rcases h : A[i]? with _ | u
  · simp only [h]
  · cases u <;> simp only [h]
def we_ (A : Hs) (i : Nat) : Option O → Option Wk
  | some (.lst l) => some ⟨enumL l, fun A' => A'[i]? = some (.lst l)⟩
  | _ => none
theorem z8u : we_ A i (some (.lst l)) = some ⟨enumL l, fun A' => A'[i]? = some (.lst l)⟩ := rfl
theorem z8o : wkE A (.ref i) = we_ A i A[i]? := by
  unfold wkE wkL we_
  rcases h : A[i]? with _ | u
  · simp only [h]; rfl
  · cases u <;> simp only [h] <;> rfl
/-! lists of truths, numbers -/
def al_ (A : Hs) : Option (List Bool) → RE D
  | some bs => .ok (.bl (bs.all id)) A
  | none => .stuck
theorem za2 {bs : List Bool} : al_ A (some bs) = .ok (.bl (bs.all id)) A := rfl
theorem z56 : oAll x A = al_ A ((seqL A x).bind boolsOf) := by unfold oAll al_; rfl
def sm_ (A : Hs) : Option (List Int) → RE D
  | some bs => .ok (.int bs.sum) A
  | none => .stuck
theorem z8v {ns : List Int} : sm_ A (some ns) = .ok (.int ns.sum) A := rfl
theorem z5g : oSum x A = sm_ A ((seqL A x).bind intsOf) := by unfold oSum sm_; rfl
theorem z3t {α β : Type} {f : α → Option β} {x : α} : (some x).bind f = f x := rfl
/-! places -/
theorem za9 (h : i < A.length) : (A.set i u)[i]? = some u := List.getElem?_set_self h
theorem z3o (h : i ≠ j) : (A.set i u)[j]? = A[j]? := List.getElem?_set_ne h
theorem z76 (h : j < A.length) : (A ++ [u])[j]? = A[j]? := List.getElem?_append_left h
theorem z9p : (A ++ [u])[A.length]? = some u := by simp
theorem z8m (h : j = A.length) : (A ++ [u])[j]? = some u := by subst h; simp
theorem z1w : (A ++ [u]).length = A.length + 1 := by simp
theorem z2p : kget [] y = none := rfl
theorem z1b : kget ((x, z) :: kv) y = if keq x y = true then some z else kget kv y := by rw [kget]
theorem z90 : il_ (some (.obj C fs)) = false := rfl
theorem z87 : (Wk.mk l tt).gd = tt := rfl
theorem z6t {gd : Hs → Prop} : (Wk.mk l gd).ds = l := rfl
theorem z73 {gd : Hs → Prop} : (Wk.mk l gd).gd = gd := rfl
theorem tt_ : tt A := trivial
theorem z2t : wipeS env [] = env := rfl
theorem z0p {vs : List Nat} : wipeS env (i :: vs) = (wipeS env vs).set i none := by rw [wipeS]
/-- a result, by what holds of it -/
def Rk {α : Type} (r : RE α) (P : α → Hs → Prop) : Prop := match r with
  | .ok v A => P v A
  | _ => False
theorem z7w {α : Type} {x : α} {P : α → Hs → Prop} : Rk (.ok x A) P = P x A := rfl
theorem Rk.ex {α : Type} {r : RE α} {P : α → Hs → Prop} (h : Rk r P) : ∃ v A1, r = .ok v A1 ∧ P v A1 := by
  cases r with
  | ok v A1 => exact ⟨v, A1, rfl, h⟩
  | _ => exact h.elim
theorem Rk.of {α : Type} {r : RE α} {P : α → Hs → Prop} {x : α} (e : r = .ok x A) (h : P x A) : Rk r P := by rw [e]; exact h
theorem Rk.mono {α : Type} {r : RE α} {P P2 : α → Hs → Prop} (h : Rk r P) (k : ∀ v A, P v A → P2 v A) : Rk r P2 := by
  obtain ⟨v, A1, e, p⟩ := h.ex
  exact .of e (k v A1 p)
theorem Rk.make {P : D → Hs → Prop} {ds : List D} (h : Rk (F (.ref A.length :: ds) (A ++ [.obj C []])) fun v A1 => v = .non ∧ P (.ref A.length) A1) : Rk (make C F ds A) P := by
  obtain ⟨v, A1, e, rfl, p⟩ := h.ex
  exact .of (make_ok e) p
/-- a call in the goal, by what is known of it -/
theorem Rk.call {α : Type} {r : RE α} {P : α → Hs → Prop} (Q : RE α → Prop) (h : Rk r P) (k : ∀ v A1, P v A1 → Q (.ok v A1)) : Q r := by
  obtain ⟨v, A1, e, p⟩ := h.ex
  rw [e]; exact k v A1 p
/-- one turn of a loop: J where it goes on, R where the loop ends -/
def Trn (J : Sl → Hs → Prop) (R : RS → Prop) (r : RS) : Prop := match r with
  | .nx e A => J e A
  | .ct e A => J e A
  | .rt d A => R (.rt d A)
  | .bk e A => R (.nx e A)
  | .exc C e A => R (.exc C e A)
  | .stuck => False
theorem z75 {J : Sl → Hs → Prop} {R : RS → Prop} : Trn J R (.nx env A) = J env A := rfl
theorem z79 {J : Sl → Hs → Prop} {R : RS → Prop} : Trn J R (.ct env A) = J env A := rfl
theorem z74 {J : Sl → Hs → Prop} {R : RS → Prop} : Trn J R (.rt d A) = R (.rt d A) := rfl
theorem z8p {J : Sl → Hs → Prop} {R : RS → Prop} : Trn J R (.bk env A) = R (.nx env A) := rfl
theorem z6p {J : Sl → Hs → Prop} {R : RS → Prop} : Trn J R (.exc C env A) = R (.exc C env A) := rfl
def Tst (s : Hs → Prop) (k : Hs → Prop) (c : Bool) (A : Hs) : Prop := match c with
  | true => s A
  | false => k A
theorem z82 {s k : Hs → Prop} : Tst s k true A = s A := rfl
theorem z8l {s k : Hs → Prop} : Tst s k false A = k A := rfl
theorem z7i {s k : Hs → Prop} {c : Prop} [Decidable c] : Tst s k (decide c) A = if c then s A else k A := by
  by_cases h : c
  · simp [h, Tst]
  · simp [h, Tst]
theorem wh_go {t : Tt} (I : Nat → Sl → Hs → Prop) (R : RS → Prop) {n : Nat} (h0 : I n env A)
    (hs : ∀ n e A, I n e A → Rk (t e A) (Tst (fun A1 => Trn (fun e2 A2 => ∃ m, m < n ∧ I m e2 A2) R (f e A1)) fun A1 => R (.nx e A1))) : R (sWh t f env A) := by
  refine wh_inv I R h0 fun n e A hI => ?_
  obtain ⟨c, A1, h1, h2⟩ := (hs n e A hI).ex
  cases c with
  | false => exact .inl ⟨A1, h1, h2⟩
  | true =>
    refine .inr ⟨A1, h1, ?_⟩
    change Trn _ _ _ at h2
    cases q : f e A1 with
    | nx e2 A2 => rw [q] at h2; exact .inl ⟨e2, A2, .inl rfl, h2⟩
    | ct e2 A2 => rw [q] at h2; exact .inl ⟨e2, A2, .inr rfl, h2⟩
    | rt d2 A2 => rw [q] at h2; exact .inr (.inl ⟨d2, A2, rfl, h2⟩)
    | bk e2 A2 => rw [q] at h2; exact .inr (.inr (.inl ⟨e2, A2, rfl, h2⟩))
    | exc C e2 A2 => rw [q] at h2; exact .inr (.inr (.inr ⟨C, e2, A2, rfl, h2⟩))
    | stuck => rw [q] at h2; exact h2.elim
def Got (r : Option Sl) (P : Sl → Prop) : Prop := match r with
  | some e => P e
  | none => False
theorem z7g {P : Sl → Prop} : Got (some env) P = P env := rfl
theorem for_go {g : G} {gd : Hs → Prop} (I : Nat → Sl → Hs → Prop) (R : RS → Prop) {ds : List D} (h0 : I 0 env A) (hg : ∀ i e A, i ≤ ds.length → I i e A → gd A)
    (hs : ∀ i e A d, ds[i]? = some d → I i e A → Got (g d e A) fun e1 => Trn (I (i + 1)) R (f e1 A))
    (hd : ∀ e A, I ds.length e A → R (.nx e A)) : R (forL g f gd ds env A) := by
  refine for_inv I R h0 hg (fun i e A d hd hI => ?_) hd
  have h2 := hs i e A d hd hI
  cases q0 : g d e A with
  | none => rw [q0] at h2; exact h2.elim
  | some e1 =>
    rw [q0, z7g] at h2
    refine ⟨e1, rfl, ?_⟩
    cases q : f e1 A with
    | nx e2 A2 => rw [q] at h2; exact .inl ⟨e2, A2, .inl rfl, h2⟩
    | ct e2 A2 => rw [q] at h2; exact .inl ⟨e2, A2, .inr rfl, h2⟩
    | rt d2 A2 => rw [q] at h2; exact .inr (.inl ⟨d2, A2, rfl, h2⟩)
    | bk e2 A2 => rw [q] at h2; exact .inr (.inr (.inl ⟨e2, A2, rfl, h2⟩))
    | exc C e2 A2 => rw [q] at h2; exact .inr (.inr (.inr ⟨C, e2, A2, rfl, h2⟩))
    | stuck => rw [q] at h2; exact h2.elim
/-- a comprehension of pure parts over what its walk gives, as simp shows it -/
theorem lc_go {g : G} {t : Tt} {gd : Hs → Prop} (p : D → Bool) (h : D → D) {ds : List D} (hgd : gd A) (hl : ds.length < 16000000)
    (hs : ∀ d ∈ ds, Got (g d env A) fun e1 => Rk (t e1 A) fun c A1 => c = p d ∧ A1 = A ∧ (c = true → Rk (a e1 A) fun v A2 => v = h d ∧ A2 = A)) : lcL g t a gd env ds [] A = .ok ((ds.filter p).map h) A := by
  refine lc_pure p h hgd (by simpa using hl) fun d hd => ?_
  have h2 := hs d hd
  cases q0 : g d env A with
  | none => rw [q0] at h2; exact h2.elim
  | some e1 =>
    rw [q0, z7g] at h2
    obtain ⟨c, A1, e, rfl, rfl, k⟩ := h2.ex
    refine ⟨e1, rfl, e, fun hp => ?_⟩
    obtain ⟨v, A2, e3, rfl, rfl⟩ := (k hp).ex
    exact e3
end
end SM

/-! ## enumerate over a tuple -/
namespace SM
open PySem L2 PySem.Spec PyProof.Rows
theorem meets_enumerate_newB1 {v : Value} {o : Obj} {H : Heap → Prop} (B : Begins v o H) :
    Meets (Builtin.«enumerate.__new__» ⟨[.type "enumerate", v], []⟩) (fun _ R s => H s.heap ∧
      R (.ok (.ret (.ref (s.heap.push o).objs.size))) { s with heap := (s.heap.push o).push { cls := .type "enumerate", data := .fields #[.none, .bool false, .ref s.heap.objs.size, rawInt 0, .none, .none] } }) :=
  .of_wp fun prog w A R s h => by
    obtain ⟨hp, g, d, tk, os⟩ := s; obtain ⟨h1, h⟩ := h
    have hsub := sub_enumerate
    have q1 : ∀ {A' : Around} {E : Value → Shared → Prop} {Q : Value → Shared → Prop}, Q (.ref hp.objs.size) ⟨hp.push o, g, d, tk, os⟩ → wpAny (model prog w) A' (pyIter v) Q E ⟨hp, g, d, tk, os⟩ :=
      fun q => B.iter prog w _ _ ⟨hp, g, d, tk, os⟩ _ h1 q
    wp_walk using q1
    refine wpAny_stack_any fun st => wpAny_pure ?_
    split
    · rename_i c _ _ _ _ _
      cases (c == Value.type "enumerate")
      · wp_walk using q1
        exact ⟨_, rfl, h⟩
      · wp_walk using q1
        exact ⟨_, rfl, h⟩
    · wp_walk using q1
      exact ⟨_, rfl, h⟩
section
variable {prog : Program} {w : World} {A : Around} {E : Value → Shared → Prop} {s : Shared}
theorem enum_begins1 {v : Value} {o : Obj} {H : Heap → Prop} {Q : Value → Shared → Prop} (B : Begins v o H) (h1 : H s.heap)
    (h : ∀ h', IsEnum h' (s.heap.objs.size + 1) s.heap.objs.size 0 .none → h'.get? s.heap.objs.size = some o → h'.objs.size = s.heap.objs.size + 2 →
      (∀ b o, s.heap.get? b = some o → h'.get? b = some o) → Q (.ref (s.heap.objs.size + 1)) { s with heap := h' }) :
    wpAny (model prog w) A (call (.type "enumerate") [v]) Q E s := by
  refine callType_new F.called_enumerate (by decide) (F.typeCall_enumerate_1 _) (F.newCall_enumerate_1 _) (fun obj => F.args_object_init_2 obj _) F.entry_enumerate_new
    (meets_enumerate_newB1 B) ⟨h1, ?_⟩
  have hz : (s.heap.push o).objs.size = s.heap.objs.size + 1 := Heap.size_push ..
  show _ ∧ _
  rw [hz]
  have he : IsEnum ((s.heap.push o).push { cls := .type "enumerate", data := .fields #[.none, .bool false, .ref s.heap.objs.size, rawInt 0, .none, .none] }) (s.heap.objs.size + 1) s.heap.objs.size 0 .none := by
    have := Heap.get?_push_size (s.heap.push o) (o := { cls := .type "enumerate", data := .fields #[.none, .bool false, .ref s.heap.objs.size, rawInt 0, .none, .none] }) rfl
    rw [hz] at this; exact this
  refine ⟨⟨_, he, rfl⟩, h _ he (Heap.get?_push_of_some _ (Heap.get?_push_size _ B.free)) (by rw [Heap.size_push, hz]) fun b o x => Heap.get?_push_of_some _ (Heap.get?_push_of_some _ x)⟩
end
/-- the tuple at a, each item in a new pair -/
def IteT (K : PySem.W.Frag) (a : Addr) : It :=
  ⟨fun i H => ∃ (xs : List V) (x : V), SqT K H a xs ∧ xs[i]? = some x, fun i H v H' => ∃ T x, v = .ref T ∧ H T = none ∧ H' = upd H T (.tup [.int (i : Nat), x]) ∧ ∀ xs, SqT K H a xs → xs[i]? = some x, fun i H => ∃ xs : List V, SqT K H a xs ∧ xs.length ≤ i⟩
theorem turn_enumT {P : Program} {w : World} {K : PySem.W.Frag} {elts : List Expr} {kk : Nat} {tpos : Pos} (a e it : Addr) :
    Turn P w K (.Tuple elts kk tpos) (IteT K a) [e, it] e (fun i h => (∃ old, IsEnum h e it ((i : Nat) : Int) old) ∧ h.IsTupleIter it a i ∧ e ≠ it) where
  mem := by simp
  obj := fun i h st b hb => by
    obtain ⟨⟨old, he⟩, ⟨o, ho, hc, hd⟩, _⟩ := st
    have e' : b = e ∨ b = it := by simpa using hb
    rcases e' with z | z
    · rw [z]; exact ⟨_, he, fun v q => nomatch q⟩
    · rw [z]; exact ⟨o, ho, fun v q => by rw [hd] at q; cases q⟩
  keep := fun i h h' st k => let ⟨⟨old, he⟩, hi, hne⟩ := st; ⟨⟨old, k e (by simp) _ he⟩, hi.at fun o q => k it (by simp) o q, hne⟩
  item := by
    intro X hP hw hK hc i pins s σ H E I hf st hg
    subst hP hw hK
    obtain ⟨⟨old, he⟩, hit, hne⟩ := st
    obtain ⟨xs, x, hq, hx⟩ := hg
    obtain ⟨its, rv, p, hz⟩ := I.tuple hq
    obtain ⟨u, hu, ru⟩ := rv.get hx
    have hel : e < s.heap.objs.size := Heap.lt_size he
    have hil : it < s.heap.objs.size := by obtain ⟨_, q, _⟩ := hit; exact Heap.lt_size q
    have hpT : s.heap.IsTuple a its.toArray := p
    have hai : a ≠ it := fun z => by
      subst z
      obtain ⟨o, ho, hc, hd⟩ := hit
      obtain ⟨o2, ho2, hc2, _⟩ := hpT
      rw [ho] at ho2; cases ho2
      rw [hc] at hc2; simp at hc2
    have hae : a ≠ e := fun z => by
      subst z
      obtain ⟨o2, ho2, hc2, _⟩ := hpT
      rw [he] at ho2; cases ho2
      simp at hc2
    have hlt : i < its.toArray.size := by
      rcases Nat.lt_or_ge i its.length with q | q
      · simpa using q
      · rw [List.getElem?_eq_none q] at hu; cases hu
    refine wpAny_pyNext_enum_itemD (A := X.A) (Draws.tuple (A := X.A.in1) (I.ok.hd hc) it a hai its.toArray) he ⟨hit, hpT⟩ hlt hne (by simp; exact ⟨hne, fun z => hae z.symm⟩) fun u' h' tk hP ho hst hT hsz hk => ?_
    obtain rfl : u' = u := by
      have : its.toArray[i]? = some u := by simpa using hu
      rw [this] at hP; cases hP; rfl
    refine ⟨_, rfl, wpAny_letOwnedTupleGo_enum (s := { s with heap := h', toks := tk + 1 }) ho fun h'' he' sb => ?_⟩
    have hT2 : h''.get? s.heap.objs.size = some { cls := .type "tuple", data := .seq #[.int i tk, u'] } := (sb.2 _ (Nat.ne_of_gt hel)).trans hT
    have new : ObjOk X.prog X.w (upd H s.heap.objs.size (.tup [.int (i : Nat), x])) h'' s.heap.objs.size (.tup [.int (i : Nat), x]) :=
      ⟨by show 2 ≤ sizeLine; decide, [.int i tk, u'], .cons ⟨_, rfl⟩ (.cons ru .nil), ⟨_, hT2, rfl, _, rfl⟩⟩
    have I1 : Inv X pins σ (upd H s.heap.objs.size (.tup [.int (i : Nat), x])) { s with heap := h'', toks := tk + 1 } :=
      I.turnedNew (ch := [e, it]) (fun b ob hb q => (sb.2 b (fun z => hb (by simp [z]))).trans (hk b ob (fun z => hb (by simp [z])) (fun z => hb (by simp [z])) q)) hf (Nat.le_refl _) new
    refine ⟨.ref s.heap.objs.size, _, I1, rfl, ⟨_, x, rfl, I.hok.fresh (Nat.le_refl _), rfl, fun ys hy => by rw [I.tuple_inj hy hq]; exact hx⟩, ⟨⟨u', ?_⟩, hst.1.at fun o q => (sb.2 it (Ne.symm hne)).trans q, hne⟩, fun b hb => ?_⟩
    · have e1 : ((i + 1 : Nat) : Int) = (i : Int) + 1 := by omega
      rw [e1]; exact he'
    · have hb' : b < s.heap.objs.size := by
        have e' : b = e ∨ b = it := by simpa using hb
        rcases e' with z | z
        · rw [z]; exact hel
        · rw [z]; exact hil
      rw [upd_ne (Nat.ne_of_lt hb')]
      exact (hf b hb).1
  done := by
    intro X hP hw hK hc i pins s σ H E I hf st hg
    subst hP hw hK
    obtain ⟨⟨old, he⟩, hit, hne⟩ := st
    obtain ⟨xs, hq, hx⟩ := hg
    obtain ⟨its, rv, p, hz⟩ := I.tuple hq
    obtain ⟨f0, f1, f2, f3, f4, f5⟩ := hf it (by simp)
    have hl := rv.length
    have hpT : s.heap.IsTuple a its.toArray := p
    have hT : s.TypeIs (.ref e) "enumerate" := ⟨_, he, rfl⟩
    unfold pyNext
    refine wpAny_bind (wpAny_attempt (wpAny_callSpecial?_slot (name := Str.ofString "__next__") hT F.slot_enumerate_next
      (wpAny_call_entry F.slot_enumerate_next hT F.entry_enumerate_next ?_ (F.args_enumerate_next_1 _))))
    show wpAny _ _ (field (.ref e) 2 >>= _) _ _ _
    refine wpAny_bind (wpAny_field he rfl (x := .ref it) rfl ?_)
    refine wpAny_bind (wpAny_nextOf_tuple_end (I.ok.hd hc) hit hpT (by simp; omega) fun h' x he' hx' => ?_)
    obtain ⟨o, ho, hc⟩ := hx'
    refine wpAny_bind (wpAny_isInstance (T := "StopIteration") (b := true) ⟨o, ho, hc⟩ isSubtype_stop ?_)
    exact wpAny_pure ⟨rfl, I.turned (t' := s.toks) (fun b o hb q => he' b o hb q) f0 f1 f3 f4 f5⟩
  self := fun A i s Q E st h => let ⟨⟨_, he⟩, _⟩ := st; wpAny_pyIter_enum he h
def iEnumT (K : PySem.W.Frag) (ta : TA) : TI := fun σ H R => ta σ H fun vs H1 => ∃ a xs, vs = [.ref a] ∧ SqT K H1 a xs ∧ R (IteT K a) H1
theorem pi_enumT {X : Cx} {e : Expr} {ta : TA} {p pos tpos : Pos} {elts : List Expr} {kk : Nat} (hg : Gl X "enumerate") (hm : X.mg "enumerate" = none) (ha : PA X [e] ta) (hs : starEach [e] X.env = [(false, eval e X.env)] := by rfl) :
    PI X (.Tuple elts kk tpos) (.Call (.Name "enumerate" p) [e] [] pos) (iEnumT X.K ta) := by
  refine ⟨fun pins s σ H R I h => ?_⟩
  refine PyProof.Rows.Call_ (ld_blt I hg hm boot_enumerate (PyProof.Rows.callWith_type1 (thn (ha.run pos pins s σ H _ I h) fun us s1 ⟨vs, H1, I1, r1, q1⟩ => ?_) hs rfl))
  obtain ⟨a, xs, ex, hq, q⟩ := q1
  subst ex
  cases r1 with
  | cons r rr =>
    cases rr
    cases r
    obtain ⟨its, rv, p', hz⟩ := I1.tuple hq
    have hpT : s1.heap.IsTuple a its.toArray := p'
    refine enum_begins1 (begins_tuple a its.toArray) hpT fun h' he hit hsz hk => wpAny_pyIter_enum he ?_
    have I2 : Inv X pins σ H1 { s1 with heap := h' } := I1.kept (t' := s1.toks) hk
    refine ⟨s1.heap.objs.size + 1, [s1.heap.objs.size + 1, s1.heap.objs.size], _, _, H1, rfl, I2, turn_enumT a (s1.heap.objs.size + 1) s1.heap.objs.size, ⟨⟨.none, he⟩, ⟨_, hit, rfl, rfl⟩, Nat.succ_ne_self _⟩, fun b hb => ?_, q⟩
    have e' : b = s1.heap.objs.size + 1 ∨ b = s1.heap.objs.size := by simpa using hb
    have hle : s1.heap.objs.size ≤ b := by
      rcases e' with z | z
      · rw [z]; exact Nat.le_add_right _ _
      · rw [z]; exact Nat.le_refl _
    exact I1.fpOk hle (I1.hok.fresh hle)
theorem PI.or {X : Cx} {tg e : Expr} {i1 i2 : TI} (h1 : PI X tg e i1) (h2 : PI X tg e i2) : PI X tg e (fun σ H R => i1 σ H R ∨ i2 σ H R) :=
  ⟨fun pins s σ H R I h => h.elim (h1.run pins s σ H R I) (h2.run pins s σ H R I)⟩
section
variable {K : PySem.W.Frag} {ca : String → Addr} {W : WX} {te : TE} {a : E}
theorem walk_enumT {a : Addr} {vs : List V} : Walk (IteT K a) vs.length (fun H => SqT K H a vs) (fun i H v H' => ∃ T x, v = .ref T ∧ H T = none ∧ H' = upd H T (.tup [.int (i : Nat), x]) ∧ ∀ xs, SqT K H a xs → xs[i]? = some x) :=
  ⟨fun i _ hi q => ⟨vs, vs[i]'hi, q, by simp [hi]⟩, fun _ q => ⟨vs, q, Nat.le_refl _⟩, fun _ _ _ _ _ _ y => y⟩
def wkET (A : Hs) (x : D) : Option Wk := (wkT A x).map fun k => ⟨enumL k.ds, k.gd⟩
theorem sw_enumT (h : SimE K ca W te a) : SimI K ca W (iEnumT K (tCons te tNil)) (wOf wkET a) := fun F m A σ H env Q R S p => wOf_bind h R S p fun F1 m1 A1 H1 x d kk R1 r hk p1 => by
  have main : ∀ {aa : Addr} {vs : List V} {l : List D}, SqT K F1 aa vs → RepL K ca F1 m1 vs l → kk = ⟨enumL l, tt⟩ → x = .ref aa → ∃ a xs, [x] = [.ref a] ∧ SqT K H1 a xs ∧ Q (IteT K a) H1 := fun {aa vs l} s rs e ex => by
    subst e; subst ex
    refine ⟨aa, vs, rfl, R1.fh.t s, p1 _ F1 m1 H1 R1 Stp.refl ⟨fun H => SqT K H aa vs, _, by rw [show (Wk.mk (enumL l) tt).ds.length = vs.length from enumL_len.trans rs.length.symm]; exact walk_enumT, fun F2 m2 A2 H2 hg R2 g2 => R2.fh.t (g2.ff.t s), fun i' d' x' F2 m2 A2 H2 H3 e hg R2 g2 y => .inr (.inl ?_)⟩⟩
    obtain ⟨T, z, y1, y2, y3, y4⟩ := y
    obtain ⟨dx, q1, q2⟩ := enumL_get e
    obtain ⟨w, w1, w2⟩ := rs.get q1
    have := y4 _ (R2.fh.t (g2.ff.t s))
    rw [w1] at this; cases this
    exact ⟨T, _, _, q2, y1, y2, y3, .cons (.int _) (.cons (w2.mono g2.ff g2.mm) .nil)⟩
  cases r with
  | tup s rs => cases hk; exact main (.inl (.inl s)) rs rfl rfl
  | wt s rs => cases hk; exact main s rs rfl rfl
  | _ => cases hk
def wkEA (A : Hs) (x : D) : Option Wk := match x with
  | .tup _ => wkET A x
  | .wt _ => wkET A x
  | _ => wkE A x
def iEnumA (K : PySem.W.Frag) (ta : TA) : TI := fun σ H R => iEnum K ta σ H R ∨ iEnumT K ta σ H R
theorem sw_enumA (h : SimE K ca W te a) : SimI K ca W (iEnumA K (tCons te tNil)) (wOf wkEA a) := SimI.pick (sw_enum h) (sw_enumT h) (wOf_pick (f := wkEA) fun A x => by cases x <;> first | exact .inl rfl | exact .inr rfl)
theorem pi_enumA {X : Cx} {e : Expr} {ta : TA} {p pos tpos : Pos} {elts : List Expr} {kk : Nat} (hg : Gl X "enumerate") (hm : X.mg "enumerate" = none) (ha : PA X [e] ta) (hs : starEach [e] X.env = [(false, eval e X.env)] := by rfl) :
    PI X (.Tuple elts kk tpos) (.Call (.Name "enumerate" p) [e] [] pos) (iEnumA X.K ta) := PI.or (pi_enum hg hm ha hs) (pi_enumT hg hm ha hs)
theorem z26 {A : Hs} {i : Nat} : wkEA A (.ref i) = we_ A i A[i]? := z8o
theorem z2h {A : Hs} {l : List D} : wkEA A (.tup l) = some ⟨enumL l, tt⟩ := rfl
theorem z22 {A : Hs} {l : List D} : wkEA A (.scr l) = some ⟨enumL l, tt⟩ := rfl
end
end SM

/-! ## d.pop(k), d.pop(k, e) -/
namespace SM
open PySem L2
open DL (Ex ExK)
section
variable {K : PySem.W.Frag} {ca : String → Addr} {F F1 F2 H H1 H2 : Hp} {m m1 m2 : List Addr} {A A1 A2 : Hs} {σ : L2.St} {env : Sl} {W : WX} {Q : VK}
variable {to ti ta tb tc te tz : TE} {a b c e : E} {i : Nat} {d : D} {ts : TA} {as : As} {x y : V} {dx dy : D}
def oDPop (x y : D) (A : Hs) : RE D := match x with
  | .ref i => match A[i]? with
    | some (.dic false false l) => match keyK y, kget l y with
      | some _, some d => .ok d (A.set i (.dic false false (kdel l y)))
      | _, _ => .stuck
    | _ => .stuck
  | _ => .stuck
theorem dk_at {l : List (D × D)} {t : Nat} (R : Rl K ca F m A H) (rx : Rep K ca F m x (.ref t)) (hA : A[t]? = some (.dic false false l)) : ∃ a kvs, x = .ref a ∧ m[t]? = some a ∧ H a = some (.dK kvs) ∧ KvR K ca F m kD kvs l := by
  obtain ⟨a, e, ha, r⟩ := R.at hA rx
  obtain ⟨kvs, h1, h2⟩ := r
  exact ⟨a, kvs, e, ha, h1, h2⟩
theorem dk_drop {kk : Key} {l : List (D × D)} {t : Nat} {aa : Addr} {kvs : List (Key × V)} (R : Rl K ca F m A H) (ha : m[t]? = some aa) (h1 : H aa = some (.dK kvs)) (h2 : KvR K ca F m kD kvs l) : Rl K ca F m (A.set t (.dic false false (kdel l (kD kk)))) (upd H aa (.dK (dropK kvs kk))) ∧ Stp F m H F m (upd H aa (.dK (dropK kvs kk))) :=
  R.put (u := .dK (dropK kvs kk)) (o' := .dic false false (kdel l (kD kk))) ha (fun od w z => by rw [h1] at z; cases z) ⟨_, upd_same, kdel_rep keq_kD h2⟩
theorem kV_of {kk : Key} (r : Rep K ca F m y (kD kk)) : y = kV kk := by
  cases kk with
  | inl i => cases r; rfl
  | inr x => cases r; rfl
theorem dpop_at {t : Nat} (R : Rl K ca F m A H) (rx : Rep K ca F m x (.ref t)) (ry : Rep K ca F m y dy) (p : Po K ca (Rep K ca) F m H W σ Q (oDPop (.ref t) dy A)) : ∃ a kvs k v, x = .ref a ∧ H a = some (.dK kvs) ∧ y = kV k ∧ valV kvs k = some v ∧ Q v (upd H a (.dK (dropK kvs k))) := by
  unfold oDPop at p
  simp only at p
  cases hA : A[t]? with
  | none => simp only [hA] at p; exact p.elim
  | some o =>
    cases o with
    | lst _ => simp only [hA] at p; exact p.elim
    | obj _ _ => simp only [hA] at p; exact p.elim
    | dic tt lk l =>
      cases tt with
      | true => simp only [hA] at p; exact p.elim
      | false =>
        cases lk with
        | true => simp only [hA] at p; exact p.elim
        | false =>
          simp only [hA] at p
          cases z : keyK dy with
          | none => simp only [z] at p; exact p.elim
          | some kk =>
            simp only [z] at p
            have e2 := keyK_kD z
            subst e2
            cases g : kget l (kD kk) with
            | none => simp only [g] at p; exact p.elim
            | some dd =>
              simp only [g] at p
              obtain ⟨aa, kvs, e, ha, h1, h2⟩ := dk_at R rx hA
              obtain ⟨v, g1, g2⟩ := (kget_rep keq_kD (k := kk) h2).1 dd g
              obtain ⟨R2, s2⟩ := dk_drop (kk := kk) R ha h1 h2
              exact ⟨aa, kvs, kk, v, e, h1, kV_of ry, g1, p v F m _ R2 s2 g2⟩
def eDPop (a b : E) : E := fun env A => (a env A).bind fun x A1 => if isDic A1 x then (b env A1).bind fun y A2 => oDPop x y A2 else .stuck
theorem se_dpop (ho : SimE K ca W to a) (hi : SimE K ca W ti b) : SimE K ca W (tDPop1 to ti) (eDPop a b) := fun F m A σ H env Q R S p =>
  ho.bind R S p fun F1 m1 A1 H1 x dx R1 g1 S1 rx p1 => by
    by_cases q : isDic A1 dx = true
    · rw [if_pos q] at p1
      obtain ⟨aa, e1, h1⟩ := isD_of R1 rx q
      refine ⟨aa, e1, h1, hi.bind R1 S1 p1 fun F2 m2 A2 H2 y dy R2 g2 S2 ry p2 => ?_⟩
      cases dx with
      | ref t =>
        obtain ⟨a2, kvs, k, v, e2, q2⟩ := dpop_at R2 (rx.mono g2.ff g2.mm) ry p2
        rw [e1] at e2; cases e2
        exact ⟨kvs, k, v, q2⟩
      | _ => exact p2.elim
    · rw [if_neg q] at p1; exact p1.elim
def ePop1 (a b : E) : E := fun env A => (a env A).bind fun x A1 => if isDic A1 x then (b env A1).bind fun y A2 => oDPop x y A2 else if (seqL A1 x).isSome then ((aCons b aNil) env A1).bind fun ds A2 => oPopAt x ds A2 else .stuck
theorem se_pop1 (ho : SimE K ca W to a) (hi : SimE K ca W ti b) : SimE K ca W (fun σ H Q => tDPop1 to ti σ H Q ∨ tBM K "list" rPopAt to (tCons ti tNil) σ H Q) (ePop1 a b) := Sim.pick (se_dpop ho hi) (se_bl_ ms_popAt ho (sa_cons hi sa_nil)) fun env A => by
  unfold ePop1 eDPop eBL
  cases a env A with
  | ok x A1 =>
    simp only [RE.bind]
    by_cases q : isDic A1 x = true
    · left; rw [if_pos q, if_pos q]
    · right; rw [if_neg q]
  | exc _ _ => exact .inl rfl
  | stuck => exact .inl rfl
/-- with a way out -/
def oDPop2 (x y z : D) (A : Hs) : RE D := match x with
  | .ref i => match A[i]? with
    | some (.dic false false l) => match keyK y with
      | some _ => match kget l y with
        | some d => .ok d (A.set i (.dic false false (kdel l y)))
        | none => .ok z A
      | _ => .stuck
    | _ => .stuck
  | _ => .stuck
def eDPop2 (a b c : E) : E := fun env A => (a env A).bind fun x A1 => if isDic A1 x then (b env A1).bind fun y A2 => (c env A2).bind fun z A3 => oDPop2 x y z A3 else .stuck
end
section
variable {A : Hs} {env : Sl} {a b c : E} {i : Nat} {x y z d : D} {kv : List (D × D)} {l : List D} {fs : List (String × D)} {C : String} {t lk : Bool} {n : Nat}
def isd_ : Option O → Bool
  | some (.dic _ _ _) => true
  | _ => false
theorem z83 : isd_ (some (.dic t lk kv)) = true := rfl
theorem z7l : isd_ (some (.lst l)) = false := rfl
theorem z41 : isDic A (.ref i) = isd_ A[i]? := by
  unfold isDic dicAt
  rcases h : A[i]? with _ | u
  · simp only [h]; rfl
  · cases u <;> simp only [h] <;> rfl
theorem z0v : isDic A (.scr l) = false := rfl
theorem z63 : ePop1 a b env A = (a env A).bind fun x A1 => if isDic A1 x = true then (b env A1).bind fun y A2 => oDPop x y A2 else if (seqL A1 x).isSome = true then ((aCons b aNil) env A1).bind fun ds A2 => oPopAt x ds A2 else .stuck := rfl
theorem z4h : eDPop2 a b c env A = (a env A).bind fun x A1 => if isDic A1 x = true then (b env A1).bind fun y A2 => (c env A2).bind fun z A3 => oDPop2 x y z A3 else .stuck := rfl
def dp_ (A : Hs) (i : Nat) (y : D) (kv : List (D × D)) : Option D → RE D
  | some d => if (keyK y).isSome = true then .ok d (A.set i (.dic false false (kdel kv y))) else .stuck
  | none => .stuck
theorem z8r : dp_ A i y kv (some d) = if (keyK y).isSome = true then .ok d (A.set i (.dic false false (kdel kv y))) else .stuck := rfl
def dpo_ (A : Hs) (i : Nat) (y : D) : Option O → RE D
  | some (.dic false false kv) => dp_ A i y kv (kget kv y)
  | _ => .stuck
theorem z7a : dpo_ A i y (some (.dic false false kv)) = dp_ A i y kv (kget kv y) := rfl
theorem z4m : oDPop (.ref i) y A = dpo_ A i y A[i]? := by
  unfold oDPop dpo_ dp_
  rcases h : A[i]? with _ | u
  · simp only [h]
  · cases u with
    | dic t lk kv => cases t <;> cases lk <;> simp only [h] <;> (cases keyK y <;> cases kget kv y <;> rfl)
    | _ => simp only [h]
theorem z64 {p : Int} : keyK (.int p) = some (.inl p) := rfl
theorem z6k {s : Str} : keyK (.str s) = some (.inr s) := rfl
theorem z2u {s : String} : keyK (dS s) = some (.inr (fS s)) := rfl
/-- y in a list's, tuple's items -/
def inl_ (A : Hs) (y : D) (l : List D) (neg : Bool) : RE D := match pyA A 40 y, allSome (l.map (pyA A 39)) with
  | some p, some ps => .ok (.bl (if neg then !(ps.any fun z => PyData.eqv z p) else ps.any fun z => PyData.eqv z p)) A
  | _, _ => .stuck
def in_ (A : Hs) (y : D) (neg : Bool) : Option O → RE D
  | some (.dic t _ kv) => if keyOk t y = true then .ok (.bl (if neg then !(kget kv y).isSome else (kget kv y).isSome)) A else .stuck
  | some (.lst l) => inl_ A y l neg
  | _ => .stuck
theorem z8s {neg : Bool} : in_ A y neg (some (.dic t lk kv)) = if keyOk t y = true then .ok (.bl (if neg then !(kget kv y).isSome else (kget kv y).isSome)) A else .stuck := rfl
theorem z9u {neg : Bool} : in_ A y neg (some (.lst l)) = inl_ A y l neg := rfl
theorem inData_l (h : pyA A 40 x = (allSome (l.map (pyA A 39))).map PyData.list ∨ pyA A 40 x = (allSome (l.map (pyA A 39))).map PyData.tuple) : inData A y x = match pyA A 40 y, allSome (l.map (pyA A 39)) with
  | some p, some ps => some (ps.any fun z => PyData.eqv z p)
  | _, _ => none := by
  unfold inData
  rcases h with h | h <;> rw [h] <;> (cases pyA A 40 y <;> cases allSome (l.map (pyA A 39)) <;> rfl)
theorem z88 : oIn y (.ref i) A = in_ A y false A[i]? := by
  unfold oIn oB inA
  rcases h : A[i]? with _ | u
  · have : pyA A 40 (.ref i) = none := by rw [pyA]; simp only [h]
    simp only [dicAt, h, inData, this]; cases pyA A 40 y <;> rfl
  · cases u with
    | dic t lk kv => simp only [dicAt, h, inDic, z8s]; cases keyOk t y <;> simp [Option.map]
    | lst l =>
      have := inData_l (A := A) (x := .ref i) (y := y) (l := l) (.inl (py_lst h))
      simp only [dicAt, h, this, z9u, inl_]
      cases pyA A 40 y <;> cases allSome (l.map (pyA A 39)) <;> rfl
    | obj C f =>
      have : pyA A 40 (.ref i) = none := by rw [pyA]; simp only [h]
      simp only [dicAt, h, inData, this]; cases pyA A 40 y <;> rfl
theorem z1q : oNotIn y (.ref i) A = in_ A y true A[i]? := by
  unfold oNotIn oB inA
  rcases h : A[i]? with _ | u
  · have : pyA A 40 (.ref i) = none := by rw [pyA]; simp only [h]
    simp only [dicAt, h, inData, this]; cases pyA A 40 y <;> rfl
  · cases u with
    | dic t lk kv => simp only [dicAt, h, inDic, z8s]; cases keyOk t y <;> simp [Option.map]
    | lst l =>
      have := inData_l (A := A) (x := .ref i) (y := y) (l := l) (.inl (py_lst h))
      simp only [dicAt, h, this, z9u, inl_]
      cases pyA A 40 y <;> cases allSome (l.map (pyA A 39)) <;> rfl
    | obj C f =>
      have : pyA A 40 (.ref i) = none := by rw [pyA]; simp only [h]
      simp only [dicAt, h, inData, this]; cases pyA A 40 y <;> rfl
theorem z6z : oIn y (.tup l) A = inl_ A y l false := by
  have := inData_l (A := A) (x := .tup l) (y := y) (l := l) (.inr (by rw [pyA]))
  unfold oIn oB inA
  simp only [dicAt, this, inl_]
  cases pyA A 40 y <;> cases allSome (l.map (pyA A 39)) <;> rfl
theorem z2g : oNotIn y (.tup l) A = inl_ A y l true := by
  have := inData_l (A := A) (x := .tup l) (y := y) (l := l) (.inr (by rw [pyA]))
  unfold oNotIn oB inA
  simp only [dicAt, this, inl_]
  cases pyA A 40 y <;> cases allSome (l.map (pyA A 39)) <;> rfl
theorem py_ints {ns : List Int} : allSome ((ns.map D.int).map (pyA A n)) = some (ns.map PyData.int) := by
  induction ns with
  | nil => rfl
  | cons b r ih => rw [List.map_cons, List.map_cons, show pyA A n (.int b) = some (.int b) by cases n <;> simp [pyA], allSome, ih]; rfl
theorem z2j {ns : List Int} {p : Int} {neg : Bool} : inl_ A (.int p) (ns.map D.int) neg = .ok (.bl (if neg then !decide (p ∈ ns) else decide (p ∈ ns))) A := by
  unfold inl_
  rw [py_ints, show pyA A 40 (.int p) = some (.int p) by simp [pyA]]
  have : ((ns.map PyData.int).any fun z => PyData.eqv z (.int p)) = decide (p ∈ ns) := by
    rw [List.any_map]
    induction ns with
    | nil => rfl
    | cons b r ih =>
      rw [List.any_cons, ih]
      simp [PyData.eqv]
      congr 1
      rw [Bool.eq_iff_iff, beq_iff_eq, decide_eq_true_eq]; exact eq_comm
  simp only [this]
end
end SM

/-! ## more equations -/
namespace SM
open PySem L2
section
variable {A A1 A2 : Hs} {env : Sl} {a b c : E} {x y z d : D} {l : List D} {os xs : List String} {tb : List (String × String × Bool)} {s : String}
theorem z15 : oIsi os xs tb (dS s) (.ty "str") A = .ok (.bl true) A := rfl
theorem z0u : oIsi os xs tb (dS s) (.ty "int") A = .ok (.bl false) A := rfl
theorem z0a : oIsi os xs tb (dS s) (.ty "bool") A = .ok (.bl false) A := rfl
theorem z04 : oIsi os xs tb (dS s) (.ty "tuple") A = .ok (.bl false) A := rfl
/-- a comprehension by what stays true of what it has made -/
theorem lc_run {g : G} {t : Tt} {gd : Hs → Prop} (P : Nat → List D → Hs → Prop) {ds : List D} (h0 : P 0 [] A) (hl : ds.length < 16000000) (hg : ∀ i l A, P i l A → gd A)
    (hs : ∀ i d, ds[i]? = some d → ∀ l A, P i l A → Got (g d env A) fun e1 => Rk (t e1 A) (Tst (fun A1 => Rk (a e1 A1) fun v A2 => P (i + 1) (l ++ [v]) A2) fun A1 => P (i + 1) l A1)) : Rk (lcL g t a gd env ds [] A) (P ds.length) := by
  have main : ∀ (n i : Nat) (acc : List D) (A : Hs), n + i = ds.length → P i acc A → acc.length ≤ i → Rk (lcL g t a gd env (ds.drop i) acc A) (P ds.length) := by
    intro n
    induction n with
    | zero =>
      intro i acc A hi h0 hle
      have : i = ds.length := by omega
      subst this
      rw [List.drop_length, lcL, if_pos (hg _ _ _ h0)]; exact h0
    | succ n ih =>
      intro i acc A hi h0 hle
      have hlt : i < ds.length := by omega
      have h2 := hs i ds[i] (by simp [hlt]) acc A h0
      rw [List.drop_eq_getElem_cons hlt]
      cases q0 : g ds[i] env A with
      | none => rw [q0] at h2; exact h2.elim
      | some e1 =>
        rw [q0, z7g] at h2
        obtain ⟨c, A1, e, h3⟩ := h2.ex
        rw [lcL, if_pos (hg _ _ _ h0), q0]
        simp only [e]
        cases c with
        | false => exact ih (i + 1) acc A1 (by omega) h3 (by omega)
        | true =>
          obtain ⟨v, A2, e2, h4⟩ := Rk.ex h3
          simp only [e2]
          rw [if_pos (small_line' (by omega))]
          exact ih (i + 1) _ A2 (by omega) h4 (by rw [List.length_append, List.length_singleton]; omega)
  have := main ds.length 0 [] A rfl h0 (Nat.le_refl _)
  rwa [List.drop_zero] at this
def kset_ (y v : D) (kv : List (D × D)) : List (D × D) := kv.map fun p => if keq p.1 y then (p.1, v) else p
theorem z1s {v : D} : kset_ y v [] = [] := rfl
theorem z1c {v : D} {kv : List (D × D)} : kset_ y v ((x, z) :: kv) = (if keq x y = true then (x, v) else (x, z)) :: kset_ y v kv := rfl
theorem z2o : khas [] y = false := rfl
theorem z16 {kv : List (D × D)} : khas ((x, z) :: kv) y = if keq x y = true then true else khas kv y := by
  unfold khas; rw [List.any_cons]; cases keq x y <;> rfl
theorem z2q {v : D} : kput [] y v = [(y, v)] := rfl
theorem z1f {v : D} {kv : List (D × D)} : kput ((x, z) :: kv) y v = if khas ((x, z) :: kv) y = true then kset_ y v ((x, z) :: kv) else ((x, z) :: kv) ++ [(y, v)] := rfl
theorem z8a : dNil env A = .ok [] A := rfl
theorem z5i {k v : E} {r : Dps} : dCons k v r env A = (k env A).bind fun x A1 => (v env A1).bind fun y A2 => (r env A2).bind fun ps A3 => .ok ((x, y) :: ps) A3 := rfl
def dsp_ (A : Hs) (ps : List (D × D)) : RE D := if (ps.all fun p => (keyK p.1).isSome) && decide (ps.length ≤ 15) then alloc A (.dic false false (kmerge [] ps)) else .stuck
theorem z6m {d : Dps} : eDisp d env A = (d env A).bind fun ps A1 => dsp_ A1 ps := rfl
theorem z5c {ps : List (D × D)} (h : (ps.all fun p => (keyK p.1).isSome) = true) (hl : ps.length ≤ 15) : dsp_ A ps = .ok (.ref A.length) (A ++ [.dic false false (kmerge [] ps)]) := by
  unfold dsp_; rw [h, decide_eq_true hl]; rfl
theorem z0h {l : List (D × D)} : kmerge l [] = l := by rw [kmerge]
theorem z05 {l r : List (D × D)} {v : D} : kmerge l ((x, v) :: r) = kmerge (kput l x v) r := by rw [kmerge]
theorem lc_rk {r : RE (List D)} {P : D → Hs → Prop} (h : Rk r fun l A => P (.ref A.length) (A ++ [.lst l])) : Rk (lc_ r) P := by
  obtain ⟨l, A1, e, p⟩ := h.ex
  rw [e]; exact p
end
end SM

/-! ## min of four -/
namespace PySem
open Sem (wp)
section
variable {prog : Program} {w : World} {A : Around} {E : Value → Shared → Prop} {s : Shared}
end
end PySem
namespace SM
open PySem L2
section
variable {K : PySem.W.Frag} {ca : String → Addr}
def c4 (f : D → D → D → D → Hs → RE D) : List D → Hs → RE D := fun ds A => match ds with
  | [d, e, g, h] => f d e g h A
  | _ => .stuck
def oMin4 (x y z w : D) (A : Hs) : RE D := match x, y, z, w with
  | .int i, .int j, .int k, .int l => .ok (.int (min (min (min i j) k) l)) A
  | _, _, _, _ => .stuck
end
theorem c4_ {A : Hs} {d d1 d2 d3 : D} {f : D → D → D → D → Hs → RE D} : c4 f [d, d1, d2, d3] A = f d d1 d2 d3 A := rfl
theorem z3v {A : Hs} {p q r s : Int} : oMin4 (.int p) (.int q) (.int r) (.int s) A = .ok (.int (min (min (min p q) r) s)) A := rfl
def ad_ (A : Hs) : Option (List D) → Option (List D) → RE D
  | some l, some k => if l.length + k.length ≤ sizeLine then .ok (.ref A.length) (A ++ [.lst (l ++ k)]) else .stuck
  | _, _ => .stuck
theorem zac {A : Hs} {l k : List D} (h : l.length + k.length ≤ 16000000) : ad_ A (some l) (some k) = .ok (.ref A.length) (A ++ [.lst (l ++ k)]) := by
  show (if l.length + k.length ≤ sizeLine then _ else _) = _
  rw [if_pos (z0d h)]
theorem z4n {A : Hs} {i j : Nat} : oAdd (.ref i) (.ref j) A = ad_ A (sq_ A[i]?) (sq_ A[j]?) := by
  unfold oAdd ad_ sq_
  simp only
  rcases A[i]? with _ | u
  · rfl
  · cases u with
    | lst l =>
      rcases A[j]? with _ | v
      · rfl
      · cases v <;> rfl
    | _ => rfl
/-- a statement that goes on, by what holds of it -/
def Nx (r : RS) (P : Sl → Hs → Prop) : Prop := match r with
  | .nx e A => P e A
  | _ => False
theorem z80 {e : Sl} {A : Hs} {P : Sl → Hs → Prop} : Nx (.nx e A) P = P e A := rfl
theorem Nx.call {r : RS} {P : Sl → Hs → Prop} (Q : RS → Prop) (h : Nx r P) (k : ∀ e A, P e A → Q (.nx e A)) : Q r := by
  cases r with
  | nx e A => exact k e A h
  | _ => exact h.elim
theorem rep_nS {n : Nat} : List.replicate (n + 1) (none : Option D) = none :: List.replicate n none := rfl
theorem rep_n0 : List.replicate 0 (none : Option D) = [] := rfl
end SM

/-! ## list.index of flat items -/
namespace SM
open PySem L2
open DL (Ex ExK)
def fV : D → Option V
  | .non => some .non
  | .bl b => some (.bl b)
  | .int i => some (.int i)
  | .str s => some (.str s)
  | _ => none
def fVs : List D → Option (List V)
  | [] => some []
  | d :: r => match fV d, fVs r with
    | some v, some vs => some (v :: vs)
    | _, _ => none
section
variable {K : PySem.W.Frag} {ca : String → Addr} {F : Hp} {m : List Addr}
end
/-- the first place of y -/
def idxV (y : V) : List V → Option Nat
  | [] => none
  | z :: r => if eqV z y = true then some 0 else (idxV y r).map (· + 1)
def oIndex (x : D) (ds : List D) (A : Hs) : RE D := match (seqL A x).bind fVs, ds with
  | some ws, [d] => match fV d with
    | some y => match idxV y ws with
      | some j => .ok (.int (j : Nat)) A
      | none => .stuck
    | none => .stuck
  | _, _ => .stuck
section
variable {K : PySem.W.Frag} {ca : String → Addr}
end
/-! equations -/
section
variable {A : Hs} {x y d : D} {i : Nat} {l : List D}
def ix3 (A : Hs) (y : V) : Option (List V) → RE D
  | some ws => at_ A ((idxV y ws).map fun j => .int (j : Nat))
  | none => .stuck
theorem z27 {b : Bool} : oIndex (.ref i) [.bl b] A = ix3 A (.bl b) ((sq_ A[i]?).bind fVs) := by
  unfold oIndex ix3; rw [z51]
  cases (sq_ A[i]?).bind fVs with
  | none => rfl
  | some ws => simp only [fV]; cases idxV (V.bl b) ws <;> rfl
theorem z1v {n : Int} : oIndex (.ref i) [.int n] A = ix3 A (.int n) ((sq_ A[i]?).bind fVs) := by
  unfold oIndex ix3; rw [z51]
  cases (sq_ A[i]?).bind fVs with
  | none => rfl
  | some ws => simp only [fV]; cases idxV (V.int n) ws <;> rfl
theorem z7o {y : V} {ws : List V} : ix3 A y (some ws) = at_ A ((idxV y ws).map fun j => .int (j : Nat)) := rfl
theorem z3h : fVs [] = some [] := rfl
theorem z8h {b : Bool} {r : List D} : fVs (.bl b :: r) = (fVs r).map (V.bl b :: ·) := by
  conv => lhs; unfold fVs
  simp only [fV]; cases fVs r <;> rfl
theorem z7s {b : Int} {r : List D} : fVs (.int b :: r) = (fVs r).map (V.int b :: ·) := by
  conv => lhs; unfold fVs
  simp only [fV]; cases fVs r <;> rfl
theorem z2k {y : V} : idxV y [] = none := rfl
theorem z4r {b c : Bool} {r : List V} : idxV (.bl c) (.bl b :: r) = if b = c then some 0 else (idxV (.bl c) r).map (· + 1) := by
  rw [idxV]; cases b <;> cases c <;> rfl
end
/-! try, count -/
section
variable {A A1 : Hs} {env e1 : Sl} {d : D} {i j : Nat} {C : String} {cts : List String} {b s : S}
def tryK_ (cts : List String) (i j : Nat) (r : RS) : RS := match r with
  | .exc C env1 A1 => if C ∈ cts then .nx (((env1.set i (some (.exc C))).set j (some (.exc C))).set i none) A1 else .stuck
  | r => r
theorem z52 : sTryK cts i j b env A = tryK_ cts i j (b env A) := rfl
theorem z37 : tryK_ cts i j (.nx env A) = .nx env A := rfl
theorem z30 : tryK_ cts i j (.rt d A) = .rt d A := rfl
theorem z2b (h : C ∈ cts) : tryK_ cts i j (.exc C env A) = .nx (((env.set i (some (.exc C))).set j (some (.exc C))).set i none) A := if_pos h
def tryO_ (cts : List String) (s : S) (r : RS) : RS := match r with
  | .exc C env1 A1 => if C ∈ cts then s env1 A1 else .stuck
  | r => r
theorem z5y : sTryO cts b s env A = tryO_ cts s (b env A) := rfl
theorem z39 : tryO_ cts s (.nx env A) = .nx env A := rfl
theorem z4i : tryO_ cts s (.rt d A) = .rt d A := rfl
theorem z1r (h : C ∈ cts) : tryO_ cts s (.exc C env A) = s env A := if_pos h
def cn_ (A : Hs) (c : Bool) : Option (List Bool) → RE D
  | some bs => .ok (.int (bs.count c : Nat)) A
  | none => .stuck
theorem z2r {c : Bool} : oCount (.ref i) [.bl c] A = cn_ A c ((sq_ A[i]?).bind boolsOf) := by
  unfold oCount; rw [z51]; cases (sq_ A[i]?).bind boolsOf <;> rfl
theorem z99 {c : Bool} {bs : List Bool} : cn_ A c (some bs) = .ok (.int (bs.count c : Nat)) A := rfl
theorem z5h : boolsOf [] = some [] := rfl
theorem z38 {c : Bool} {r : List D} : boolsOf (.bl c :: r) = (boolsOf r).map (c :: ·) := rfl
theorem z3n {c : Bool} : List.count c [] = 0 := rfl
theorem z1p {c b : Bool} {r : List Bool} : List.count c (b :: r) = List.count c r + (if b = c then 1 else 0) := by
  rw [List.count_cons]; cases b <;> cases c <;> rfl
end
/-! a, b, c = x, y, z -/
def sPar3 (i j l : Nat) (as : As) : S := fun env A => match as env A with
  | .ok [x, y, z] A1 => .nx (((env.set i (some x)).set j (some y)).set l (some z)) A1
  | .exc C A1 => .exc C env A1
  | _ => .stuck
section
variable {K : PySem.W.Frag} {ca : String → Addr} {W : WX} {i j l : Nat} {as : As} {ts : TA} {A : Hs} {env : Sl} {x y z : D}
def par3_ (env : Sl) (i j l : Nat) (r : RE (List D)) : RS := match r with
  | .ok [x, y, z] A1 => .nx (((env.set i (some x)).set j (some y)).set l (some z)) A1
  | .exc C A1 => .exc C env A1
  | _ => .stuck
theorem z4x : sPar3 i j l as env A = par3_ env i j l (as env A) := rfl
theorem z3w : par3_ env i j l (.ok [x, y, z] A) = .nx (((env.set i (some x)).set j (some y)).set l (some z)) A := rfl
end
/-- o.f where a block stands -/
theorem pe_fldK {X : Cx} {K : PySem.W.Frag} {e : Expr} {f : Str} {pos : Pos} {ta : TE} (hK : X.K = K) (he : PE X e ta) (hb : attributeBase e f X.env (eval e X.env) = eval e X.env) : PE X (.Attribute e f pos) (tFld K ta f) := by
  subst hK; exact pe_fld he hb
/-! tuple(range(n)) -/
def eTupRg (a : E) : E := fun env A => (a env A).bind fun x A1 => match x with
  | .int n => if 0 ≤ n ∧ n ≤ 16777216 then .ok (.tup (rgL 0 1 n.toNat)) A1 else .stuck
  | _ => .stuck
section
variable {K : PySem.W.Frag} {ca : String → Addr} {W : WX} {te : TE} {a : E} {A : Hs} {n : Int}
def tupRg_ (A : Hs) : D → RE D
  | .int n => if 0 ≤ n ∧ n ≤ 16777216 then .ok (.tup (rgL 0 1 n.toNat)) A else .stuck
  | _ => .stuck
theorem z3x {env : Sl} : eTupRg a env A = (a env A).bind fun x A1 => tupRg_ A1 x := by
  unfold eTupRg tupRg_; rfl
theorem z4g (h : 0 ≤ n ∧ n ≤ 16777216) : tupRg_ A (.int n) = .ok (.tup (rgL 0 1 n.toNat)) A := if_pos h
end
/-- a def that has a second name -/
theorem Dx.of2 {P : Program} {w : World} {K : PySem.W.Frag} {mg : Str → Option Value} {base : Heap} {k : Nat} {x x0 qn : Str} {st : Stmt} {fa : Addr} {fd : FuncData} {ps : List Str} {sp : Sp} (h : FnOk P w K mg base (L2.CX P w) k fa fd ps sp) (F : Fun K x0 qn st fa fd) (hm : mg x = some (.ref fa)) (b : Binds K fd ps []) : DL.Dx P w K mg base k x sp := ⟨fa, fd, ps, h, hm, F.kp, b⟩
end SM

/-! ## defs with defaults -/
namespace L2
open PySem PySem.Spec PyProof.Rows
section
variable {X : Cx} {CX : CXT} {k : Nat} {f C : Addr} {fd : FuncData} {ps : List Str} {sp : Sp} {E : St → XK} {x : Str} {p pos : Pos} {e : Expr} {es : List Expr} {t : TA} {ds : List Value} {dvs : List V}
end
end L2
namespace DL
open PySem L2
/-- a class whose __init__ is called with its defaults dvs -/
structure MxD (P : Program) (w : World) (K : PySem.W.Frag) (mg : Str → Option Value) (base : Heap) (k : Nat) (x : Str) (C : Addr) (sp : Sp) (dvs : List V) : Prop where
  ex : ∃ (f : Addr) (fd : FuncData) (ps : List Str) (ds : List Value), Mk K C f ∧ FnOk P w K mg base (L2.CX P w) k f fd ps sp ∧ mg x = some (.ref C) ∧ Binds K fd ps ds ∧ Vals dvs ds
theorem MxD.of {P : Program} {w : World} {K : PySem.W.Frag} {mg : Str → Option Value} {base : Heap} {k : Nat} {x : Str} {C fa : Addr} {fd : FuncData} {ps : List Str} {sp : Sp} {dvs : List V} (M : Mk K C fa) (h : FnOk P w K mg base (L2.CX P w) k fa fd ps sp) (hm : mg x = some (.ref C)) (b : ∃ ds, Vals dvs ds ∧ Binds K fd ps ds) : MxD P w K mg base k x C sp dvs := by
  obtain ⟨ds, v, b⟩ := b
  exact ⟨fa, fd, ps, ds, M, h, hm, b, v⟩
theorem MxD.full {P : Program} {w : World} {K : PySem.W.Frag} {mg : Str → Option Value} {base : Heap} {k : Nat} {x : Str} {C : Addr} {sp : Sp} (h : MxD P w K mg base k x C sp []) : Mx P w K mg base k x C sp := by
  obtain ⟨fa, fd, ps, ds, M, h, hm, b, v⟩ := h.ex
  cases v
  exact ⟨fa, fd, ps, M, h, hm, b⟩
section
variable {X : Cx} {W : WX} {k j : Nat} {x : Str} {C : Addr} {sp : Sp} {p pos : Pos} {e : Expr} {es : List Expr} {t : TA} {dvs : List V}
end
end DL
namespace SM
open PySem L2
open DL (Ex ExK)
section
variable {K : PySem.W.Frag} {ca : String → Addr} {W : WX} {as : As} {ts : TA} {C : String} {f : Fn} {A : Hs} {env : Sl} {l : List D}
def eMakeD (C : String) (f : Fn) (dd : List D) (as : As) : E := fun env A => (as env A).bind fun ds A1 => make C f (ds ++ dd) A1
def eMakeD0 (C : String) (f : Fn) (dd : List D) (as : As) : E := fun env A => (as env A).bind fun ds A1 => (make C f (ds ++ dd) A1).noX
theorem z32 {dd : List D} : eMakeD C f dd as env A = (as env A).bind fun ds A1 => make C f (ds ++ dd) A1 := rfl
theorem z2c {dd : List D} : eMakeD0 C f dd as env A = (as env A).bind fun ds A1 => (make C f (ds ++ dd) A1).noX := rfl
end
section
variable {P : Program} {w : World} {K : PySem.W.Frag} {mg : Str → Option Value} {base : Heap} {ca : String → Addr} {x qn : Str} {st : Stmt} {fa : Addr} {fd : FuncData} {N ps : List Str} {k : Nat}
end
end SM

/-! ## t[::e] of a tuple, e = 1 or -1 -/
namespace SM
open PySem L2 PySem.Spec PyProof.Rows
section
variable {prog : Program} {w : World} {A : Around} {E : Value → Shared → Prop} {s : Shared}
end
section
open DL (Ex ExK)
variable {K : PySem.W.Frag} {ca : String → Addr} {W : WX} {ta tb : TE} {a b : E}
def oStT (x y : D) (A : Hs) : RE D := match seqT x with
  | some l => match y with
    | .int i => if i = 1 then .ok x A else if i = -1 then .ok (.tup l.reverse) A else .stuck
    | _ => .stuck
  | _ => .stuck
theorem z6l {l : List D} {A : Hs} : oStT (.tup l) (.int 1) A = .ok (.tup l) A := rfl
theorem z61 {l : List D} {A : Hs} : oStT (.tup l) (.int (-1)) A = .ok (.tup l.reverse) A := rfl
end
end SM

/-! ## text * 0, text * 1 -/
namespace L2
open PySem PySem.Spec PyProof.Rows
end L2
namespace SM
open PySem L2
open DL (Ex ExK)
section
variable {K : PySem.W.Frag} {ca : String → Addr}
def oMulS (x y : D) (A : Hs) : RE D := match x, y with
  | .str s, .int i => if i = 1 then .ok (.str s) A else if i = 0 then .ok (.str Str.empty) A else .stuck
  | _, _ => .stuck
end
theorem z4f {A : Hs} {s : String} : oMulS (dS s) (.int 1) A = .ok (dS s) A := rfl
theorem z2x {A : Hs} {s : String} : oMulS (dS s) (.int 0) A = .ok (dS "") A := rfl
section
variable {A : Hs} {env : Sl} {o a e : E} {i : Nat} {x y z d : D} {kv : List (D × D)} {t lk : Bool}
theorem z57 : eGet2 o a e env A = (o env A).bind fun x A1 => if isDic A1 x = true then (a env A1).bind fun y A2 => (e env A2).bind fun z A3 => ofO A3 (getD A3 x y z) else .stuck := rfl
def gD_ (y z : D) : Option O → Option D
  | some (.dic t _ kv) => if keyOk t y = true then some ((kget kv y).getD z) else none
  | _ => none
theorem z69 : getD A (.ref i) y z = gD_ y z A[i]? := by
  unfold getD gD_ dicAt
  rcases h : A[i]? with _ | u
  · simp only [h]
  · cases u <;> simp only [h]
theorem z9t : gD_ y z (some (.dic t lk kv)) = if keyOk t y = true then some ((kget kv y).getD z) else none := rfl
theorem z70 {α : Type} {d : α} : ofO A (some d) = .ok d A := rfl
end
def oL_ (r : RE D) (x : D) (A : Hs) : Option (List D) → RE D
  | some l => if l.isEmpty = true then r else .ok x A
  | none => .stuck
theorem z8j {A : Hs} {env : Sl} {a b : E} : eOrL a b env A = (a env A).bind fun x A1 => oL_ (b env A1) x A1 (seqL A1 x) := by
  unfold eOrL
  cases a env A with
  | ok x A1 =>
    simp only [RE.bind]
    cases seqL A1 x <;> rfl
  | exc _ _ => rfl
  | stuck => rfl
theorem z9w {r : RE D} {x : D} {A : Hs} {l : List D} : oL_ r x A (some l) = if l.isEmpty = true then r else .ok x A := rfl
/-! len(set(xs)) of ints -/
def eLenSet (a : E) : E := fun env A => (a env A).bind fun x A1 => match (seqL A1 x).bind intsOf with
  | some ns => if ns.length ≤ 4000 then .ok (.int (L2.unlike ns : Nat)) A1 else .stuck
  | none => .stuck
theorem se_lenSet {K : PySem.W.Frag} {ca : String → Addr} {W : WX} {ta : TE} {a : E} (ha : SimE K ca W ta a) : SimE K ca W (L2.tLenSetG K ta) (eLenSet a) := fun F m A σ H env Q R S p =>
  ha.bind R S p fun F1 m1 A1 H1 x dx R1 g1 S1 rx p1 => by
    split at p1
    · rename_i bs hb
      obtain ⟨l, h1, h2⟩ := Option.bind_eq_some_iff.mp hb
      obtain ⟨a, vs, e, h3, h4⟩ := seqL_at R1 rx h1
      have e2 := intsOf_eq h2
      subst e2
      have e3 := h4.ints
      subst e3 e
      split at p1
      · rename_i hl
        exact ⟨a, bs, rfl, h3, hl, po_ok R1 (.int _) p1⟩
      · exact p1.elim
    · exact p1.elim
def lnS_ (A : Hs) : Option (List Int) → RE D
  | some ns => if ns.length ≤ 4000 then .ok (.int (L2.unlike ns : Nat)) A else .stuck
  | none => .stuck
theorem z20 {a : E} {env : Sl} {A : Hs} : eLenSet a env A = (a env A).bind fun x A1 => lnS_ A1 ((seqL A1 x).bind intsOf) := by
  unfold eLenSet lnS_; rfl
theorem z7q {A : Hs} {ns : List Int} (h : ns.length ≤ 4000) : lnS_ A (some ns) = .ok (.int (L2.unlike ns : Nat)) A := if_pos h
/-- a def that is called by no run -/
theorem Dx.never {P : Program} {w : World} {K : PySem.W.Frag} {mg : Str → Option Value} {base : Heap} {ca : String → Addr} {k : Nat} {x x0 qn : Str} {st : Stmt} {fa : Addr} {fd : FuncData} {ps : List Str} (F : Fun K x0 qn st fa fd) (hm : mg x = some (.ref fa)) (b : Binds K fd ps []) : DL.Dx P w K mg base k x (SpF K ca fun _ _ => .stuck) := by
  refine ⟨fa, fd, ps, ⟨fun vs H Q E h => ?_, fun A outer s H args us vs Q E _ _ _ _ h => ?_⟩, hm, F.kp, b⟩
  · obtain ⟨_, _, _, _, _, _, p⟩ := h; exact p.elim
  · obtain ⟨_, _, _, _, _, _, p⟩ := h; exact p.elim
end SM

/-! ## z.join(xs).replace(y, w), int(text) -/
namespace DL
open PySem L2 PySem.Spec PyProof.Rows
section
variable {X : Cx} {e : Expr} {te : TE} {x y z : Str} {j k i : Nat} {c c0 c1 ap1 p1 apos pos : Pos}
end
def rIntT : List V → Hp → VK → Prop := fun xs H Q => rInt1 xs H Q ∨ ∃ a n, xs = [.str a] ∧ PySem.intText? a = some n ∧ a.length ≤ 640 ∧ Q (.int n) H
def rStrI : List V → Hp → VK → Prop := fun xs H Q => ∃ i, xs = [V.int i] ∧ i.natAbs.log2 < 1920 ∧ Q (.str (toString i)) H
end DL
namespace SM
open PySem L2
open DL (rJoin rIntT rStrI)
section
variable {K : PySem.W.Frag} {ca : String → Addr} {F H H1 : Hp} {m : List Addr} {A A1 : Hs} {σ : L2.St} {env : Sl} {W : WX} {Q : VK}
variable {to : TE} {o : E}
def rpl (y z : Str) (A : Hs) : D → RE D
  | .str x => if x.length + (x.length + 1) * z.length ≤ 16777216 then .ok (.str (Txt.replace x y z)) A else .stuck
  | _ => .stuck
def eRepl (y z : Str) (o : E) : E := fun env A => (o env A).bind fun x A1 => rpl y z A1 x
def oIntT (x : D) (A : Hs) : RE D := match x with
  | .int i => .ok (.int i) A
  | .bl b => .ok (.int (if b then 1 else 0)) A
  | .str a => if a.length ≤ 640 then match PySem.intText? a with
    | some n => .ok (.int n) A
    | none => .stuck
    else .stuck
  | _ => .stuck
/-- not by rfl alone: else the kernel may unfold the whole def that is called -/
theorem z6x {α β : Type} {a : α} {A : Hs} {f : α → Hs → RE β} : (RE.ok a A).bind f = f a A := id rfl
theorem z95 {e : Sl} {A : Hs} {f : S} : seqR (.nx e A) f = f e A := id rfl
theorem z8e {a b : S} : sSeq a b env A = seqR (a env A) b := id rfl
theorem z59 {y z : Str} : eRepl y z o env A = (o env A).bind fun x A1 => rpl y z A1 x := rfl
theorem z4b {p : Int} : oIntT (.int p) A = .ok (.int p) A := rfl
theorem z2y {b : Bool} : oIntT (.bl b) A = .ok (.int (if b then 1 else 0)) A := rfl
end
/-- a module's own tuple of ints -/
def KTpl (K : PySem.W.Frag) (a : Addr) (ns : List Int) : Prop := ∃ (o : Obj) (its : Array Value) (n : Nat), K.lookup a = some o ∧ o.cls = .type "tuple" ∧ o.data = .seq its n ∧ its.size ≤ sizeLine ∧ Vals (ns.map V.int) its.toList
theorem repL_ints {K : PySem.W.Frag} {ca : String → Addr} {F : Hp} {m : List Addr} : ∀ ns : List Int, RepL K ca F m (ns.map V.int) (ns.map D.int)
  | [] => .nil
  | n :: ns => .cons (.int n) (repL_ints ns)
theorem KTpl.rep {K : PySem.W.Frag} {ca : String → Addr} {a : Addr} {ns : List Int} (h : KTpl K a ns) (F : Hp) (m : List Addr) : Rep K ca F m (.ref a) (.wt (ns.map D.int)) := .wt (.inr h) (repL_ints ns)
end SM

/-! ## dicts walked: locked while a loop runs; their keys, values, pairs; dict(x); sorted(ints) -/
namespace SM
open PySem L2
open DL (Ex ExK)
section
variable {K : PySem.W.Frag} {ca : String → Addr} {F F1 F2 H H1 H2 : Hp} {m m1 m2 : List Addr} {A A1 A2 : Hs} {σ : L2.St} {env : Sl} {W : WX} {i : Nat} {u : HO} {t : Bool} {l : List (D × D)}
theorem Rl.put1 {a : Addr} {o' : O} (R : Rl K ca F m A H) (ha : m[i]? = some a) (r : ORep K ca F m (upd H a u) a o') : Rl K ca F m (A.set i o') (upd H a u) := by
  have hm : a ∈ m := List.mem_of_getElem? ha
  have fa := R.fr a hm
  refine ⟨R.fh.right fa, by simp [R.len], R.nd, R.fr, fun j o b h1 h2 => ?_⟩
  by_cases q : i = j
  · subst q
    rw [ha] at h2; cases h2
    rw [List.getElem?_set] at h1
    split at h1
    · split at h1
      · cases h1; exact r
      · cases h1
    · rename_i z; exact absurd rfl z
  · rw [List.getElem?_set_ne q] at h1
    have nb : b ≠ a := fun z => q (by
      subst z
      exact (List.getElem?_inj (List.getElem?_eq_some_iff.mp ha).1 R.nd).mp (ha.trans h2.symm))
    exact (R.ob j o b h1 h2).mono (Ex.refl _) (Pre.refl _) fun w hw => by rw [upd_ne nb]; exact hw
/-- a dict's object is there -/
theorem Rl.dic (R : Rl K ca F m A H) (h : A[i]? = some (.dic t false l)) : ∃ a u, m[i]? = some a ∧ H a = some u ∧ Mut (some u) ∧ (∀ od w, u ≠ .frz od w) ∧ ∀ od, ORep K ca F m (upd H a (.frz od u)) a (.dic t true l) := by
  have l0 : i < m.length := by rw [R.len]; exact (List.getElem?_eq_some_iff.mp h).1
  have ha : m[i]? = some m[i] := List.getElem?_eq_getElem l0
  have r := R.ob i _ m[i] h ha
  cases t with
  | false =>
    obtain ⟨kvs, h1, h2⟩ := r
    exact ⟨m[i], .dK kvs, ha, h1, trivial, fun od w z => (by cases z), fun od => ⟨kvs, ⟨od, upd_same⟩, h2⟩⟩
  | true =>
    obtain ⟨kvs, h1, h2⟩ := r
    exact ⟨m[i], .dT kvs, ha, h1, trivial, fun od w z => (by cases z), fun od => ⟨kvs, ⟨od, upd_same⟩, h2⟩⟩
theorem Rl.lock (R : Rl K ca F m A H) (h : A[i]? = some (.dic t false l)) : ∃ a u, H a = some u ∧ Mut (some u) ∧ ∀ od, (Rl K ca F m (A.set i (.dic t true l)) (upd H a (.frz od u)) ∧ Stp F m H F m (upd H a (.frz od u))) ∧
    ∀ F' m' A' H' l' t', Rl K ca F' m' A' H' → Stp F m (upd H a (.frz od u)) F' m' H' → A'[i]? = some (.dic t' true l') → H' a = some (.frz od u) ∧ Rl K ca F' m' (A'.set i (.dic t' false l')) (upd H' a u) ∧ Stp F m H F' m' (upd H' a u) := by
  obtain ⟨a, u, ha, hu, mu, nz, hr⟩ := R.dic h
  have hm : a ∈ m := List.mem_of_getElem? ha
  refine ⟨a, u, hu, mu, fun od => ⟨R.put ha (fun od' w z => by rw [hu] at z; cases z; exact nz _ _ rfl) (hr od), fun F' m' A' H' l' t' R' g' hA' => ?_⟩⟩
  have hfz : H' a = some (.frz od u) := g'.fz a od u upd_same
  have ha' : m'[i]? = some a := g'.mm.get ha
  have r := R'.ob i _ a hA' ha'
  have new : ORep K ca F' m' (upd H' a u) a (.dic t' false l') := by
    cases t' with
    | false =>
      obtain ⟨kvs, ⟨od', x⟩, h2⟩ := r
      rw [hfz] at x
      cases x
      exact ⟨kvs, upd_same, h2⟩
    | true =>
      obtain ⟨kvs, ⟨od', x⟩, h2⟩ := r
      rw [hfz] at x
      cases x
      exact ⟨kvs, upd_same, h2⟩
  refine ⟨hfz, R'.put1 ha' new, ⟨g'.ff, g'.mm, fun b w hb n => ?_, fun b hb => ?_, fun b hb => ?_, fun b hb z => ?_, fun b o w hb => ?_⟩⟩
  · have nb : b ≠ a := fun z => n (by rw [z]; exact hm)
    rw [upd_ne nb]
    exact g'.kp b w (by rw [upd_ne nb]; exact hb) n
  · rcases g'.gn b hb with q | q | q
    · exact .inl q
    · by_cases z : b = a
      · rw [z, upd_same] at q; cases q
      · rw [upd_ne z] at q; exact .inr (.inl q)
    · exact .inr (.inr q)
  · rcases g'.gm b hb with q | q
    · exact .inl q
    · by_cases z : b = a
      · rw [z]; exact .inl hm
      · rw [upd_ne z] at q; exact .inr q
  · by_cases q : b = a
    · rw [q, upd_same] at z; cases z
    · rw [upd_ne q] at z
      exact g'.th b (by rw [upd_ne q]; exact hb) z
  · have nb : b ≠ a := fun z => by rw [z, hu] at hb; cases hb; exact nz _ _ rfl
    rw [upd_ne nb]
    exact g'.fz b o w (by rw [upd_ne nb]; exact hb)
end
def pkR : RE D → Option Nat
  | .ok (.ref i) _ => some i
  | _ => none
/-- unlocked again -/
def un1 {β : Type} (k : Hs → β) (s : β) (A : Hs) (i : Nat) : Option O → β
  | some (.dic t true l) => k (A.set i (.dic t false l))
  | _ => s
def ulR (i : Nat) : RS → RS
  | .nx e A => un1 (fun B => .nx e B) .stuck A i A[i]?
  | .bk e A => un1 (fun B => .bk e B) .stuck A i A[i]?
  | .ct e A => un1 (fun B => .ct e B) .stuck A i A[i]?
  | .rt d A => un1 (fun B => .rt d B) .stuck A i A[i]?
  | .exc C e A => .exc C e A
  | .stuck => .stuck
def lk2 (f : S) (env : Sl) (A : Hs) (i : Nat) : Option O → RS
  | some (.dic t false l) => ulR i (f env (A.set i (.dic t true l)))
  | _ => .stuck
def lk1 (f : S) (env : Sl) (A : Hs) : Option Nat → RS
  | some i => lk2 f env A i A[i]?
  | none => .stuck
def sLk (x : E) (f : S) : S := fun env A => lk1 f env A (pkR (x env A))
def ulE (i : Nat) : RE D → RE D
  | .ok d A => un1 (fun B => .ok d B) .stuck A i A[i]?
  | .exc C A => .exc C A
  | .stuck => .stuck
def lkE2 (f : E) (env : Sl) (A : Hs) (i : Nat) : Option O → RE D
  | some (.dic t false l) => ulE i (f env (A.set i (.dic t true l)))
  | _ => .stuck
def lkE1 (f : E) (env : Sl) (A : Hs) : Option Nat → RE D
  | some i => lkE2 f env A i A[i]?
  | none => .stuck
def eLk (x : E) (f : E) : E := fun env A => lkE1 f env A (pkR (x env A))
section
variable {K : PySem.W.Frag} {ca : String → Addr} {W : WX}
theorem un1_inv {β : Type} {k : Hs → β} {s : β} {A : Hs} {i : Nat} (P : β → Prop) (h : P (un1 k s A i A[i]?)) (hs : ¬ P s) : ∃ t l, A[i]? = some (.dic t true l) ∧ P (k (A.set i (.dic t false l))) := by
  cases hA : A[i]? with
  | none => rw [hA] at h; exact absurd h hs
  | some o =>
    rw [hA] at h
    cases o with
    | dic t lk l =>
      cases lk with
      | true => exact ⟨t, l, rfl, h⟩
      | false => exact absurd h hs
    | lst l => exact absurd h hs
    | obj C fs => exact absurd h hs
theorem ss_lk {t : TS} {f : S} {x : E} (h : SimS K ca W t f) : SimS K ca W (tLock t) (sLk x f) := fun F m A σ H env Dn R S p => by
  unfold sLk at p
  cases q : pkR (x env A) with
  | none => rw [q] at p; exact p.elim
  | some i =>
    rw [q] at p
    have p : PoS K ca F m H W Dn (lk2 f env A i A[i]?) := p
    cases hA : A[i]? with
    | none => rw [hA] at p; exact p.elim
    | some o =>
      rw [hA] at p
      cases o with
      | lst l => exact p.elim
      | obj C fs => exact p.elim
      | dic tt_ lk l =>
        cases lk with
        | true => exact p.elim
        | false =>
          obtain ⟨a, u, hu, mu, hl⟩ := R.lock hA
          refine ⟨a, u, hu, mu, fun od => ?_⟩
          obtain ⟨⟨R1, g1⟩, hul⟩ := hl od
          refine h F m _ σ _ env _ R1 (S.stp g1) ?_
          have p : PoS K ca F m H W Dn (ulR i (f env (A.set i (.dic tt_ true l)))) := p
          cases z : f env (A.set i (.dic tt_ true l)) with
          | nx e A2 =>
            rw [z] at p
            obtain ⟨t', l', hA2, p⟩ := un1_inv (fun r => PoS K ca F m H W Dn r) p (fun z => z)
            exact fun F' m' σ' H' R' g' S' => ⟨(hul F' m' A2 H' l' t' R' g' hA2).1, p F' m' σ' _ (hul F' m' A2 H' l' t' R' g' hA2).2.1 (hul F' m' A2 H' l' t' R' g' hA2).2.2 S'⟩
          | bk e A2 =>
            rw [z] at p
            obtain ⟨t', l', hA2, p⟩ := un1_inv (fun r => PoS K ca F m H W Dn r) p (fun z => z)
            exact fun F' m' σ' H' R' g' S' => ⟨(hul F' m' A2 H' l' t' R' g' hA2).1, p F' m' σ' _ (hul F' m' A2 H' l' t' R' g' hA2).2.1 (hul F' m' A2 H' l' t' R' g' hA2).2.2 S'⟩
          | ct e A2 =>
            rw [z] at p
            obtain ⟨t', l', hA2, p⟩ := un1_inv (fun r => PoS K ca F m H W Dn r) p (fun z => z)
            exact fun F' m' σ' H' R' g' S' => ⟨(hul F' m' A2 H' l' t' R' g' hA2).1, p F' m' σ' _ (hul F' m' A2 H' l' t' R' g' hA2).2.1 (hul F' m' A2 H' l' t' R' g' hA2).2.2 S'⟩
          | rt d A2 =>
            rw [z] at p
            obtain ⟨t', l', hA2, p⟩ := un1_inv (fun r => PoS K ca F m H W Dn r) p (fun z => z)
            exact fun v F' m' H' R' g' S' => ⟨(hul F' m' A2 H' l' t' R' g' hA2).1, p v F' m' _ (hul F' m' A2 H' l' t' R' g' hA2).2.1 (hul F' m' A2 H' l' t' R' g' hA2).2.2 S'⟩
          | exc C e A2 =>
            rw [z] at p
            exact fun F' m' σ' H' R' g' S' => p F' m' σ' H' R' (g1.trans g') S'
          | stuck => rw [z] at p; exact p.elim
theorem se_lk {t : TE} {f x : E} (h : SimE K ca W t f) : SimE K ca W (tLockE t) (eLk x f) := fun F m A σ H env Q R S p => by
  unfold eLk at p
  cases q : pkR (x env A) with
  | none => rw [q] at p; exact p.elim
  | some i =>
    rw [q] at p
    have p : Po K ca (Rep K ca) F m H W σ Q (lkE2 f env A i A[i]?) := p
    cases hA : A[i]? with
    | none => rw [hA] at p; exact p.elim
    | some o =>
      rw [hA] at p
      cases o with
      | lst l => exact p.elim
      | obj C fs => exact p.elim
      | dic tt_ lk l =>
        cases lk with
        | true => exact p.elim
        | false =>
          obtain ⟨a, u, hu, mu, hl⟩ := R.lock hA
          refine ⟨a, u, hu, mu, fun od => ?_⟩
          obtain ⟨⟨R1, g1⟩, hul⟩ := hl od
          refine h F m _ σ _ env _ R1 (S.stp g1) ?_
          have p : Po K ca (Rep K ca) F m H W σ Q (ulE i (f env (A.set i (.dic tt_ true l)))) := p
          cases z : f env (A.set i (.dic tt_ true l)) with
          | ok d A2 =>
            rw [z] at p
            obtain ⟨t', l', hA2, p⟩ := un1_inv (fun r => Po K ca (Rep K ca) F m H W σ Q r) p (fun z => z)
            exact fun v F' m' H' R' g' S' => ⟨(hul F' m' A2 H' l' t' R' g' hA2).1, p v F' m' _ (hul F' m' A2 H' l' t' R' g' hA2).2.1 (hul F' m' A2 H' l' t' R' g' hA2).2.2 S'⟩
          | exc C A2 =>
            rw [z] at p
            exact fun F' m' H' R' g' => p F' m' H' R' (g1.trans g')
          | stuck => rw [z] at p; exact p.elim
end
/-! what is walked -/
def wd_ (A : Hs) (i : Nat) (f : Bool → List (D × D) → Option (List D)) : Option O → Option Wk
  | some (.dic t true l) => (f t l).map fun ds => ⟨ds, fun A' => A'[i]? = some (.dic t true l)⟩
  | _ => none
def wdA (f : Bool → List (D × D) → Option (List D)) (A : Hs) : D → Option Wk
  | .ref i => wd_ A i f A[i]?
  | _ => none
def wkK : Hs → D → Option Wk := wdA fun _ l => some (l.map Prod.fst)
def wkV : Hs → D → Option Wk := wdA fun t l => if t = false then some (l.map Prod.snd) else none
def wkI : Hs → D → Option Wk := wdA fun t l => if t = false then some (l.map fun p => .tup [p.1, p.2]) else none
section
variable {K : PySem.W.Frag} {ca : String → Addr} {F F1 F2 H H1 H2 : Hp} {m m1 m2 : List Addr} {A A1 A2 : Hs} {W : WX} {te : TE} {a : E}
theorem rep_kD (k : Key) : Rep K ca F m (kV k) (kD k) := by
  cases k with
  | inl i => exact .int i
  | inr x => exact .str x
theorem KvR.at_ {κ δ : Type} {kd : κ → δ} : ∀ {kvs : List (κ × V)} {l : List (δ × D)}, KvR K ca F m kd kvs l → ∀ {i : Nat} {k : κ} {v : V}, kvs[i]? = some (k, v) → ∃ d, l[i]? = some (kd k, d) ∧ Rep K ca F m v d
  | _, _, .nil, i, k, v, h => by simp at h
  | _, _, .cons r t, i, k, v, h => by
    cases i with
    | zero =>
      rw [List.getElem?_cons_zero] at h ⊢
      cases h
      exact ⟨_, rfl, r⟩
    | succ i =>
      rw [List.getElem?_cons_succ] at h ⊢
      exact KvR.at_ t h
/-- a locked dict -/
theorem dic_lk {v : V} {i : Nat} {t : Bool} {l : List (D × D)} (R : Rl K ca F m A H) (r : Rep K ca F m v (.ref i)) (h : A[i]? = some (.dic t true l)) : ∃ a, v = .ref a ∧ m[i]? = some a ∧ ((t = false ∧ ∃ kvs od, H a = some (.frz od (.dK kvs)) ∧ KvR K ca F m kD kvs l) ∨ (t = true ∧ ∃ kvs od, H a = some (.frz od (.dT kvs)) ∧ KvR K ca F m kT kvs l)) := by
  obtain ⟨a, e, ha, r⟩ := R.at h r
  cases t with
  | false => obtain ⟨kvs, ⟨od, x⟩, y⟩ := r; exact ⟨a, e, ha, .inl ⟨rfl, kvs, od, x, y⟩⟩
  | true => obtain ⟨kvs, ⟨od, x⟩, y⟩ := r; exact ⟨a, e, ha, .inr ⟨rfl, kvs, od, x, y⟩⟩
theorem wd_inv {f : Bool → List (D × D) → Option (List D)} {x : D} {kk : Wk} (h : wdA f A x = some kk) : ∃ i t l ds, x = .ref i ∧ A[i]? = some (.dic t true l) ∧ f t l = some ds ∧ kk = ⟨ds, fun A' => A'[i]? = some (.dic t true l)⟩ := by
  cases x with
  | ref i =>
    have h : wd_ A i f A[i]? = some kk := h
    cases q : A[i]? with
    | none => rw [q] at h; cases h
    | some o =>
      rw [q] at h
      cases o with
      | dic t lk l =>
        cases lk with
        | false => cases h
        | true =>
          obtain ⟨ds, h1, h2⟩ := Option.map_eq_some_iff.mp h
          exact ⟨i, t, l, ds, rfl, q, h1, h2.symm⟩
      | lst l => cases h
      | obj C fs => cases h
  | _ => cases h
theorem walk_keys {d : Addr} {o : Obj} {kvs : List (Key × V)} : Walk (Itk d o kvs) kvs.length (fun H => H d = some (.frz o (.dK kvs))) (fun i H x H' => H' = H ∧ ∃ k v, kvs[i]? = some (k, v) ∧ x = kV k) :=
  ⟨fun i _ hi q => ⟨q, hi⟩, fun _ q => ⟨q, Nat.le_refl _⟩, fun _ _ _ _ _ _ y => y⟩
theorem walk_keysT {d : Addr} {o : Obj} {kvs : List (List Key × V)} : Walk (Itkt d o kvs) kvs.length (fun H => H d = some (.frz o (.dT kvs))) (fun i H x H' => H' = H ∧ ∃ (k : List Key) (v : V) (q : Addr), kvs[i]? = some (k, v) ∧ x = .ref q ∧ H q = some (.tup (k.map kV))) :=
  ⟨fun i _ hi q => ⟨q, hi⟩, fun _ q => ⟨q, Nat.le_refl _⟩, fun _ _ _ _ _ _ y => y⟩
theorem walk_vals {d : Addr} {o : Obj} {kvs : List (Key × V)} : Walk (Itd d o kvs) kvs.length (fun H => H d = some (.frz o (.dK kvs))) (fun i H x H' => H' = H ∧ ∃ k, kvs[i]? = some (k, x)) :=
  ⟨fun i _ hi q => ⟨q, hi⟩, fun _ q => ⟨q, Nat.le_refl _⟩, fun _ _ _ _ _ _ y => y⟩
theorem walk_items {d : Addr} {o : Obj} {kvs : List (Key × V)} : Walk (Iti d o kvs) kvs.length (fun H => H d = some (.frz o (.dK kvs))) (fun i H x H' => ∃ T k v, kvs[i]? = some (k, v) ∧ x = .ref T ∧ H T = none ∧ H' = upd H T (.tup [kV k, v])) :=
  ⟨fun i _ hi q => ⟨q, hi⟩, fun _ q => ⟨q, Nat.le_refl _⟩, fun _ _ _ _ _ _ y => y⟩
theorem repL_kT : ∀ ks : List Key, RepL K ca F m (ks.map kV) (ks.map kD)
  | [] => .nil
  | k :: ks => .cons (rep_kD k) (repL_kT ks)
theorem sw_keys (h : SimE K ca W te a) : SimI K ca W (iKeys te) (wOf wkK a) := fun F m A σ H env Q R S p => wOf_bind h R S p fun F1 m1 A1 H1 x d kk R1 r hk p1 => by
  obtain ⟨i, t, l, ds, rfl, hA, hf, rfl⟩ := wd_inv hk
  cases hf
  obtain ⟨ad, rfl, ha, q⟩ := dic_lk R1 r hA
  rcases q with ⟨rfl, kvs, od, hd, hkv⟩ | ⟨rfl, kvs, od, hd, hkv⟩
  · refine ⟨ad, od, rfl, .inl ⟨kvs, hd, p1 _ F1 m1 H1 R1 Stp.refl ⟨_, (fun i H x H' => H' = H ∧ ∃ k v, kvs[i]? = some (k, v) ∧ x = kV k), ?_, fun F2 m2 A2 H2 hg R2 g2 => g2.fz _ _ _ hd, fun i' d' x' F2 m2 A2 H2 H3 e hg R2 g2 y => .inl ?_⟩⟩⟩
    · rw [show (Wk.mk (l.map Prod.fst) _).ds.length = kvs.length from (List.length_map _).trans hkv.length.symm]; exact walk_keys
    · obtain ⟨e1, k, v, e2, e3⟩ := y
      obtain ⟨dd, e4, _⟩ := hkv.at_ e2
      refine ⟨e1, ?_⟩
      have e : (l.map Prod.fst)[i']? = some d' := e
      rw [List.getElem?_map, e4] at e
      cases e
      rw [e3]
      exact rep_kD k
  · refine ⟨ad, od, rfl, .inr ⟨kvs, hd, p1 _ F1 m1 H1 R1 Stp.refl ⟨_, (fun i H x H' => H' = H ∧ ∃ (k : List Key) (v : V) (q : Addr), kvs[i]? = some (k, v) ∧ x = .ref q ∧ H q = some (.tup (k.map kV))), ?_, fun F2 m2 A2 H2 hg R2 g2 => g2.fz _ _ _ hd, fun i' d' x' F2 m2 A2 H2 H3 e hg R2 g2 y => .inr (.inr ?_)⟩⟩⟩
    · rw [show (Wk.mk (l.map Prod.fst) _).ds.length = kvs.length from (List.length_map _).trans hkv.length.symm]; exact walk_keysT
    · obtain ⟨e1, k, v, q, e2, e3, e5⟩ := y
      obtain ⟨dd, e4, _⟩ := hkv.at_ e2
      have e : (l.map Prod.fst)[i']? = some d' := e
      rw [List.getElem?_map, e4] at e
      cases e
      exact ⟨q, k.map kV, k.map kD, rfl, e3, e5, e1, repL_kT k⟩
theorem sw_vals (h : SimE K ca W te a) : SimI K ca W (iVals te) (wOf wkV a) := fun F m A σ H env Q R S p => wOf_bind h R S p fun F1 m1 A1 H1 x d kk R1 r hk p1 => by
  obtain ⟨i, t, l, ds, rfl, hA, hf, rfl⟩ := wd_inv hk
  obtain ⟨ad, rfl, ha, q⟩ := dic_lk R1 r hA
  rcases q with ⟨rfl, kvs, od, hd, hkv⟩ | ⟨rfl, kvs, od, hd, hkv⟩
  · cases hf
    refine ⟨ad, od, kvs, rfl, hd, p1 _ F1 m1 H1 R1 Stp.refl ⟨_, (fun i H x H' => H' = H ∧ ∃ k, kvs[i]? = some (k, x)), ?_, fun F2 m2 A2 H2 hg R2 g2 => g2.fz _ _ _ hd, fun i' d' x' F2 m2 A2 H2 H3 e hg R2 g2 y => .inl ?_⟩⟩
    · rw [show (Wk.mk (l.map Prod.snd) _).ds.length = kvs.length from (List.length_map _).trans hkv.length.symm]; exact walk_vals
    · obtain ⟨e1, k, e2⟩ := y
      obtain ⟨dd, e4, e5⟩ := hkv.at_ e2
      refine ⟨e1, ?_⟩
      have e : (l.map Prod.snd)[i']? = some d' := e
      rw [List.getElem?_map, e4] at e
      cases e
      exact e5.mono g2.ff g2.mm
  · cases hf
theorem sw_items (h : SimE K ca W te a) : SimI K ca W (iItems te) (wOf wkI a) := fun F m A σ H env Q R S p => wOf_bind h R S p fun F1 m1 A1 H1 x d kk R1 r hk p1 => by
  obtain ⟨i, t, l, ds, rfl, hA, hf, rfl⟩ := wd_inv hk
  obtain ⟨ad, rfl, ha, q⟩ := dic_lk R1 r hA
  rcases q with ⟨rfl, kvs, od, hd, hkv⟩ | ⟨rfl, kvs, od, hd, hkv⟩
  · cases hf
    refine ⟨ad, od, kvs, rfl, hd, p1 _ F1 m1 H1 R1 Stp.refl ⟨_, (fun i H x H' => ∃ T k v, kvs[i]? = some (k, v) ∧ x = .ref T ∧ H T = none ∧ H' = upd H T (.tup [kV k, v])), ?_, fun F2 m2 A2 H2 hg R2 g2 => g2.fz _ _ _ hd, fun i' d' x' F2 m2 A2 H2 H3 e hg R2 g2 y => .inr (.inl ?_)⟩⟩
    · rw [show (Wk.mk (l.map fun p => D.tup [p.1, p.2]) _).ds.length = kvs.length from (List.length_map _).trans hkv.length.symm]; exact walk_items
    · obtain ⟨T, k, v, e2, e3, e5, e6⟩ := y
      obtain ⟨dd, e4, e7⟩ := hkv.at_ e2
      have e : (l.map fun p => D.tup [p.1, p.2])[i']? = some d' := e
      rw [List.getElem?_map, e4] at e
      cases e
      exact ⟨T, _, _, rfl, e3, e5, e6, .cons (rep_kD k) (.cons (e7.mono g2.ff g2.mm) .nil)⟩
  · cases hf
end
/-! dict(xs), sorted(xs) -/
def rDictA (K : PySem.W.Frag) : List V → Hp → VK → Prop := fun xs H Q => (∃ (a : Addr) (ps : List Addr) (kvs : List (Key × V)), xs = [.ref a] ∧ SqL K H a (ps.map V.ref) ∧ Paired (fun p kv => SqT K H p [kV kv.1, kv.2]) ps kvs ∧
    ∀ p, H p = none → Q (.ref p) (upd H p (.dK (mergeK [] kvs)))) ∨ ∃ (a : Addr) (kvs : List (Key × V)), xs = [.ref a] ∧ Rd H a (.dK kvs) ∧ ∀ p, H p = none → Q (.ref p) (upd H p (.dK kvs))
theorem call_dictA {X : Cx} {K : PySem.W.Frag} (hcalm : X.calm = true) (e : X.K = K := by rfl) : CallR X (.type "dict") (rDictA K) := fun pins s σ H xs us Q I r h => by
  subst e
  rcases h with h | h
  · exact call_dictP hcalm pins s σ H xs us Q I r h
  · exact call_dictD pins s σ H xs us Q I r h
theorem call_sortedA {X : Cx} {K : PySem.W.Frag} (e : X.K = K := by rfl) : CallR X (.builtin "sorted") (rSortedI K) := by subst e; exact cr_sortedI
def pairsD : List D → Option (List (D × D))
  | [] => some []
  | .tup [k, v] :: r => if (keyK k).isSome = true then (pairsD r).map ((k, v) :: ·) else none
  | _ => none
def oDict (x : D) (A : Hs) : RE D := match x with
  | .ref i => match A[i]? with
    | some (.dic false _ l) => alloc A (.dic false false l)
    | some (.lst l) => match pairsD l with
      | some ps => alloc A (.dic false false (kmerge [] ps))
      | none => .stuck
    | _ => .stuck
  | _ => .stuck
def srt (l : List Int) : List Int := l.mergeSort fun a b => decide (a ≤ b)
def oSorted (x : D) (A : Hs) : RE D := match (seqL A x).bind intsOf with
  | some ns => alloc A (.lst ((srt ns).map D.int))
  | none => .stuck
section
variable {K : PySem.W.Frag} {ca : String → Addr} {F F1 F2 H H1 H2 : Hp} {m m1 m2 : List Addr} {A A1 A2 : Hs} {W : WX} {te : TE} {a : E}
theorem srt_eq {ns ns' : List Int} (h : ns'.Perm ns) (p : ns'.Pairwise (· ≤ ·)) : ns' = srt ns := by
  have h1 : (srt ns).Perm ns := List.mergeSort_perm _ _
  have h2 : (srt ns).Pairwise fun a b => decide (a ≤ b) = true := List.pairwise_mergeSort (fun a b c => by simp only [decide_eq_true_eq]; omega) (fun a b => by simp only [Bool.or_eq_true, decide_eq_true_eq]; omega) ns
  refine List.Perm.eq_of_pairwise (le := fun a b : Int => a ≤ b) (fun a b _ _ h1 h2 => by omega) p (h2.imp fun h => of_decide_eq_true h) (h.trans h1.symm)
theorem pairs_rep (R : Rl K ca F m A H) : ∀ {vs : List V} {l : List D} {qs : List (D × D)}, RepL K ca F m vs l → pairsD l = some qs → ∃ (ps : List Addr) (kvs : List (Key × V)), vs = ps.map V.ref ∧ Paired (fun p kv => SqT K H p [kV kv.1, kv.2]) ps kvs ∧ KvR K ca F m kD kvs qs
  | _, _, _, .nil, h => by
    cases h
    exact ⟨[], [], rfl, .nil, .nil⟩
  | _, _, _, .cons (d := d) r rs, h => by
    unfold pairsD at h
    split at h
    · rename_i e; cases e
    · rename_i k v l e
      cases e
      split at h
      · rename_i hk
        obtain ⟨qs', h1, rfl⟩ := Option.map_eq_some_iff.mp h
        obtain ⟨ps, kvs, e1, e2, e3⟩ := pairs_rep R rs h1
        obtain ⟨kk, hk⟩ := Option.isSome_iff_exists.mp hk
        have e := keyK_kD hk
        have e : k = kD kk := e
        subst e
        cases r with
        | tup s rr =>
          cases rr with
          | cons r1 rr =>
            cases rr with
            | cons r2 rr =>
              cases rr
              rename_i x1 x2
              have ex : x1 = kV kk := by cases kk with
                | inl i => cases r1; rfl
                | inr x => cases r1; rfl
              subst ex
              refine ⟨_ :: ps, (kk, x2) :: kvs, by rw [e1]; rfl, .cons (.inl (.inl (R.fh _ _ s))) e2, .cons r2 e3⟩
      · cases h
    · cases h
theorem cs_dict : CbS K ca (rDictA K) (c1 oDict) := cs_1 fun F m A H x dx W σ Q R rx p => by
  unfold oDict at p
  split at p
  · rename_i i
    split at p
    · rename_i lk l hA
      obtain ⟨ad, e, ha, kvs, h1, h2⟩ := R.at hA rx
      subst e
      exact .inr ⟨ad, kvs, rfl, rdK h1, fun q hq => po_alloc (o := .dic false false l) R hq ⟨kvs, upd_same, h2.mono (Ex.refl _) ⟨_, rfl⟩⟩ p⟩
    · rename_i l hA
      split at p
      · rename_i qs hq
        obtain ⟨ad, vs, e, ha, h1, h2⟩ := lst_at R rx hA
        subst e
        obtain ⟨ps, kvs, e1, e2, e3⟩ := pairs_rep R h2 hq
        subst e1
        exact .inl ⟨ad, ps, kvs, rfl, .inl (.inl h1), e2, fun q hq => po_alloc (o := .dic false false (kmerge [] qs)) R hq ⟨_, upd_same, (kmerge_rep e3 .nil).mono (Ex.refl _) ⟨_, rfl⟩⟩ p⟩
      · exact p.elim
    · exact p.elim
  · exact p.elim
theorem cs_sorted : CbS K ca (rSortedI K) (c1 oSorted) := cs_1 fun F m A H x dx W σ Q R rx p => by
  unfold oSorted at p
  split at p
  · rename_i bs hb
    obtain ⟨l, h1, h2⟩ := Option.bind_eq_some_iff.mp hb
    obtain ⟨a, vs, e, h3, h4⟩ := seqL_at R rx h1
    have e2 := intsOf_eq h2
    subst e2
    have e3 := h4.ints
    subst e3 e
    refine ⟨a, bs, rfl, h3, fun ns' q pm pw hq => ?_⟩
    rw [srt_eq pm pw]
    exact po_alloc (o := .lst ((srt bs).map D.int)) R hq ⟨_, upd_same, repL_ints _⟩ p
  · exact p.elim
end
/-! for plain proofs -/
section
variable {A B : Hs} {i : Nat} {e env : Sl} {d : D} {t : Bool} {l : List (D × D)} {f : S} {x g : E} {β : Type} {k : Hs → β} {s : β} {C : String}
theorem z8w : sLk x f env A = lk1 f env A (pkR (x env A)) := rfl
theorem z97 : eLk x g env A = lkE1 g env A (pkR (x env A)) := rfl
theorem z50 : pkR (.ok (.ref i) A) = some i := rfl
theorem z84 : lk1 f env A (some i) = lk2 f env A i A[i]? := rfl
theorem z4v : lkE1 g env A (some i) = lkE2 g env A i A[i]? := rfl
theorem z85 : lk2 f env A i (some (.dic t false l)) = ulR i (f env (A.set i (.dic t true l))) := id rfl
theorem z68 : lkE2 g env A i (some (.dic t false l)) = ulE i (g env (A.set i (.dic t true l))) := id rfl
theorem z5r : ulR i (.nx e A) = un1 (fun B => .nx e B) .stuck A i A[i]? := rfl
theorem z54 : ulR i (.bk e A) = un1 (fun B => .bk e B) .stuck A i A[i]? := rfl
theorem z5e : ulR i (.ct e A) = un1 (fun B => .ct e B) .stuck A i A[i]? := rfl
theorem z5o : ulR i (.rt d A) = un1 (fun B => .rt d B) .stuck A i A[i]? := rfl
theorem z2w : ulR i (.exc C e A) = .exc C e A := rfl
theorem z5s : ulE i (.ok d A) = un1 (fun B => .ok d B) .stuck A i A[i]? := rfl
theorem z48 : ulE i (.exc C A) = .exc C A := rfl
theorem z8q : un1 k s A i (some (.dic t true l)) = k (A.set i (.dic t false l)) := rfl
theorem z6u : wkK A (.ref i) = wd_ A i (fun _ l => some (l.map Prod.fst)) A[i]? := rfl
theorem z81 : wkV A (.ref i) = wd_ A i (fun t l => if t = false then some (l.map Prod.snd) else none) A[i]? := rfl
theorem z7r : wkI A (.ref i) = wd_ A i (fun t l => if t = false then some (l.map fun p => .tup [p.1, p.2]) else none) A[i]? := rfl
theorem za7 {f : Bool → List (D × D) → Option (List D)} : wd_ A i f (some (.dic t true l)) = (f t l).map fun ds => ⟨ds, fun A' => A'[i]? = some (.dic t true l)⟩ := rfl
def od_ (A : Hs) : Option O → RE D
  | some (.dic false _ l) => .ok (.ref A.length) (A ++ [.dic false false l])
  | some (.lst l) => match pairsD l with
    | some ps => .ok (.ref A.length) (A ++ [.dic false false (kmerge [] ps)])
    | none => .stuck
  | _ => .stuck
theorem z47 : oDict (.ref i) A = od_ A A[i]? := by
  unfold oDict od_
  cases h : A[i]? with
  | none => simp only [h]
  | some o =>
    simp only [h]
    cases o with
    | dic t lk l => cases t <;> rfl
    | lst l => cases pairsD l <;> rfl
    | obj C fs => rfl
theorem z8y {lk : Bool} : od_ A (some (.dic false lk l)) = .ok (.ref A.length) (A ++ [.dic false false l]) := rfl
theorem srt_nil : srt [] = [] := by unfold srt; simp
def os_ (A : Hs) : Option (List Int) → RE D
  | some ns => .ok (.ref A.length) (A ++ [.lst ((srt ns).map D.int)])
  | none => .stuck
theorem z1a : oSorted x_ A = os_ A ((seqL A x_).bind intsOf) := by
  unfold oSorted os_
  cases (seqL A x_).bind intsOf <;> rfl
theorem z9r {ns : List Int} : os_ A (some ns) = .ok (.ref A.length) (A ++ [.lst ((srt ns).map D.int)]) := rfl
end
end SM

namespace DL
open PySem L2
/-! ### division of rows of bits (polynomials over two elements), in plain Lean -/
def bl (n : Nat) : Nat := if n = 0 then 0 else n.log2 + 1
theorem bl_le {n m : Nat} : bl n ≤ m ↔ n < 2 ^ m := by
  unfold bl
  by_cases h : n = 0
  · subst h
    simp [Nat.two_pow_pos]
  · rw [if_neg h]
    exact (Nat.succ_le_iff).trans (Nat.log2_lt h)
theorem bl_lt {n m : Nat} : bl n < m ↔ n < 2 ^ (m - 1) ∧ 0 < m := by
  cases m with
  | zero => simp
  | succ m => rw [Nat.lt_succ_iff, bl_le]; simp
theorem lt_bl (n : Nat) : n < 2 ^ bl n := bl_le.mp (Nat.le_refl _)
theorem bl_ge {n : Nat} (h : n ≠ 0) : 2 ^ (bl n - 1) ≤ n := by
  apply Nat.le_of_not_lt
  intro q
  have := bl_le.mpr q
  have : bl n ≠ 0 := by unfold bl; rw [if_neg h]; omega
  omega
theorem bl_pos {n : Nat} (h : n ≠ 0) : 0 < bl n := by unfold bl; rw [if_neg h]; omega
theorem bl_zero {n : Nat} (h : bl n = 0) : n = 0 := by
  by_cases z : n = 0
  · exact z
  · have := bl_pos z; omega
theorem top_bit {x m : Nat} (h1 : 2 ^ m ≤ x) (h2 : x < 2 ^ (m + 1)) : x.testBit m = true := by
  rw [Nat.testBit_eq_decide_div_mod_eq]
  have : x / 2 ^ m = 1 := by
    rw [Nat.pow_succ] at h2
    have hp := Nat.two_pow_pos m
    apply Nat.div_eq_of_lt_le <;> omega
  rw [this]; rfl
theorem xor_top {x y m : Nat} (h1 : 2 ^ m ≤ x) (h2 : x < 2 ^ (m + 1)) (h3 : 2 ^ m ≤ y) (h4 : y < 2 ^ (m + 1)) : x ^^^ y < 2 ^ m := by
  apply Nat.lt_pow_two_of_testBit
  intro i hi
  rw [Nat.testBit_xor]
  by_cases e : i = m
  · subst e
    rw [top_bit h1 h2, top_bit h3 h4]; rfl
  · have e1 : x.testBit i = false := Nat.testBit_lt_two_pow (Nat.lt_of_lt_of_le h2 (Nat.pow_le_pow_right (by decide) (by omega)))
    have e2 : y.testBit i = false := Nat.testBit_lt_two_pow (Nat.lt_of_lt_of_le h4 (Nat.pow_le_pow_right (by decide) (by omega)))
    rw [e1, e2]; rfl
theorem shl_range {c k : Nat} (hc : c ≠ 0) : 2 ^ (bl c - 1 + k) ≤ c <<< k ∧ c <<< k < 2 ^ (bl c - 1 + k + 1) := by
  rw [Nat.shiftLeft_eq, Nat.pow_add]
  have h1 := bl_ge hc
  have h2 := lt_bl c
  have hp := bl_pos hc
  refine ⟨Nat.mul_le_mul_right _ h1, ?_⟩
  rw [show bl c - 1 + k + 1 = bl c + k by omega, Nat.pow_add]
  exact Nat.mul_lt_mul_of_pos_right h2 (Nat.two_pow_pos k)
/-- the sums of c, shifted by less than K -/
def Sp (c : Nat) : Nat → Nat → Prop
  | 0, x => x = 0
  | K + 1, x => Sp c K x ∨ Sp c K (x ^^^ c <<< K)
theorem Sp.more {c K x : Nat} (h : Sp c K x) : Sp c (K + 1) x := .inl h
theorem Sp.mono {c x : Nat} : ∀ {K L : Nat}, K ≤ L → Sp c K x → Sp c L x := fun {K L} h s => by
  induction h with
  | refl => exact s
  | step _ ih => exact ih.more
theorem Sp.zero {c : Nat} : ∀ K, Sp c K 0
  | 0 => rfl
  | K + 1 => .inl (Sp.zero K)
theorem Sp.xor {c : Nat} : ∀ {K x y : Nat}, Sp c K x → Sp c K y → Sp c K (x ^^^ y)
  | 0, x, y, h1, h2 => by
    have h1 : x = 0 := h1
    have h2 : y = 0 := h2
    subst h1 h2; rfl
  | K + 1, x, y, h1, h2 => by
    rcases h1 with h1 | h1 <;> rcases h2 with h2 | h2
    · exact .inl (h1.xor h2)
    · refine .inr ?_
      rw [Nat.xor_assoc]
      exact h1.xor h2
    · refine .inr ?_
      rw [Nat.xor_assoc, Nat.xor_comm y, ← Nat.xor_assoc]
      exact h1.xor h2
    · refine .inl ?_
      have := h1.xor h2
      rw [Nat.xor_comm y, Nat.xor_assoc, ← Nat.xor_assoc (c <<< K), Nat.xor_self, Nat.zero_xor] at this
      exact this
theorem Sp.one {c k : Nat} : Sp c (k + 1) (c <<< k) := by
  refine .inr ?_
  rw [Nat.xor_self]
  exact Sp.zero k
theorem Sp.shl {c j : Nat} : ∀ {K x : Nat}, Sp c K x → Sp c (K + j) (x <<< j)
  | 0, x, h => by
    have h : x = 0 := h
    subst h
    rw [Nat.zero_shiftLeft]
    exact Sp.zero _
  | K + 1, x, h => by
    rw [show K + 1 + j = (K + j) + 1 by omega]
    rcases h with h | h
    · exact .inl (h.shl)
    · refine .inr ?_
      have := h.shl (j := j)
      rw [Nat.shiftLeft_xor_distrib, ← Nat.shiftLeft_add] at this
      exact this
theorem Sp.lt {c : Nat} (hc : c ≠ 0) : ∀ {K x : Nat}, Sp c K x → x < 2 ^ (bl c - 1 + K)
  | 0, x, h => by
    have h : x = 0 := h
    subst h; exact Nat.two_pow_pos _
  | K + 1, x, h => by
    rcases h with h | h
    · exact Nat.lt_of_lt_of_le (Sp.lt hc h) (Nat.pow_le_pow_right (by decide) (by omega))
    · have h1 := Nat.lt_of_lt_of_le (Sp.lt hc h) (Nat.pow_le_pow_right (by decide) (show bl c - 1 + K ≤ bl c - 1 + (K + 1) by omega))
      have h2 := (shl_range (k := K) hc).2
      have e : x = (x ^^^ c <<< K) ^^^ c <<< K := by rw [Nat.xor_assoc, Nat.xor_self, Nat.xor_zero]
      rw [e]
      exact Nat.xor_lt_two_pow h1 (by rw [show bl c - 1 + (K + 1) = bl c - 1 + K + 1 by omega]; exact h2)
/-- a sum that is no nought is as wide as c at the least -/
theorem Sp.wide {c : Nat} (hc : c ≠ 0) : ∀ {K x : Nat}, Sp c K x → x ≠ 0 → 2 ^ (bl c - 1) ≤ x
  | 0, x, h, n => absurd h n
  | K + 1, x, h, n => by
    rcases h with h | h
    · exact Sp.wide hc h n
    · have h1 := Sp.lt hc h
      have ⟨h2, h3⟩ := shl_range (k := K) hc
      have t : x.testBit (bl c - 1 + K) = true := by
        have e : x = (x ^^^ c <<< K) ^^^ c <<< K := by rw [Nat.xor_assoc, Nat.xor_self, Nat.xor_zero]
        rw [e, Nat.testBit_xor, Nat.testBit_lt_two_pow h1, top_bit h2 h3]; rfl
      have := Nat.ge_two_pow_of_testBit t
      exact Nat.le_trans (Nat.pow_le_pow_right (by decide) (by omega)) this
/-- the multiples of c -/
def Mu (c x : Nat) : Prop := ∃ K, Sp c K x
theorem Mu.zero {c : Nat} : Mu c 0 := ⟨0, rfl⟩
theorem Mu.xor {c x y : Nat} : Mu c x → Mu c y → Mu c (x ^^^ y) := fun ⟨K, h⟩ ⟨L, g⟩ => ⟨max K L, (h.mono (Nat.le_max_left K L)).xor (g.mono (Nat.le_max_right K L))⟩
theorem Mu.shl {c x : Nat} (k : Nat) : Mu c x → Mu c (x <<< k) := fun ⟨K, h⟩ => ⟨K + k, h.shl⟩
theorem Mu.one {c : Nat} (k : Nat) : Mu c (c <<< k) := ⟨k + 1, Sp.one⟩
theorem Mu.small {c x : Nat} (hc : c ≠ 0) (h : Mu c x) (hx : bl x < bl c) : x = 0 := by
  obtain ⟨K, h⟩ := h
  by_cases z : x = 0
  · exact z
  · have := h.wide hc z
    have := (bl_lt.mp hx).1
    omega
/-- one step of the division -/
theorem step_lt {n c : Nat} (hc : c ≠ 0) (h : bl c ≤ bl n) : bl (n ^^^ c <<< (bl n - bl c)) < bl n := by
  have hp := bl_pos hc
  have hn : n ≠ 0 := fun e => by subst e; unfold bl at h; rw [if_pos rfl] at h; unfold bl at hp; omega
  refine bl_lt.mpr ⟨?_, by omega⟩
  have ⟨h1, h2⟩ := shl_range (k := bl n - bl c) hc
  rw [show bl c - 1 + (bl n - bl c) = bl n - 1 by omega] at h1 h2
  have e := bl_ge hn
  have e2 := lt_bl n
  exact xor_top e (by rw [show bl n - 1 + 1 = bl n by omega]; exact e2) h1 h2
def red (c : Nat) : Nat → Nat → Nat
  | 0, n => n
  | f + 1, n => if bl c ≤ bl n then red c f (n ^^^ c <<< (bl n - bl c)) else n
theorem red_ok {c : Nat} (hc : c ≠ 0) : ∀ (f n : Nat), bl n ≤ f → bl (red c f n) < bl c ∧ Mu c (n ^^^ red c f n)
  | 0, n, h => by
    have : n = 0 := bl_zero (by omega)
    subst this
    refine ⟨?_, ?_⟩
    · show bl 0 < bl c
      have := bl_pos hc
      unfold bl at this ⊢
      simpa using this
    · show Mu c (0 ^^^ 0)
      exact Mu.zero
  | f + 1, n, h => by
    unfold red
    by_cases q : bl c ≤ bl n
    · rw [if_pos q]
      have st := step_lt hc q
      obtain ⟨h1, h2⟩ := red_ok hc f (n ^^^ c <<< (bl n - bl c)) (by omega)
      refine ⟨h1, ?_⟩
      have := h2.xor (Mu.one (c := c) (bl n - bl c))
      generalize red c f (n ^^^ c <<< (bl n - bl c)) = r at this ⊢
      generalize c <<< (bl n - bl c) = s at this
      have e : (n ^^^ s ^^^ r) ^^^ s = n ^^^ r := by rw [Nat.xor_assoc n s r, Nat.xor_comm s r, ← Nat.xor_assoc, Nat.xor_assoc, Nat.xor_self, Nat.xor_zero]
      rw [e] at this
      exact this
    · rw [if_neg q]
      exact ⟨by omega, by rw [Nat.xor_self]; exact Mu.zero⟩
/-- the rest of n by c -/
def dv (c n : Nat) : Nat := red c (bl n) n
section
variable {c : Nat} (hc : c ≠ 0)
include hc
theorem dv_lt (n : Nat) : bl (dv c n) < bl c := (red_ok hc _ n (Nat.le_refl _)).1
theorem dv_mu (n : Nat) : Mu c (n ^^^ dv c n) := (red_ok hc _ n (Nat.le_refl _)).2
/-- only one rest there is -/
theorem dv_only {n r : Nat} (h : bl r < bl c) (m : Mu c (n ^^^ r)) : dv c n = r := by
  have e := (dv_mu hc n).xor m
  have e1 : (n ^^^ dv c n) ^^^ (n ^^^ r) = dv c n ^^^ r := by
    rw [Nat.xor_comm n (dv c n), Nat.xor_assoc, ← Nat.xor_assoc n n r, Nat.xor_self, Nat.zero_xor]
  rw [e1] at e
  have b := bl_lt.mp (dv_lt hc n)
  have b' := bl_lt.mp h
  have z := e.small hc (bl_lt.mpr ⟨Nat.xor_lt_two_pow b.1 b'.1, b.2⟩)
  have e2 : dv c n ^^^ r ^^^ r = dv c n := by rw [Nat.xor_assoc, Nat.xor_self, Nat.xor_zero]
  rw [← e2, z, Nat.zero_xor]
theorem dv_xor (x y : Nat) : dv c (x ^^^ y) = dv c x ^^^ dv c y := by
  have b := bl_lt.mp (dv_lt hc x)
  have b' := bl_lt.mp (dv_lt hc y)
  refine dv_only hc (bl_lt.mpr ⟨Nat.xor_lt_two_pow b.1 b'.1, b.2⟩) ?_
  have := (dv_mu hc x).xor (dv_mu hc y)
  have e : x ^^^ y ^^^ (dv c x ^^^ dv c y) = (x ^^^ dv c x) ^^^ (y ^^^ dv c y) := by
    rw [Nat.xor_assoc, Nat.xor_assoc, ← Nat.xor_assoc y, Nat.xor_comm y (dv c x), Nat.xor_assoc]
  rw [e]
  exact this
theorem dv_small {r : Nat} (h : bl r < bl c) : dv c r = r := dv_only hc h (by rw [Nat.xor_self]; exact Mu.zero)
theorem dv_zero {n : Nat} (h : Mu c n) : dv c n = 0 := dv_only hc (by have := bl_pos hc; unfold bl at this ⊢; simpa using this) (by rw [Nat.xor_zero]; exact h)
theorem dv_mul {n : Nat} (h : dv c n = 0) : Mu c n := by
  have := dv_mu hc n
  rw [h, Nat.xor_zero] at this
  exact this
end
end DL
namespace DL
open PySem L2
theorem shl_xor {x y k : Nat} (h : y < 2 ^ k) : x <<< k ^^^ y = x * 2 ^ k + y := by
  apply Nat.eq_of_testBit_eq
  intro i
  rw [Nat.testBit_xor, Nat.testBit_shiftLeft, Nat.mul_comm x, Nat.testBit_two_pow_mul_add _ h]
  by_cases q : i < k
  · rw [if_pos q, decide_eq_false (by omega)]
    simp
  · rw [if_neg q, decide_eq_true (by omega), Nat.testBit_lt_two_pow (Nat.lt_of_lt_of_le h (Nat.pow_le_pow_right (by decide) (by omega)))]
    simp
/-- a row's number -/
def gN (l : List Int) : Nat := (gath l).toNat
theorem gN_cast {l : List Int} (h : Bits l) : ((gN l : Nat) : Int) = gath l := by
  unfold gN
  have := (gath_in h).1
  omega
theorem gN_lt {l : List Int} (h : Bits l) : gN l < 2 ^ l.length := by
  have h1 := gN_cast h
  have h2 := (gath_in h).2
  have e : ((2 ^ l.length : Nat) : Int) = 2 ^ l.length := by simp
  omega
theorem gN_append {l m : List Int} (h1 : Bits l) (h2 : Bits m) : gN (l ++ m) = gN l <<< m.length ^^^ gN m := by
  rw [shl_xor (gN_lt h2)]
  have a := gN_cast (h1.append h2)
  rw [gath_append, ← gN_cast h1, ← gN_cast h2] at a
  have e : ((2 ^ m.length : Nat) : Int) = 2 ^ m.length := by simp
  rw [← e] at a
  exact_mod_cast a
theorem gN_bitsN {n m : Nat} (h : n < 2 ^ m) : gN (bitsN (n : Int) m) = n := by
  unfold gN
  rw [gath_bitsN]
  have e : ((2 ^ m : Nat) : Int) = 2 ^ m := by simp
  rw [← e, Int.emod_eq_of_lt (by omega) (by omega)]
  rfl
theorem intBits_bl {n : Nat} : Builtin.Int.intBits (n : Int) = bl n := by
  unfold Builtin.Int.intBits bl
  by_cases h : n = 0
  · subst h; rfl
  · rw [if_neg h, if_neg (by simpa using h)]; rfl
end DL


namespace Kk
open PySem L2 SM
def cts_NoPacket : List String := ["NoPacket"]
def cts_WireError : List String := ["NoBits", "NoCode", "NoNumber", "NoPacket", "NoPlace", "NoTable"]
def os_ : List String := ["Net", "Packet", "Thing"]
def xs_ : List String := ["NoBits", "NoCode", "NoNumber", "NoPacket", "NoPlace", "NoTable"]
def tb_ : List (String × String × Bool) := [("NoneType", "Packet", false), ("bool", "Packet", false), ("int", "Packet", false), ("str", "Packet", false), ("tuple", "Packet", false), ("list", "Packet", false), ("dict", "Packet", false), ("Net", "NoPlace", false), ("Net", "Packet", false), ("Net", "bool", false), ("Net", "dict", false), ("Net", "int", false), ("Net", "list", false), ("Net", "tuple", false), ("Packet", "NoPlace", false), ("Packet", "Packet", true), ("Packet", "bool", false), ("Packet", "dict", false), ("Packet", "int", false), ("Packet", "list", false), ("Packet", "tuple", false), ("Thing", "NoPlace", false), ("Thing", "Packet", false), ("Thing", "bool", false), ("Thing", "dict", false), ("Thing", "int", false), ("Thing", "list", false), ("Thing", "tuple", false), ("NoBits", "NoPlace", false), ("NoBits", "Packet", false), ("NoBits", "bool", false), ("NoBits", "dict", false), ("NoBits", "int", false), ("NoBits", "list", false), ("NoBits", "tuple", false), ("NoCode", "NoPlace", false), ("NoCode", "Packet", false), ("NoCode", "bool", false), ("NoCode", "dict", false), ("NoCode", "int", false), ("NoCode", "list", false), ("NoCode", "tuple", false), ("NoNumber", "NoPlace", false), ("NoNumber", "Packet", false), ("NoNumber", "bool", false), ("NoNumber", "dict", false), ("NoNumber", "int", false), ("NoNumber", "list", false), ("NoNumber", "tuple", false), ("NoPacket", "NoPlace", false), ("NoPacket", "Packet", false), ("NoPacket", "bool", false), ("NoPacket", "dict", false), ("NoPacket", "int", false), ("NoPacket", "list", false), ("NoPacket", "tuple", false), ("NoPlace", "NoPlace", true), ("NoPlace", "Packet", false), ("NoPlace", "bool", false), ("NoPlace", "dict", false), ("NoPlace", "int", false), ("NoPlace", "list", false), ("NoPlace", "tuple", false), ("NoTable", "NoPlace", false), ("NoTable", "Packet", false), ("NoTable", "bool", false), ("NoTable", "dict", false), ("NoTable", "int", false), ("NoTable", "list", false), ("NoTable", "tuple", false)]
/- slots of is_place: 0=thing -/
noncomputable def F_is_place : Fn := mkFn 1 1
  (sRet (eAnd (eCB (c2 (oIsi os_ xs_ tb_)) (aCons (eVar 0) (aCons (eC (.ty "int")) aNil))) (eAnd (eNot (eCB (c2 (oIsi os_ xs_ tb_)) (aCons (eVar 0) (aCons (eC (.ty "bool")) aNil)))) (eCh oLe oLe (eC (.int 0)) (eVar 0) (eC (.int 255))))))
/- slots of is_other: 0=thing 1=place 2=table -/
noncomputable def F_is_other : Fn := mkFn 3 3
  (sRet (eAnd (eCall F_is_place (aCons (eVar 0) aNil)) (eAnd (eOp oIn (eVar 0) (eVar 2)) (eOp oNe (eVar 0) (eVar 1)))))
/- slots of are_ways: 0=thing 1=place 2=table 3=target 4=neighbour -/
noncomputable def F_are_ways : Fn := mkFn 3 5
  (sSeq (sIf (tNo (tOf (eCB (c2 (oIsi os_ xs_ tb_)) (aCons (eVar 0) (aCons (eC (.ty "dict")) aNil))))) (sRet (eC (.bl false))) sNx) (sSeq (sLk (eVar 0) (sFor (wOf wkI (eVar 0)) (gT [(gN 3), (gN 4)]) (sIf (tOo (tNo (tOf (eCall F_is_other (aCons (eVar 3) (aCons (eVar 1) (aCons (eVar 2) aNil)))))) (tNo (tOf (eCall F_is_other (aCons (eVar 4) (aCons (eVar 1) (aCons (eVar 2) aNil))))))) (sRet (eC (.bl false))) sNx))) (sRet (eC (.bl true)))))
/- slots of need_table: 0=thing 1=place 2=ways -/
noncomputable def F_need_table : Fn := mkFn 1 3
  (sSeq (sIf (tOo (tNo (tOf (eCB (c2 (oIsi os_ xs_ tb_)) (aCons (eVar 0) (aCons (eC (.ty "dict")) aNil))))) (tNo (tOf (eCh oLe oLe (eC (.int 1)) (eCB (c1 oLen) (aCons (eVar 0) aNil)) (eC (.int 12)))))) (sRaise "NoTable") sNx) (sSeq (sIf (tNo (tOf (eCB (c1 oAll) (aCons (eLk (eVar 0) (eLc (wOf wkK (eVar 0)) (gN 1) tYe (eCall0 F_is_place (aCons (eVar 1) aNil)) [1])) aNil)))) (sRaise "NoTable") sNx) (sLk (eVar 0) (sFor (wOf wkI (eVar 0)) (gT [(gN 1), (gN 2)]) (sIf (tNo (tOf (eCall F_are_ways (aCons (eVar 2) (aCons (eVar 1) (aCons (eVar 0) aNil)))))) (sRaise "NoTable") sNx)))))
/- slots of need_code: 0=code -/
noncomputable def F_need_code : Fn := mkFn 1 1
  (sIf (tOo (tNo (tOf (eCB (c2 (oIsi os_ xs_ tb_)) (aCons (eVar 0) (aCons (eC (.ty "int")) aNil))))) (tOo (tOf (eCB (c2 (oIsi os_ xs_ tb_)) (aCons (eVar 0) (aCons (eC (.ty "bool")) aNil)))) (tOo (tNo (tOf (eCh oLe oLe (eC (.int 3)) (eVar 0) (eC (.int 131071))))) (tOf (eOp oEq (eOp oMod (eVar 0) (eC (.int 2))) (eC (.int 0))))))) (sRaise "NoCode") sNx)
/- slots of width: 0=code -/
noncomputable def F_width : Fn := mkFn 1 1
  (sSeq (sDrop (eCall F_need_code (aCons (eVar 0) aNil))) (sRet (eOp oSub (eUn oBits (eVar 0)) (eC (.int 1)))))
/- slots of Net.__init__: 0=self 1=table 2=code 3=oldest 4=place 5=ways 6=neighbour -/
noncomputable def F_Net___init__ : Fn := mkFn 4 7
  (sSeq (sDrop (eCall F_need_table (aCons (eVar 1) aNil))) (sSeq (sDrop (eCall F_width (aCons (eVar 2) aNil))) (sSeq (sIf (tOo (tNo (tOf (eCB (c2 (oIsi os_ xs_ tb_)) (aCons (eVar 3) (aCons (eC (.ty "int")) aNil))))) (tOo (tOf (eCB (c2 (oIsi os_ xs_ tb_)) (aCons (eVar 3) (aCons (eC (.ty "bool")) aNil)))) (tOf (eOp oLt (eVar 3) (eC (.int 0)))))) (sRaise "NoNumber") sNx) (sSeq (sFl ["Net"] "ways" (eVar 0) (eCB (c1 oDict) (aCons (eLk (eVar 1) (eLc (wOf wkI (eVar 1)) (gT [(gN 4), (gN 5)]) tYe (eTup (aCons (eVar 4) (aCons (eCB (c1 oDict) (aCons (eVar 5) aNil)) aNil))) [4, 5])) aNil))) (sSeq (sFl ["Net"] "code" (eVar 0) (eVar 2)) (sSeq (sFl ["Net"] "oldest" (eVar 0) (eVar 3)) (sSeq (sFl ["Net"] "roads" (eVar 0) (eDNew true)) (sLk (eVar 1) (sFor (wOf wkI (eVar 1)) (gT [(gN 4), (gN 5)]) (sLk (eVar 5) (sFor (wOf wkV (eVar 5)) (gN 6) (sPut (eFld ["Net"] "roads" (eVar 0)) (eTup (aCons (eVar 4) (aCons (eVar 6) aNil))) (eLst aNil)))))))))))))
/- slots of _law_next: 0=_law_state_here 1=_law_size 2=_law_number 3=_law_mixed -/
noncomputable def F_l_next : Fn := mkFn 2 4
  (sSeq (sIf (tAn (tOf (eOp oEq (eOp oIx (eVar 0) (eC (.int 1))) (eC (.int 1)))) (tOf (eOp oNotIn (eOp oIx (eVar 0) (eC (.int 0))) (eTup (aCons (eC (.int 0)) (aCons (eUn oNeg (eC (.int 1))) aNil)))))) (sSeq (sSet 2 (eOp oMod (eOp oIx (eVar 0) (eC (.int 0))) (eVar 1))) (sSeq (sPut (eVar 0) (eC (.int 0)) (eOp oDiv (eOp oIx (eVar 0) (eC (.int 0))) (eVar 1))) (sRet (eVar 2)))) sNx) (sSeq (sIf (tOf (eOp oEq (eOp oIx (eVar 0) (eC (.int 1))) (eC (.int 1)))) (sSeq (sPut (eVar 0) (eC (.int 0)) (eOp oIx (eVar 0) (eC (.int 2)))) (sPut (eVar 0) (eC (.int 1)) (eC (.int 0)))) sNx) (sSeq (sPut (eVar 0) (eC (.int 0)) (eOp oMod (eOp oAdd (eOp oMul (eOp oIx (eVar 0) (eC (.int 0))) (eC (.int 48271))) (eC (.int 11))) (eC (.int 2147483647)))) (sSeq (sSet 3 (eOp oMod (eOp oAdd (eOp oMul (eOp oIx (eVar 0) (eC (.int 0))) (eOp oIx (eVar 0) (eC (.int 0)))) (eOp oMul (eC (.int 16807)) (eOp oIx (eVar 0) (eC (.int 0))))) (eC (.int 2147483629)))) (sRet (eOp oMod (eOp oDiv (eOp oMod (eOp oAdd (eOp oMul (eVar 3) (eVar 3)) (eOp oMul (eC (.int 7)) (eVar 3))) (eC (.int 2147483587))) (eC (.int 5))) (eVar 1)))))))
/- slots of _law_fields: 0=_law_state_here 1=_law_places 2=_law_k 3=_law_many 4=_law_some 5=_law_data 6=_law_life 7=_law_name -/
noncomputable def F_l_fields : Fn := mkFn 3 8
  (sSeq (sSet 3 (eOp oIx (eLst (aCons (eCall F_l_next (aCons (eVar 0) (aCons (eC (.int 41)) aNil))) (aCons (eCall F_l_next (aCons (eVar 0) (aCons (eC (.int 1001)) aNil))) aNil))) (eCB (c1 oInt) (aCons (eAnd (eOp oEq (eCall F_l_next (aCons (eVar 0) (aCons (eC (.int 4)) aNil))) (eC (.int 0))) (eOp oEq (eVar 2) (eC (.int 0)))) aNil)))) (sSeq (sSet 4 (eLc (wAs rg1 (aCons (eCB (c2 oMin2) (aCons (eVar 3) (aCons (eC (.int 50)) aNil))) aNil)) (gN 2) tYe (eCall0 F_l_next (aCons (eVar 0) (aCons (eC (.int 256)) aNil))) [2])) (sSeq (sSet 5 (eCB (c1 oTuple) (aCons (eSl oSl (eOp oMul (eVar 4) (eC (.int 21))) oNo (oSo (eVar 3))) aNil))) (sSeq (sSet 6 (eOp oAdd (eC (.int 1)) (eCall F_l_next (aCons (eVar 0) (aCons (eC (.int 255)) aNil))))) (sSeq (sSet 7 (eCall F_l_next (aCons (eVar 0) (aCons (eC (.int 65536)) aNil)))) (sRet (eTup (aCons (eCall F_l_next (aCons (eVar 0) (aCons (eC (.int 256)) aNil))) (aCons (eOp oIx (eVar 1) (eC (.int 1))) (aCons (eCall F_l_next (aCons (eVar 0) (aCons (eC (.int 256)) aNil))) (aCons (eVar 6) (aCons (eVar 7) (aCons (eC (.int 0)) (aCons (eOp oEq (eCall F_l_next (aCons (eVar 0) (aCons (eC (.int 2)) aNil))) (eC (.int 1))) (aCons (eVar 5) aNil)))))))))))))))
/- slots of Thing.__init__: 0=self 1=row 2=years 3=places -/
noncomputable def F_Thing___init__ : Fn := mkFn 4 4
  (sSeq (sFl ["Thing"] "row" (eVar 0) (eVar 1)) (sSeq (sFl ["Thing"] "years" (eVar 0) (eVar 2)) (sFl ["Thing"] "places" (eVar 0) (eVar 3))))
/- slots of is_number_nets: 0=thing 1=least 2=most -/
noncomputable def F_is_number_nets : Fn := mkFn 3 3
  (sRet (eAnd (eCB (c2 (oIsi os_ xs_ tb_)) (aCons (eVar 0) (aCons (eC (.ty "int")) aNil))) (eAnd (eNot (eCB (c2 (oIsi os_ xs_ tb_)) (aCons (eVar 0) (aCons (eC (.ty "bool")) aNil)))) (eCh oLe oLe (eVar 1) (eVar 0) (eVar 2)))))
/- slots of of_two: 0=row 1=place -/
noncomputable def F_of_two : Fn := mkFn 2 2
  (sRet (eOp oAdd (eOp oMul (eOp oIx (eVar 0) (eVar 1)) (eC (.int 256))) (eOp oIx (eVar 0) (eOp oAdd (eVar 1) (eC (.int 1))))))
/- slots of sum_of: 0=head 1=total 2=place -/
noncomputable def F_sum_of : Fn := mkFn 1 3
  (sSeq (sSet 1 (eC (.int 0))) (sSeq (sFor (wAs rg3 (aCons (eC (.int 0)) (aCons (eC (.int 12)) (aCons (eC (.int 2)) aNil)))) (gN 2) (sAug 1 oIAdd (eCall F_of_two (aCons (eVar 0) (aCons (eVar 2) aNil))))) (sSeq (sWh (tOf (eOp oGt (eVar 1) (eC (.int 65535)))) (sSet 1 (eOp oAdd (eOp oDiv (eVar 1) (eOp oAdd (eC (.int 65535)) (eC (.int 1)))) (eOp oMod (eVar 1) (eOp oAdd (eC (.int 65535)) (eC (.int 1))))))) (sRet (eOp oSub (eC (.int 65535)) (eVar 1))))))
/- slots of two: 0=number -/
noncomputable def F_two : Fn := mkFn 1 1
  (sRet (eTup (aCons (eOp oDiv (eVar 0) (eC (.int 256))) (aCons (eOp oMod (eVar 0) (eC (.int 256))) aNil))))
/- slots of packet_bytes: 0=packet 1=head -/
noncomputable def F_packet_bytes : Fn := mkFn 1 2
  (sSeq (sSet 1 (eOp oAdd (eOp oAdd (eTup (aCons (eFld ["Packet"] "kind" (eVar 0)) (aCons (eFld ["Packet"] "life" (eVar 0)) (aCons (eFld ["Packet"] "source" (eVar 0)) (aCons (eFld ["Packet"] "target" (eVar 0)) aNil))))) (eCall F_two (aCons (eFld ["Packet"] "name" (eVar 0)) aNil))) (eCall F_two (aCons (eFld ["Packet"] "first" (eVar 0)) aNil)))) (sSeq (sAug 1 oIAdd (eOp oAdd (eTup (aCons (eCB (c1 oInt) (aCons (eFld ["Packet"] "more" (eVar 0)) aNil)) (aCons (eC (.int 0)) aNil))) (eCall F_two (aCons (eCB (c1 oLen) (aCons (eFld ["Packet"] "data" (eVar 0)) aNil)) aNil)))) (sRet (eOp oAdd (eOp oAdd (eVar 1) (eCall F_two (aCons (eCall F_sum_of (aCons (eVar 1) aNil)) aNil))) (eFld ["Packet"] "data" (eVar 0))))))
/- slots of Net.put: 0=self 1=place 2=packet 3=neighbour -/
noncomputable def F_Net_put : Fn := mkFn 3 4
  (sSeq (sIf (tOo (tNo (tOf (eCall F_is_number_nets (aCons (eVar 1) (aCons (eC (.int 0)) (aCons (eC (.int 255)) aNil)))))) (tOf (eOp oNotIn (eVar 1) (eFld ["Net"] "ways" (eVar 0))))) (sRaise "NoPlace") sNx) (sSeq (sSet 3 (eGet2 (eOp oDGet (eFld ["Net"] "ways" (eVar 0)) (eVar 1)) (eFld ["Packet"] "target" (eVar 2)) (eC .non))) (sIf (tAn (tOf (eOp oIsNot (eVar 3) (eC .non))) (tOf (eOp oGt (eFld ["Packet"] "life" (eVar 2)) (eC (.int 0))))) (sDrop (eBL oAppend (eOp oDGet (eFld ["Net"] "roads" (eVar 0)) (eTup (aCons (eVar 1) (aCons (eVar 3) aNil)))) (aCons (eMake "Thing" F_Thing___init__ (aCons (eCall F_packet_bytes (aCons (eVar 2) aNil)) (aCons (eC (.int 0)) (aCons (eTup aNil) aNil)))) aNil))) sNx)))
/- slots of Net.road: 0=self 1=one 2=other -/
noncomputable def F_Net_road : Fn := mkFn 3 3
  (sSeq (sIf (tOo (tNo (tOf (eCall F_is_number_nets (aCons (eVar 1) (aCons (eC (.int 0)) (aCons (eC (.int 255)) aNil)))))) (tOo (tNo (tOf (eCall F_is_number_nets (aCons (eVar 2) (aCons (eC (.int 0)) (aCons (eC (.int 255)) aNil)))))) (tOf (eOp oNotIn (eTup (aCons (eVar 1) (aCons (eVar 2) aNil))) (eFld ["Net"] "roads" (eVar 0)))))) (sRaise "NoPlace") sNx) (sRet (eOp oDGet (eFld ["Net"] "roads" (eVar 0)) (eTup (aCons (eVar 1) (aCons (eVar 2) aNil))))))
/- slots of Net.thing: 0=self 1=one 2=other 3=number 4=row -/
noncomputable def F_Net_thing : Fn := mkFn 4 5
  (sSeq (sSet 4 (eMeth "road" [("Net", F_Net_road)] (eVar 0) (aCons (eVar 1) (aCons (eVar 2) aNil)))) (sSeq (sIf (tNo (tOf (eCall F_is_number_nets (aCons (eVar 3) (aCons (eC (.int 0)) (aCons (eOp oSub (eCB (c1 oLen) (aCons (eVar 4) aNil)) (eC (.int 1))) aNil)))))) (sRaise "NoPlace") sNx) (sRet (eOp oIx (eVar 4) (eVar 3)))))
/- slots of is_number_packets: 0=thing 1=most -/
noncomputable def F_is_number_packets : Fn := mkFn 2 2
  (sRet (eAnd (eCB (c2 (oIsi os_ xs_ tb_)) (aCons (eVar 0) (aCons (eC (.ty "int")) aNil))) (eAnd (eNot (eCB (c2 (oIsi os_ xs_ tb_)) (aCons (eVar 0) (aCons (eC (.ty "bool")) aNil)))) (eCh oLe oLe (eC (.int 0)) (eVar 0) (eVar 1)))))
/- slots of are_bytes: 0=thing 1=most 2=byte -/
noncomputable def F_are_bytes : Fn := mkFn 2 3
  (sRet (eAnd (eCB (c2 (oIsi os_ xs_ tb_)) (aCons (eVar 0) (aCons (eC (.ty "tuple")) aNil))) (eAnd (eOp oLe (eCB (c1 oLen) (aCons (eVar 0) aNil)) (eVar 1)) (eCB (c1 oAll) (aCons (eLc (wSeq (eVar 0)) (gN 2) tYe (eCall0 F_is_number_packets (aCons (eVar 2) (aCons (eC (.int 255)) aNil))) [2]) aNil)))))
/- slots of Packet.__init__: 0=self 1=source 2=target 3=kind 4=life 5=name 6=first 7=more 8=data 9=thing -/
noncomputable def F_Packet___init__ : Fn := mkFn 9 10
  (sSeq (sIf (tNo (tOf (eCB (c1 oAll) (aCons (eLc (wSeq (eTup (aCons (eVar 1) (aCons (eVar 2) (aCons (eVar 3) (aCons (eVar 4) aNil)))))) (gN 9) tYe (eCall0 F_is_number_packets (aCons (eVar 9) (aCons (eC (.int 255)) aNil))) [9]) aNil)))) (sRaise "NoPacket") sNx) (sSeq (sIf (tOo (tNo (tOf (eCall F_is_number_packets (aCons (eVar 5) (aCons (eC (.int 65535)) aNil))))) (tOo (tNo (tOf (eCall F_is_number_packets (aCons (eVar 6) (aCons (eC (.int 1000)) aNil))))) (tNo (tOf (eCB (c2 (oIsi os_ xs_ tb_)) (aCons (eVar 7) (aCons (eC (.ty "bool")) aNil))))))) (sRaise "NoPacket") sNx) (sSeq (sIf (tNo (tOf (eCall F_are_bytes (aCons (eVar 8) (aCons (eOp oSub (eC (.int 1000)) (eVar 6)) aNil))))) (sRaise "NoPacket") sNx) (sSeq (sFl ["Packet"] "source" (eVar 0) (eVar 1)) (sSeq (sFl ["Packet"] "target" (eVar 0) (eVar 2)) (sSeq (sFl ["Packet"] "kind" (eVar 0) (eVar 3)) (sSeq (sFl ["Packet"] "life" (eVar 0) (eVar 4)) (sSeq (sFl ["Packet"] "name" (eVar 0) (eVar 5)) (sSeq (sFl ["Packet"] "first" (eVar 0) (eVar 6)) (sSeq (sFl ["Packet"] "more" (eVar 0) (eVar 7)) (sFl ["Packet"] "data" (eVar 0) (eVar 8))))))))))))
/- slots of Packet.told: 0=self 1=ends -/
noncomputable def F_Packet_told : Fn := mkFn 1 2
  (sSeq (sSet 1 (eTup (aCons (eFld ["Packet"] "source" (eVar 0)) (aCons (eFld ["Packet"] "target" (eVar 0)) (aCons (eFld ["Packet"] "kind" (eVar 0)) (aCons (eFld ["Packet"] "life" (eVar 0)) aNil)))))) (sRet (eOp oAdd (eVar 1) (eTup (aCons (eFld ["Packet"] "name" (eVar 0)) (aCons (eFld ["Packet"] "first" (eVar 0)) (aCons (eFld ["Packet"] "more" (eVar 0)) (aCons (eFld ["Packet"] "data" (eVar 0)) aNil))))))))
/- slots of spread: 0=number 1=many 2=place -/
noncomputable def F_spread : Fn := mkFn 2 3
  (sRet (eLc (wAs rg1 (aCons (eVar 1) aNil)) (gN 2) tYe (eOp oAnd (eOp oShr (eVar 0) (eOp oSub (eOp oSub (eVar 1) (eC (.int 1))) (eVar 2))) (eC (.int 1))) [2]))
/- slots of bits_by: 0=number 1=many -/
noncomputable def F_bits_by : Fn := mkFn 2 2
  (sSeq (sIf (tOo (tNo (tOf (eCB (c2 (oIsi os_ xs_ tb_)) (aCons (eVar 0) (aCons (eC (.ty "int")) aNil))))) (tOo (tOf (eCB (c2 (oIsi os_ xs_ tb_)) (aCons (eVar 0) (aCons (eC (.ty "bool")) aNil)))) (tOo (tOf (eOp oLt (eVar 0) (eC (.int 0)))) (tOf (eOp oGt (eOp oShr (eVar 0) (eVar 1)) (eC (.int 0))))))) (sRaise "NoNumber") sNx) (sRet (eCB (c1 oTuple) (aCons (eCall F_spread (aCons (eVar 0) (aCons (eVar 1) aNil))) aNil))))
/- slots of divided: 0=number 1=code 2=many -/
noncomputable def F_divided : Fn := mkFn 2 3
  (sSeq (sSet 2 (eUn oBits (eVar 1))) (sSeq (sWh (tOf (eOp oGe (eUn oBits (eVar 0)) (eVar 2))) (sSet 0 (eOp oXor (eVar 0) (eOp oShl (eVar 1) (eOp oSub (eUn oBits (eVar 0)) (eVar 2)))))) (sRet (eVar 0))))
/- slots of is_whole: 0=thing 1=least 2=most -/
noncomputable def F_is_whole : Fn := mkFn 3 3
  (sRet (eAnd (eCB (c2 (oIsi os_ xs_ tb_)) (aCons (eVar 0) (aCons (eC (.ty "int")) aNil))) (eAnd (eNot (eCB (c2 (oIsi os_ xs_ tb_)) (aCons (eVar 0) (aCons (eC (.ty "bool")) aNil)))) (eCh oLe oLe (eVar 1) (eVar 0) (eVar 2)))))
/- slots of is_bits: 0=thing 1=bit -/
noncomputable def F_is_bits : Fn := mkFn 1 2
  (sRet (eAnd (eCB (c2 (oIsi os_ xs_ tb_)) (aCons (eVar 0) (aCons (eC (.ty "tuple")) aNil))) (eCB (c1 oAll) (aCons (eLc (wSeq (eVar 0)) (gN 1) tYe (eCall0 F_is_whole (aCons (eVar 1) (aCons (eC (.int 0)) (aCons (eC (.int 1)) aNil)))) [1]) aNil))))
/- slots of gathered: 0=bits 1=number 2=bit -/
noncomputable def F_gathered : Fn := mkFn 1 3
  (sSeq (sSet 1 (eC (.int 0))) (sSeq (sFor (wSeq (eVar 0)) (gN 2) (sSet 1 (eOp oOr (eOp oShl (eVar 1) (eC (.int 1))) (eVar 2)))) (sRet (eVar 1))))
/- slots of number_of: 0=bits -/
noncomputable def F_number_of : Fn := mkFn 1 1
  (sSeq (sIf (tNo (tOf (eCall F_is_bits (aCons (eVar 0) aNil)))) (sRaise "NoBits") sNx) (sRet (eCall F_gathered (aCons (eVar 0) aNil))))
/- slots of number_by: 0=bits -/
noncomputable def F_number_by : Fn := mkFn 1 1
  (sSeq (sIf (tNo (tOf (eCall F_is_bits (aCons (eVar 0) aNil)))) (sRaise "NoBits") sNx) (sRet (eCall F_number_of (aCons (eVar 0) aNil))))
/- slots of coded: 0=bits 1=code 2=many -/
noncomputable def F_coded : Fn := mkFn 2 3
  (sSeq (sDrop (eCall F_need_code (aCons (eVar 1) aNil))) (sSeq (sSet 2 (eCall F_width (aCons (eVar 1) aNil))) (sRet (eOp oAdd (eVar 0) (eCall F_bits_by (aCons (eCall F_divided (aCons (eOp oShl (eCall F_number_by (aCons (eVar 0) aNil)) (eVar 2)) (aCons (eVar 1) aNil))) (aCons (eVar 2) aNil)))))))
/- slots of coded_row: 0=row 1=code 2=found 3=byte -/
noncomputable def F_coded_row : Fn := mkFn 2 4
  (sSeq (sSet 2 (eLst aNil)) (sSeq (sFor (wSeq (eVar 0)) (gN 3) (sDrop (eBL oExtend (eVar 2) (aCons (eCall F_bits_by (aCons (eVar 3) (aCons (eC (.int 8)) aNil))) aNil)))) (sRet (eCall F_coded (aCons (eCB (c1 oTuple) (aCons (eVar 2) aNil)) (aCons (eVar 1) aNil))))))
/- slots of Thing.row_bits: 0=self 1=code 2=found 3=place -/
noncomputable def F_Thing_row_bits : Fn := mkFn 2 4
  (sSeq (sSet 2 (eCB (c1 oList) (aCons (eCall F_coded_row (aCons (eFld ["Thing"] "row" (eVar 0)) (aCons (eVar 1) aNil))) aNil))) (sSeq (sFor (wSeq (eFld ["Thing"] "places" (eVar 0))) (gN 3) (sPut (eVar 2) (eOp oSub (eUn oNeg (eC (.int 1))) (eVar 3)) (eOp oSub (eC (.int 1)) (eOp oIx (eVar 2) (eOp oSub (eUn oNeg (eC (.int 1))) (eVar 3)))))) (sRet (eCB (c1 oTuple) (aCons (eVar 2) aNil)))))
/- slots of is_right: 0=bits 1=code -/
noncomputable def F_is_right : Fn := mkFn 2 2
  (sSeq (sDrop (eCall F_need_code (aCons (eVar 1) aNil))) (sRet (eOp oEq (eCall F_divided (aCons (eCall F_number_by (aCons (eVar 0) aNil)) (aCons (eVar 1) aNil))) (eC (.int 0)))))
/- slots of packet_by: 0=thing 1=name 2=first -/
noncomputable def F_packet_by : Fn := mkFn 1 3
  (sSeq (sIf (tOo (tNo (tOf (eCall F_are_bytes (aCons (eVar 0) (aCons (eOp oAdd (eC (.int 14)) (eC (.int 1000))) aNil))))) (tOf (eOp oLt (eCB (c1 oLen) (aCons (eVar 0) aNil)) (eC (.int 14))))) (sRaise "NoPacket") sNx) (sSeq (sIf (tOo (tOf (eOp oGt (eOp oIx (eVar 0) (eC (.int 8))) (eC (.int 1)))) (tOo (tOf (eOp oNe (eOp oIx (eVar 0) (eC (.int 9))) (eC (.int 0)))) (tOf (eOp oNe (eCall F_of_two (aCons (eVar 0) (aCons (eC (.int 10)) aNil))) (eOp oSub (eCB (c1 oLen) (aCons (eVar 0) aNil)) (eC (.int 14))))))) (sRaise "NoPacket") sNx) (sSeq (sIf (tOf (eOp oNe (eCall F_of_two (aCons (eVar 0) (aCons (eC (.int 12)) aNil))) (eCall F_sum_of (aCons (eVar 0) aNil)))) (sRaise "NoPacket") sNx) (sSeq (sPar 1 2 (aCons (eCall F_of_two (aCons (eVar 0) (aCons (eC (.int 4)) aNil))) (aCons (eCall F_of_two (aCons (eVar 0) (aCons (eC (.int 6)) aNil))) aNil))) (sRet (eMake "Packet" F_Packet___init__ (aCons (eOp oIx (eVar 0) (eC (.int 2))) (aCons (eOp oIx (eVar 0) (eC (.int 3))) (aCons (eOp oIx (eVar 0) (eC (.int 0))) (aCons (eOp oIx (eVar 0) (eC (.int 1))) (aCons (eVar 1) (aCons (eVar 2) (aCons (eOp oEq (eOp oIx (eVar 0) (eC (.int 8))) (eC (.int 1))) (aCons (eSl oSl (eVar 0) (oSo (eC (.int 14))) oNo) aNil))))))))))))))
/- slots of row_by: 0=bits 1=at -/
noncomputable def F_row_by : Fn := mkFn 1 2
  (sRet (eCB (c1 oTuple) (aCons (eLc (wAs rg3 (aCons (eC (.int 0)) (aCons (eCB (c1 oLen) (aCons (eVar 0) aNil)) (aCons (eC (.int 8)) aNil)))) (gN 1) tYe (eCall0 F_number_of (aCons (eSl oSl (eVar 0) (oSo (eVar 1)) (oSo (eOp oAdd (eVar 1) (eC (.int 8))))) aNil)) [1]) aNil)))
/- slots of Thing.read_packet: 0=self 1=code 2=row 3=bits 4=found -/
noncomputable def F_Thing_read_packet : Fn := mkFn 2 5
  (sSeq (sSet 2 (eFld ["Thing"] "row" (eVar 0))) (sSeq (sIf (tOf (eOp oNe (eFld ["Thing"] "places" (eVar 0)) (eTup aNil))) (sSeq (sSet 3 (eMeth "row_bits" [("Thing", F_Thing_row_bits)] (eVar 0) (aCons (eVar 1) aNil))) (sSeq (sIf (tNo (tOf (eCall F_is_right (aCons (eVar 3) (aCons (eVar 1) aNil))))) (sRet (eC .non)) sNx) (sSet 2 (eCall F_row_by (aCons (eSl oSl (eVar 3) oNo (oSo (eOp oSub (eCB (c1 oLen) (aCons (eVar 3) aNil)) (eCall F_width (aCons (eVar 1) aNil))))) aNil))))) sNx) (sSeq (sTryO cts_NoPacket (sSet 4 (eCall F_packet_by (aCons (eVar 2) aNil))) (sSet 4 (eC .non))) (sRet (eVar 4)))))
/- slots of Net.bring: 0=self 1=one 2=other 3=number 4=packet 5=source 6=target 7=kind 8=life 9=name 10=first 11=more 12=data -/
noncomputable def F_Net_bring : Fn := mkFn 4 13
  (sSeq (sSet 4 (eMeth "read_packet" [("Thing", F_Thing_read_packet)] (eMeth "thing" [("Net", F_Net_thing)] (eVar 0) (aCons (eVar 1) (aCons (eVar 2) (aCons (eVar 3) aNil)))) (aCons (eFld ["Net"] "code" (eVar 0)) aNil))) (sSeq (sDrop (ePop1 (eMeth "road" [("Net", F_Net_road)] (eVar 0) (aCons (eVar 1) (aCons (eVar 2) aNil))) (eVar 3))) (sSeq (sIf (tOo (tOf (eOp oIs (eVar 4) (eC .non))) (tOf (eOp oEq (eFld ["Packet"] "target" (eVar 4)) (eVar 2)))) (sRet (eVar 4)) sNx) (sSeq (sIf (tOf (eOp oGt (eFld ["Packet"] "life" (eVar 4)) (eC (.int 0)))) (sSeq (sAsg (eMeth "told" [("Packet", F_Packet_told)] (eVar 4) aNil) (gT [(gN 5), (gN 6), (gN 7), (gN 8), (gN 9), (gN 10), (gN 11), (gN 12)])) (sDrop (eMeth "put" [("Net", F_Net_put)] (eVar 0) (aCons (eVar 2) (aCons (eMake "Packet" F_Packet___init__ (aCons (eVar 5) (aCons (eVar 6) (aCons (eVar 7) (aCons (eOp oSub (eVar 8) (eC (.int 1))) (aCons (eVar 9) (aCons (eVar 10) (aCons (eVar 11) (aCons (eVar 12) aNil))))))))) aNil))))) sNx) (sRet (eC .non))))))
/- slots of Net.double: 0=self 1=one 2=other 3=number 4=thing -/
noncomputable def F_Net_double : Fn := mkFn 4 5
  (sSeq (sSet 4 (eMeth "thing" [("Net", F_Net_thing)] (eVar 0) (aCons (eVar 1) (aCons (eVar 2) (aCons (eVar 3) aNil))))) (sDrop (eBL oAppend (eMeth "road" [("Net", F_Net_road)] (eVar 0) (aCons (eVar 1) (aCons (eVar 2) aNil))) (aCons (eMake "Thing" F_Thing___init__ (aCons (eFld ["Thing"] "row" (eVar 4)) (aCons (eFld ["Thing"] "years" (eVar 4)) (aCons (eFld ["Thing"] "places" (eVar 4)) aNil)))) aNil))))
/- slots of Net.lying: 0=self 1=road -/
noncomputable def F_Net_lying : Fn := mkFn 1 2
  (sRet (eCB (c1 oSorted) (aCons (eLk (eFld ["Net"] "roads" (eVar 0)) (eLc (wOf wkK (eFld ["Net"] "roads" (eVar 0))) (gN 1) (tOf (eOp oNe (eOp oDGet (eFld ["Net"] "roads" (eVar 0)) (eVar 1)) (eLst aNil))) (eVar 1) [1])) aNil)))
/- slots of Net.things: 0=self 1=one 2=other 3=thing -/
noncomputable def F_Net_things : Fn := mkFn 3 4
  (sRet (eLc (wSeq (eMeth "road" [("Net", F_Net_road)] (eVar 0) (aCons (eVar 1) (aCons (eVar 2) aNil)))) (gN 3) tYe (eTup (aCons (eFld ["Thing"] "years" (eVar 3)) (aCons (eMeth0 "row_bits" [("Thing", F_Thing_row_bits)] (eVar 3) (aCons (eFld ["Net"] "code" (eVar 0)) aNil)) aNil))) [3]))
/- slots of _law_bits: 0=_law_state_here 1=_law_many 2=_law_off 3=_law_found 4=_law_k 5=_law_place -/
noncomputable def F_l_bits : Fn := mkFn 2 6
  (sSeq (sSet 2 (eCall F_l_next (aCons (eVar 0) (aCons (eVar 1) aNil)))) (sSeq (sSet 3 (eLst aNil)) (sSeq (sFor (wAs rg1 (aCons (eOp oAdd (eC (.int 1)) (eCall F_l_next (aCons (eVar 0) (aCons (eC (.int 3)) aNil)))) aNil)) (gN 4) (sSeq (sSet 5 (eOp oIx (eLst (aCons (eVar 2) (aCons (eCall F_l_next (aCons (eVar 0) (aCons (eVar 1) aNil))) (aCons (eOp oMod (eOp oAdd (eVar 2) (eCall F_l_next (aCons (eVar 0) (aCons (eC (.int 20)) aNil)))) (eVar 1)) (aCons (eOp oSub (eOp oSub (eVar 1) (eC (.int 1))) (eVar 4)) aNil))))) (eCall F_l_next (aCons (eVar 0) (aCons (eC (.int 4)) aNil))))) (sIf (tOf (eOp oNotIn (eVar 5) (eVar 3))) (sDrop (eBL oAppend (eVar 3) (aCons (eVar 5) aNil))) sNx))) (sRet (eVar 3)))))
/- slots of Thing.how_many: 0=self 1=code -/
noncomputable def F_Thing_how_many : Fn := mkFn 2 2
  (sRet (eOp oAdd (eOp oMul (eCB (c1 oLen) (aCons (eFld ["Thing"] "row" (eVar 0)) aNil)) (eC (.int 8))) (eCall F_width (aCons (eVar 1) aNil))))
/- slots of Net.turn: 0=self 1=one 2=other 3=number 4=places 5=thing 6=place -/
noncomputable def F_Net_turn : Fn := mkFn 5 7
  (sSeq (sSet 5 (eMeth "thing" [("Net", F_Net_thing)] (eVar 0) (aCons (eVar 1) (aCons (eVar 2) (aCons (eVar 3) aNil))))) (sSeq (sIf (tOo (tNo (tOf (eCB (c2 (oIsi os_ xs_ tb_)) (aCons (eVar 4) (aCons (eC (.ty "list")) aNil))))) (tOo (tNo (tOf (eCh oLe oLe (eC (.int 1)) (eCB (c1 oLen) (aCons (eVar 4) aNil)) (eC (.int 3))))) (tOf (eOp oNe (eFld ["Thing"] "places" (eVar 5)) (eTup aNil))))) (sRaise "NoPlace") sNx) (sSeq (sIf (tNo (tOf (eCB (c1 oAll) (aCons (eLc (wSeq (eVar 4)) (gN 6) tYe (eCall0 F_is_number_nets (aCons (eVar 6) (aCons (eC (.int 0)) (aCons (eOp oSub (eMeth0 "how_many" [("Thing", F_Thing_how_many)] (eVar 5) (aCons (eFld ["Net"] "code" (eVar 0)) aNil)) (eC (.int 1))) aNil)))) [6]) aNil)))) (sRaise "NoPlace") sNx) (sSeq (sIf (tOf (eOp oLt (eLenSet (eVar 4)) (eCB (c1 oLen) (aCons (eVar 4) aNil)))) (sRaise "NoPlace") sNx) (sFl ["Thing"] "places" (eVar 5) (eCB (c1 oTuple) (aCons (eVar 4) aNil)))))))
/- slots of _law_turn: 0=_law_net 1=_law_places 2=_law_at 3=_law_bits_here 4=_law_error 5=e -/
noncomputable def F_l_turn : Fn := mkFn 4 6
  (sSeq (sSet 4 (eC .non)) (sSeq (sTryK cts_WireError 5 4 (sDrop (eMeth "turn" [("Net", F_Net_turn)] (eVar 0) (aCons (eOp oIx (eVar 1) (eC (.int 0))) (aCons (eOp oIx (eVar 1) (eC (.int 1))) (aCons (eVar 2) (aCons (eVar 3) aNil))))))) (sRet (eOr (eOp oIs (eVar 4) (eC .non)) (eNot (eCB (c2 (oIsi os_ xs_ tb_)) (aCons (eVar 4) (aCons (eC (.nm "NoPlace")) aNil))))))))
/- slots of _law_right: 0=_law_state_here 1=_law_net 2=_law_places 3=_law_fields_here 4=_law_source 5=_law_target 6=_law_kind 7=_law_life 8=_law_name 9=_law_first 10=_law_more 11=_law_data 12=_law_turned 13=_law_many 14=_law_k 15=_law_at 16=_law_bits_here 17=_law_found -/
noncomputable def F_l_right : Fn := mkFn 4 18
  (sSeq (sAsg (eVar 3) (gT [(gN 4), (gN 5), (gN 6), (gN 7), (gN 8), (gN 9), (gN 10), (gN 11)])) (sSeq (sDrop (eMeth "put" [("Net", F_Net_put)] (eVar 1) (aCons (eOp oIx (eVar 2) (eC (.int 0))) (aCons (eMake "Packet" F_Packet___init__ (aCons (eVar 4) (aCons (eVar 5) (aCons (eVar 6) (aCons (eVar 7) (aCons (eVar 8) (aCons (eVar 9) (aCons (eVar 10) (aCons (eVar 11) aNil))))))))) aNil)))) (sSeq (sSet 12 (eLst (aCons (eC (.bl false)) aNil))) (sSeq (sSet 13 (eCB (c1 oLen) (aCons (eOp oIx (eOp oIx (eMeth "things" [("Net", F_Net_things)] (eVar 1) (aCons (eOp oIx (eVar 2) (eC (.int 0))) (aCons (eOp oIx (eVar 2) (eC (.int 1))) aNil))) (eC (.int 0))) (eC (.int 1))) aNil))) (sSeq (sFor (wAs rg1 (aCons (eOp oAdd (eC (.int 1)) (eCall F_l_next (aCons (eVar 0) (aCons (eC (.int 4)) aNil)))) aNil)) (gN 14) (sSeq (sSet 15 (eCall F_l_next (aCons (eVar 0) (aCons (eCB (c1 oLen) (aCons (eVar 12) aNil)) aNil)))) (sSeq (sSet 16 (eCall F_l_bits (aCons (eVar 0) (aCons (eVar 13) aNil)))) (sSeq (sIf (tOf (eOp oEq (eCall F_l_turn (aCons (eVar 1) (aCons (eVar 2) (aCons (eVar 15) (aCons (eVar 16) aNil))))) (eOp oIx (eVar 12) (eVar 15)))) (sRet (eC (.bl false))) sNx) (sIf (tOf (eOp oEq (eCall F_l_next (aCons (eVar 0) (aCons (eC (.int 2)) aNil))) (eC (.int 0)))) (sSeq (sDrop (eMeth "double" [("Net", F_Net_double)] (eVar 1) (aCons (eOp oIx (eVar 2) (eC (.int 0))) (aCons (eOp oIx (eVar 2) (eC (.int 1))) (aCons (eVar 15) aNil))))) (sSeq (sPut (eVar 12) (eVar 15) (eC (.bl true))) (sDrop (eBL oAppend (eVar 12) (aCons (eC (.bl true)) aNil))))) (sSeq (sPut (eVar 12) (eVar 15) (eC (.bl true))) (sSeq (sDrop (eMeth "put" [("Net", F_Net_put)] (eVar 1) (aCons (eOp oIx (eVar 2) (eC (.int 0))) (aCons (eMake "Packet" F_Packet___init__ (aCons (eVar 4) (aCons (eVar 5) (aCons (eVar 6) (aCons (eVar 7) (aCons (eVar 8) (aCons (eVar 9) (aCons (eVar 10) (aCons (eVar 11) aNil))))))))) aNil)))) (sDrop (eBL oAppend (eVar 12) (aCons (eC (.bl false)) aNil)))))))))) (sSeq (sWh (tOf (eOp oNe (eVar 12) (eLst aNil))) (sSeq (sSet 15 (eCall F_l_next (aCons (eVar 0) (aCons (eCB (c1 oLen) (aCons (eVar 12) aNil)) aNil)))) (sSeq (sSet 17 (eMeth "bring" [("Net", F_Net_bring)] (eVar 1) (aCons (eOp oIx (eVar 2) (eC (.int 0))) (aCons (eOp oIx (eVar 2) (eC (.int 1))) (aCons (eVar 15) aNil))))) (sIf (tOf (ePop1 (eVar 12) (eVar 15))) (sIf (tOf (eOp oIsNot (eVar 17) (eC .non))) (sRet (eC (.bl false))) sNx) (sIf (tOo (tNo (tOf (eCB (c2 (oIsi os_ xs_ tb_)) (aCons (eVar 17) (aCons (eC (.nm "Packet")) aNil))))) (tOf (eOp oNe (eMeth "told" [("Packet", F_Packet_told)] (eVar 17) aNil) (eVar 3)))) (sRet (eC (.bl false))) sNx))))) (sRet (eOp oEq (eMeth "lying" [("Net", F_Net_lying)] (eVar 1) aNil) (eLst aNil)))))))))
/- slots of _law_state: 0=_law_cell 1=_law_k 2=_law_seed -/
noncomputable def F_l_state : Fn := mkFn 2 3
  (sSeq (sSet 2 (eOp oMod (eOp oMul (eOp oAdd (eOp oAdd (eVar 0) (eOp oMul (eC (.int 7919)) (eVar 1))) (eC (.int 11))) (eC (.int 48271))) (eC (.int 2147483647)))) (sSeq (sIf (tOf (eOp oGe (eVar 0) (eOp oPow (eC (.int 10)) (eC (.int 18))))) (sRet (eLst (aCons (eVar 0) (aCons (eC (.int 1)) (aCons (eVar 2) aNil))))) sNx) (sRet (eLst (aCons (eVar 2) (aCons (eC (.int 0)) (aCons (eVar 2) aNil)))))))
/- slots of law: 0=_law_script 1=_law_k 2=_law_cell 3=_law_state_here 4=_law_off 5=_law_places 6=_law_table 7=_law_net -/
noncomputable def F_law : Fn := mkFn 1 8
  (sSeq (sFor (wOf wkEA (eOrL (eSl oSl (eVar 0) oNo (oSo (eC (.int 24)))) (eLst (aCons (eC (.int 0)) aNil)))) (gT [(gN 1), (gN 2)]) (sSeq (sSet 3 (eCall0 F_l_state (aCons (eVar 2) (aCons (eVar 1) aNil)))) (sSeq (sSet 4 (eCall0 F_l_next (aCons (eVar 3) (aCons (eC (.int 256)) aNil)))) (sSeq (sSet 5 (eLst (aCons (eVar 4) (aCons (eOp oMod (eOp oAdd (eOp oAdd (eVar 4) (eC (.int 1))) (eCall0 F_l_next (aCons (eVar 3) (aCons (eC (.int 255)) aNil)))) (eC (.int 256))) aNil)))) (sSeq (sSet 6 (eDisp (dCons (eOp oIx (eVar 5) (eC (.int 0))) (eDisp (dCons (eOp oIx (eVar 5) (eC (.int 1))) (eOp oIx (eVar 5) (eC (.int 1))) dNil)) (dCons (eOp oIx (eVar 5) (eC (.int 1))) (eDNew false) dNil)))) (sSeq (sSet 7 (eMake0 "Net" F_Net___init__ (aCons (eVar 6) (aCons (eC (.int 69665)) (aCons (eCall0 F_l_next (aCons (eVar 3) (aCons (eC (.int 3)) aNil))) aNil))))) (sIf (tNo (tOf (eCall0 F_l_right (aCons (eVar 3) (aCons (eVar 7) (aCons (eVar 5) (aCons (eCall0 F_l_fields (aCons (eVar 3) (aCons (eVar 5) (aCons (eVar 1) aNil)))) aNil))))))) (sRet (eC (.bl false))) sNx))))))) (sRet (eC (.bl true))))
end Kk
namespace Kk
open PySem L2 SM
local macro_rules
  | `(tactic| simp_arith [$xs,*] $[$loc]?) => `(tactic| simp (disch := (first | omega | assumption | (simp only [List.length_set, List.length_append, List.length_cons, List.length_nil, List.length_map, List.length_take, List.length_drop, List.length_reverse, List.length_replicate, List.length_range] <;> omega) | (intro; omega) | (simp only [List.all_cons, List.all_nil, z2u, z64, Option.isSome_some, Bool.and_true, Bool.and_self]; done) | decide)) only [z6x, z2f, z0b, z60, z42, z5x, z5v, eC_, zaj, z96, z7m, z6f, za0, z4q, z3b, c1_, c2_, c3_, z8g, z6j, z8c, z9a, z6w, z9y, za3, z9e, z9x, zad, z9g, z9d, z7f, z7p, z0d, z62, za4, z5k, z9n, z9l, z8e, z95, z67, z3z, z55, z6q, z1j, z9z, z9f, z94, z2v, z6e, z3m, z6h, z43, z5z, z71, z65, z9b, z6y, z21, z7e, gN_, z4p, z29, z0r, z8d, z5b, z7y, z72, z77, z4z, z5l, z35, z19, z7z, z7k, z7j, z5d, z5n, z5m, z5t, z66, z4t, z6n, z5p, z6c, z4u, z86, z7h, z7v, z7t, z6g, z3r, z46, z3s, z5a, z6o, z8f, z89, z31, z3g, z78, z7x, z4c, z0n, z6a, z0z, z1i, z0y, z2m, z14, z1l, z0x, z1y, z18, z1e, z08, z1m, z0c, z1g, z09, z0s, z02, z0j, z13, z0m, z11, z01, z10, z0e, z06, z0g, z17, z03, z1n, z0l, z07, z1h, z1o, z1u, z23, z5q, z53, z24, z3c, z7c, z2e, z6v, zab, z1x, z3l, z2d, z0q, z3u, z0w, z5f, z4e, z5w, z49, z32, z2c, z8n, z40, z45, z4y, z5u, z0t, z3f, z3p, z9k, z7d, z6b, z8k, z34, z9m, z8i, z8t, z4a, z3e, z36, zah, z92, za8, z3j, z3q, z4d, z44, z28, z6s, z9c, z9v, z51, z3d, z8b, zag, z2z, zaf, z25, z9s, z1z, z8x, z2i, z2l, z1d, za5, zaa, z9h, z4w, z1t, zak, z7u, z4l, z3a, za6, z7b, z4k, z3i, z1k, z58, z9o, z2a, z0f, z9q, z12, z0i, z9j, z0k, z9i, z2s, z33, z91, z98, zai, z6r, zae, z93, z90, z3k, za1, z4j, z8z, z7n, z8u, z8o, za2, z56, z8v, z5g, z3t, z00, z0o, za9, z3o, z76, z9p, z8m, z2p, z1b, z87, z6t, z73, z2t, z0p, z2n, z4o, z7w, z75, z79, z74, z8p, z6p, z82, z8l, z7i, z7g, z26, z2h, z22, z83, z7l, z41, z0v, z63, z4h, z8r, z7a, z4m, z64, z6k, z2u, z8s, z9u, z88, z1q, z6z, z2g, z2j, z15, z0u, z0a, z04, z1s, z1c, z2o, z16, z2q, z1f, z8a, z5i, z6m, z5c, z0h, z05, c4_, z3v, zac, z4n, z3x, z4g, z4x, z3w, z27, z1v, z7o, z3h, z8h, z7s, z2k, z4r, z52, z37, z30, z2b, z5y, z39, z4i, z1r, z2r, z99, z5h, z38, z3n, z1p, z80, z6d, z6i, z4s, z5j, z3y, z1w, z6l, z61, z4f, z2x, z57, z69, z9t, z70, z8j, z9w, z20, z7q, z59, z4b, z2y, z8w, z97, z50, z84, z4v, z85, z68, z5r, z54, z5e, z5o, z2w, z5s, z48, z8q, z6u, z81, z7r, za7, z47, z8y, z1a, z9r, List.all_cons, List.all_nil, Bool.and_true, if_pos, if_neg, if_true, if_false, ite_true, ite_false, Bool.false_eq_true, Bool.true_eq_false, Bool.not_true, Bool.not_false, Bool.not_eq_true', decide_eq_true_eq, decide_eq_false_iff_not, Bool.not_eq_true, decide_true, decide_false, List.length_cons, List.length_nil, List.map_cons, List.map_nil, List.cons_append, List.nil_append, List.length_map, rep_nS, rep_n0, List.append_nil, List.mem_cons, List.mem_singleton, List.not_mem_nil, or_false, false_or, true_or, or_true, and_true, true_and, and_false, false_and, Option.isSome_some, Option.isSome_none, Option.isNone_none, Option.isNone_some, String.reduceEq, String.reduceNe, Nat.reduceAdd, Nat.reduceSub, Nat.reduceLT, Nat.reduceLeDiff, Nat.reduceMul, Int.reduceAdd, Int.reduceSub, Int.reduceMul, Int.reduceLT, Int.reduceLE, Int.reduceGT, Int.reduceEq, Int.reduceToNat, Int.reducePow, Int.reduceNeg, Nat.reduceEqDiff, eq_self, eq_self_iff_true, not_true_eq_false, not_false_eq_true, List.getElem?_cons_zero, List.getElem?_cons_succ, Option.bind_some, ne_eq, reduceCtorEq, Int.reduceDiv, Int.reduceMod, Bool.and_self, reduceIte, $xs,*] $[$loc]?)
local macro_rules
  | `(tactic| walk_at "fr!") => `(tactic| (repeat (first | exact Fr.refl | assumption | refine Fr.then_push ?_ | refine Fr.then_set ?_ (by first | exact Or.inr (Nat.le_refl _) | exact Or.inr (by omega) | (refine Or.inl ?_; simp; done) | (refine Or.inr ?_; simp; done)))))
/-- a draw's list (seed, kind, seed) -/
def Drw (A : Hs) (i : Nat) : Prop := ∃ a b c : Int, A[i]? = some (.lst [.int a, .int b, .int c])
theorem Drw.frame {A A1 : Hs} {i : Nat} {s : List Nat} (h : Drw A i) (f : Fr s A A1) (hi : i ∉ s) : Drw A1 i := by
  obtain ⟨a, b, c, h⟩ := h
  exact ⟨a, b, c, f.get h hi⟩
theorem Drw.lt {A : Hs} {i : Nat} (h : Drw A i) : i < A.length := by
  obtain ⟨a, b, c, h⟩ := h
  exact lt_of_get h
theorem Drw.pushed {A : Hs} {i : Nat} {x : O} (d : Drw A i) : Drw (A ++ [x]) i := d.frame (s := []) .push (by simp)
theorem state_ok {p q : Int} {A : Hs} : Rk (F_l_state [.int p, .int q] A) fun v A1 => v = .ref A.length ∧ Drw A1 A.length ∧ Fr [] A A1 := by
  unfold F_l_state
  by_cases h : 1000000000000000000 ≤ p
  · simp_arith [h]
    exact ⟨⟨_, _, _, z9p⟩, .push⟩
  · simp_arith [h]
    exact ⟨⟨_, _, _, z9p⟩, .push⟩
theorem not01 {a : Int} {A : Hs} : inl_ A (.int a) [.int 0, .int (-1)] true = .ok (.bl (!decide (a = 0 ∨ a = -1))) A := by
  have : [D.int 0, .int (-1)] = [0, -1].map D.int := rfl
  rw [this, z2j]
  simp
theorem next_ok {A : Hs} {i : Nat} {n : Int} (h : Drw A i) (hn : 0 < n) (hn2 : n < 18446744073709551616) : ∃ v A1, 0 ≤ v ∧ v < n ∧ F_l_next [.ref i, .int n] A = .ok (.int v) A1 ∧ Drw A1 i ∧ Fr [i] A A1 := by
  obtain ⟨a, b, c, h⟩ := h
  have hi := lt_of_get h
  have tail : ∀ (a c : Int) (B : Hs), B[i]? = some (.lst [.int a, .int 0, .int c]) ∨ (∃ b, b ≠ 1 ∧ B[i]? = some (.lst [.int a, .int b, .int c])) → Fr [i] A B → True := fun _ _ _ _ _ => trivial
  unfold F_l_next
  by_cases q1 : b = 1
  · by_cases q2 : a = 0 ∨ a = -1
    · obtain ⟨x, hx⟩ : ∃ x : Int, x = (c * 48271 + 11) % 2147483647 := ⟨_, rfl⟩
      obtain ⟨y, hy⟩ : ∃ y : Int, y = (x * x + 16807 * x) % 2147483629 := ⟨_, rfl⟩
      have bx : -18446744073709551616 < x ∧ x < 18446744073709551616 := by omega
      have b_y : -18446744073709551616 < y ∧ y < 18446744073709551616 := by omega
      refine ⟨(y * y + 7 * y) % 2147483587 / 5 % n, A.set i (.lst [.int x, .int 0, .int c]), Int.emod_nonneg _ (by omega), Int.emod_lt_of_pos _ hn, ?_, ⟨_, _, _, za9 hi⟩, .set (by simp)⟩
      simp_arith [h, q1, not01, decide_eq_true q2, List.set_cons_zero, List.set_cons_succ, ← hx, ← hy]
    · refine ⟨a % n, A.set i (.lst [.int (a / n), .int b, .int c]), Int.emod_nonneg _ (by omega), Int.emod_lt_of_pos _ hn, ?_, ⟨_, _, _, za9 hi⟩, .set (by simp)⟩
      simp_arith [h, q1, not01, decide_eq_false q2, List.set_cons_zero]
  · obtain ⟨x, hx⟩ : ∃ x : Int, x = (a * 48271 + 11) % 2147483647 := ⟨_, rfl⟩
    obtain ⟨y, hy⟩ : ∃ y : Int, y = (x * x + 16807 * x) % 2147483629 := ⟨_, rfl⟩
    have bx : -18446744073709551616 < x ∧ x < 18446744073709551616 := by omega
    have b_y : -18446744073709551616 < y ∧ y < 18446744073709551616 := by omega
    refine ⟨(y * y + 7 * y) % 2147483587 / 5 % n, A.set i (.lst [.int x, .int b, .int c]), Int.emod_nonneg _ (by omega), Int.emod_lt_of_pos _ hn, ?_, ⟨_, _, _, za9 hi⟩, .set (by simp)⟩
    simp_arith [h, q1, List.set_cons_zero, List.set_cons_succ, ← hx, ← hy]
theorem pick_i {ns : List Int} {v : Int} (h0 : 0 ≤ v) (h1 : v < ns.length) : ∃ x ∈ ns, atI (ns.map D.int) v = some (.int x) := by
  rw [z4o h0, List.getElem?_map]
  obtain ⟨x, hx⟩ : ∃ x, ns[v.toNat]? = some x := ⟨_, List.getElem?_eq_getElem (by omega)⟩
  exact ⟨x, List.mem_of_getElem? hx, by rw [hx]; rfl⟩
theorem oShr_i {i j : Int} {A : Hs} (h : 0 ≤ j) : oShr (.int i) (.int j) A = .ok (.int (i / 2 ^ j.toNat)) A := by
  unfold oShr oII; simp only; rw [if_pos h]
theorem oAnd_i {i j : Int} {A : Hs} : oAnd (.int i) (.int j) A = .ok (.int (Builtin.bitAnd i j)) A := rfl
theorem oOr_i {i j : Int} {A : Hs} : oOr (.int i) (.int j) A = .ok (.int (Builtin.bitOr i j)) A := rfl

def rw_ (l : List Int) : D := .tup (l.map D.int)
/-! bits and codes, with wide bounds -/
open DL (bl dv Mu Bits gath gathA bitsN gN)
theorem oBits_n {n : Nat} {A : Hs} : oBits (.int (n : Int)) A = .ok (.int (bl n : Nat)) A := by
  show RE.ok (D.int ((Builtin.Int.intBits (n : Int) : Nat) : Int)) A = _
  rw [DL.intBits_bl]
theorem oXor_n {x y : Nat} {A : Hs} : oXor (.int (x : Int)) (.int (y : Int)) A = .ok (.int ((x ^^^ y : Nat) : Int)) A := by
  unfold oXor oII
  simp only
  rw [Bits.bitXor_pp (by omega) (by omega), Int.toNat_natCast, Int.toNat_natCast]
theorem oShl_n {x k : Nat} {A : Hs} (h : bl x + k ≤ 100000) : oShl (.int (x : Int)) (.int (k : Int)) A = .ok (.int ((x <<< k : Nat) : Int)) A := by
  unfold oShl oII
  simp only
  have : CShl (x : Int) (k : Int) := by
    unfold CShl
    rw [DL.intBits_bl]
    omega
  rw [if_pos this]
  simp only [Int.toNat_natCast, Nat.shiftLeft_eq, Int.natCast_mul, Int.natCast_pow]
  rfl
theorem oShl_1 {x : Nat} {A : Hs} (h : bl x ≤ 90000) : oShl (.int (x : Int)) (.int 1) A = .ok (.int ((x <<< 1 : Nat) : Int)) A := oShl_n (k := 1) (by omega)
theorem divided_ok {c n : Nat} {A : Hs} (hc : c ≠ 0) (hn : bl n ≤ 90000) (hb : bl c ≤ 1000) : F_divided [.int (n : Int), .int (c : Int)] A = .ok (.int (dv c n : Nat)) A := by
  unfold F_divided
  simp_arith [oBits_n]
  refine wh_go (fun k e B => ∃ x : Nat, k = bl x ∧ B = A ∧ e = [some (.int (x : Int)), some (.int (c : Int)), some (.int ((bl c : Nat) : Int))] ∧ dv c x = dv c n ∧ bl x ≤ 90000) (fun rs => finR (seqR rs _) = _) ⟨n, rfl, rfl, rfl, rfl, hn⟩ ?_
  rintro k e B ⟨x, rfl, rfl, rfl, hx, hx2⟩
  by_cases q : bl c ≤ bl x
  · have q1 : ((bl c : Nat) : Int) ≤ ((bl x : Nat) : Int) := by omega
    have q2 : ((bl x : Nat) : Int) - ((bl c : Nat) : Int) = ((bl x - bl c : Nat) : Int) := by omega
    simp_arith [oBits_n, q1, q2, oShl_n (x := c) (k := bl x - bl c) (by omega), oXor_n]
    have lt := DL.step_lt hc q
    refine ⟨_, lt, _, rfl, rfl, ?_, by omega⟩
    rw [DL.dv_xor hc, DL.dv_zero hc (Mu.one _), Nat.xor_zero, hx]
  · have q1 : ¬ ((bl c : Nat) : Int) ≤ ((bl x : Nat) : Int) := by omega
    simp_arith [oBits_n, q1]
    rw [← hx, DL.dv_small hc (by omega)]
structure Cn (c : Nat) : Prop where
  lo : 3 ≤ c
  hi : c ≤ 131071
  od : c % 2 = 1
theorem Cn.bl {c : Nat} (h : Cn c) : bl c ≤ 17 := DL.bl_le.mpr (by have := h.hi; omega)
theorem bl_two {c : Nat} (h : 3 ≤ c) : 2 ≤ bl c := by
  have := DL.bl_lt (n := c) (m := 2)
  rcases Nat.lt_or_ge (bl c) 2 with q | q
  · have := this.mp q
    omega
  · exact q
theorem need_code_ok {c : Nat} {A : Hs} (h : Cn c) : F_need_code [.int (c : Int)] A = .ok .non A := by
  have a : (3 : Int) ≤ (c : Int) := by have := h.lo; omega
  have b : (c : Int) ≤ 131071 := by have := h.hi; omega
  have d : ¬ (c : Int) % 2 = 0 := by have := h.od; omega
  unfold F_need_code
  simp_arith [a, b, d]
theorem is_whole_ok {p lo hi : Int} {A : Hs} : F_is_whole [.int p, .int lo, .int hi] A = .ok (.bl (decide (lo ≤ p) && decide (p ≤ hi))) A := by
  unfold F_is_whole
  by_cases h : lo ≤ p
  · simp_arith [h, Bool.true_and]
  · simp_arith [h, Bool.false_and]
theorem is_bits_ok {l : List Int} {A : Hs} (h : Bits l) (hl : l.length ≤ 100000) : ∃ A1, F_is_bits [rw_ l] A = .ok (.bl true) A1 ∧ Fr [] A A1 := by
  refine ⟨A ++ [.lst ((l.map D.int).map fun _ => .bl true)], ?_, .push⟩
  unfold F_is_bits rw_
  simp_arith []
  rw [lc_go (fun _ => true) (fun _ => .bl true) trivial (by rw [List.length_map]; omega)]
  rotate_left
  · intro d hd
    obtain ⟨b, hb, rfl⟩ := List.mem_map.mp hd
    have hb' := h b hb
    have a : (0 : Int) ≤ b := by omega
    have c : b ≤ (1 : Int) := by omega
    show Got _ _
    simp_arith [is_whole_ok, a, c]
    first | exact fun _ => rfl | exact fun _ => trivial | trivial
  rw [List.filter_eq_self.mpr (by simp)]
  have e : ((l.map D.int).map fun _ => D.bl true) = (l.map fun _ => true).map D.bl := by rw [List.map_map, List.map_map]; rfl
  have e2 : boolsOf ((l.map D.int).map fun _ => D.bl true) = some (l.map fun _ => true) := by rw [e, z00]
  simp_arith [e2]
  simp
theorem bl_small {n k : Nat} (h : n < 2 ^ k) : bl n ≤ k := DL.bl_le.mpr h
theorem gathered_ok {l : List Int} {A : Hs} (h : Bits l) (hl : l.length ≤ 80000) : F_gathered [rw_ l] A = .ok (.int (gN l : Nat)) A := by
  unfold F_gathered rw_
  simp_arith []
  refine for_go (R := fun rs => finR (seqR rs _) = _) (fun j e B => ∃ o, e = [some (.tup (l.map D.int)), some (.int (gN (l.take j) : Nat)), o] ∧ B = A) ⟨none, by rw [List.take_zero]; rfl, rfl⟩ (fun _ _ _ _ _ => trivial) ?_ ?_
  · rintro j _ _ d hd ⟨o, rfl, rfl⟩
    rw [List.getElem?_map] at hd
    obtain ⟨b, hb, rfl⟩ := Option.map_eq_some_iff.mp hd
    have hbb := h b (List.mem_of_getElem? hb)
    have ht : Bits (l.take j) := fun x hx => h x (List.mem_of_mem_take hx)
    have hlt := DL.gN_lt ht
    have hbl : bl (gN (l.take j)) ≤ 90000 := Nat.le_trans (bl_small hlt) (by rw [List.length_take]; omega)
    have key : Builtin.bitOr ((gN (l.take j) <<< 1 : Nat) : Int) b = ((gN (l.take (j + 1)) : Nat) : Int) := by
      have e1 : l.take (j + 1) = l.take j ++ [b] := by rw [List.take_succ, hb]; rfl
      have ht2 : Bits (l.take j ++ [b]) := ht.append fun x hx => by rw [List.mem_singleton] at hx; rw [hx]; exact hbb
      rw [e1, DL.gN_cast ht2, DL.gath_snoc, ← DL.gN_cast ht]
      have := DL.bitOr_bit (n := ((gN (l.take j) : Nat) : Int)) (by omega) hbb
      rw [← this]
      congr 1
      rw [Nat.shiftLeft_eq, Int.natCast_mul]
      rfl
    simp_arith [oShl_1 (x := gN (l.take j)) hbl, oOr_i, key]
    exact ⟨_, rfl⟩
  · rintro e _ ⟨o, rfl, rfl⟩
    simp_arith []
    rw [List.take_length]
theorem number_by_ok {l : List Int} {A : Hs} (h : Bits l) (hl : l.length ≤ 80000) : ∃ A1, F_number_by [rw_ l] A = .ok (.int (gN l : Nat)) A1 ∧ Fr [] A A1 := by
  obtain ⟨A1, e1, f1⟩ := is_bits_ok (A := A) h (by omega)
  obtain ⟨A2, e2, f2⟩ := is_bits_ok (A := A1) h (by omega)
  have e3 := gathered_ok (A := A2) h hl
  refine ⟨A2, ?_, f1.trans f2⟩
  unfold F_number_by F_number_of
  simp_arith [e1, e2, e3]
theorem width_ok {c : Nat} {A : Hs} (h : Cn c) : F_width [.int (c : Int)] A = .ok (.int ((bl c - 1 : Nat) : Int)) A := by
  have h2 := bl_two h.lo
  have e : ((bl c : Nat) : Int) - 1 = ((bl c - 1 : Nat) : Int) := by omega
  unfold F_width
  simp_arith [need_code_ok h, oBits_n, e]
theorem bitAnd1 {x : Int} : Builtin.bitAnd x 1 = x % 2 := DL.bitAnd1
theorem is_right_ok {c : Nat} {l : List Int} {A : Hs} (hc : Cn c) (h : Bits l) (hl : l.length ≤ 80000) : ∃ A1, F_is_right [rw_ l, .int (c : Int)] A = .ok (.bl (decide (dv c (gN l) = 0))) A1 ∧ Fr [] A A1 := by
  have lo := hc.lo
  have hb := hc.bl
  obtain ⟨A1, e1, f1⟩ := number_by_ok (A := A) h (by omega)
  have dk := divided_ok (A := A1) (c := c) (n := gN l) (by omega) (Nat.le_trans (bl_small (DL.gN_lt h)) (by omega)) (by omega)
  refine ⟨A1, ?_, f1⟩
  have e : decide (((dv c (gN l) : Nat) : Int) = 0) = decide (dv c (gN l) = 0) := decide_eq_decide.mpr (by omega)
  unfold F_is_right
  simp_arith [need_code_ok hc, e1, dk, e]
def cdd (c : Nat) (l : List Int) : List Int := l ++ bitsN ((dv c (gN l <<< (bl c - 1)) : Nat) : Int) (bl c - 1)
theorem cdd_bits {c : Nat} {l : List Int} (h : Bits l) : Bits (cdd c l) := h.append DL.bitsN_bits
theorem cdd_len {c : Nat} {l : List Int} : (cdd c l).length = l.length + (bl c - 1) := by unfold cdd; rw [List.length_append, DL.bitsN_len]
theorem cdd_dv {c : Nat} {l : List Int} (hc : 3 ≤ c) (h : Bits l) : dv c (gN (cdd c l)) = 0 := by
  have c0 : c ≠ 0 := by omega
  have lt := DL.bl_lt.mp (DL.dv_lt c0 (gN l <<< (bl c - 1)))
  unfold cdd
  rw [DL.gN_append h DL.bitsN_bits, DL.bitsN_len, DL.gN_bitsN lt.1, DL.dv_xor c0, DL.dv_small c0 (DL.dv_lt c0 _), Nat.xor_self]

/-! rows compared -/
theorem py_ints {A : Hs} {n : Nat} : ∀ a : List Int, allSome ((a.map D.int).map (pyA A n)) = some (a.map PyData.int)
  | [] => rfl
  | b :: a => by
    rw [List.map_cons, List.map_cons]
    have e : pyA A n (.int b) = some (.int b) := by cases n <;> rfl
    rw [e]
    unfold allSome
    rw [py_ints a]; rfl
theorem eqv_ints : ∀ a b : List Int, PyData.eqvAll (a.map PyData.int) (b.map PyData.int) = decide (a = b)
  | [], [] => by simp [PyData.eqvAll]
  | [], b :: bs => by simp [PyData.eqvAll]
  | a :: as, [] => by simp [PyData.eqvAll]
  | a :: as, b :: bs => by
    rw [List.map_cons, List.map_cons, PyData.eqvAll, eqv_ints as bs, PyData.eqv]
    by_cases c : a = b <;> by_cases d : as = bs <;> simp [c, d]
theorem eqA_rows {a b : List Int} {A : Hs} : eqA A (rw_ a) (rw_ b) = some (decide (a = b)) := by
  unfold eqA rw_
  have e : ∀ a : List Int, pyA A 40 (.tup (a.map D.int)) = some (.tuple (a.map PyData.int)) := fun a => by
    show (allSome ((a.map D.int).map (pyA A 39))).map PyData.tuple = _
    rw [py_ints]; rfl
  rw [e, e]
  simp only [PyData.eqv, eqv_ints]
theorem oNe_rows {a b : List Int} {A : Hs} : oNe (rw_ a) (rw_ b) A = .ok (.bl (!decide (a = b))) A := neA_of eqA_rows

/-! rests bit by bit -/
open DL (bl dv Mu Bits gath gathA bitsN gN dataOf bitsOf Bytes)
theorem xor_eq0' {x y : Nat} (h : x ^^^ y = 0) : x = y := by
  have : (x ^^^ y) ^^^ y = 0 ^^^ y := by rw [h]
  rwa [Nat.xor_assoc, Nat.xor_self, Nat.xor_zero, Nat.zero_xor] at this
theorem dv_step {c n b : Nat} (hc : 3 ≤ c) (hb : b < 2) : dv c (2 * n + b) = if 2 ^ (bl c - 1) ≤ 2 * dv c n + b then (2 * dv c n + b) ^^^ c else 2 * dv c n + b := by
  have c0 : c ≠ 0 := by omega
  have b2 := bl_two hc
  have e1 : ∀ m : Nat, 2 * m + b = m <<< 1 ^^^ b := fun m => by rw [DL.shl_xor (k := 1) (by omega)]; omega
  have rl := DL.bl_lt.mp (DL.dv_lt c0 n)
  obtain ⟨r, hr⟩ : ∃ r, r = dv c n := ⟨_, rfl⟩
  have e2 : dv c (n <<< 1) = dv c (r <<< 1) := by
    have m := (DL.dv_mu c0 n).shl 1
    rw [Nat.shiftLeft_xor_distrib, ← hr] at m
    have := DL.dv_zero c0 m
    rw [DL.dv_xor c0] at this
    exact xor_eq0' this
  have e3 : dv c (2 * n + b) = dv c (2 * r + b) := by rw [e1, e1, DL.dv_xor c0, DL.dv_xor c0, e2]
  rw [e3, ← hr]
  rw [← hr] at rl
  have hp : 2 ^ (bl c - 1 + 1) = 2 * 2 ^ (bl c - 1) := by rw [Nat.pow_succ]; omega
  by_cases q : 2 ^ (bl c - 1) ≤ 2 * r + b
  · rw [if_pos q]
    have h1 : 2 * r + b < 2 ^ (bl c - 1 + 1) := by omega
    have h2 := DL.bl_ge c0
    have h3 := DL.lt_bl c
    have h4 : bl c - 1 + 1 = bl c := by omega
    have h5 := DL.xor_top q h1 h2 (by rw [h4]; exact h3)
    have h6 : dv c ((2 * r + b) ^^^ c) = (2 * r + b) ^^^ c := DL.dv_small c0 (DL.bl_lt.mpr ⟨h5, by omega⟩)
    have h7 : dv c c = 0 := DL.dv_zero c0 (by have := Mu.one (c := c) 0; rwa [Nat.shiftLeft_zero] at this)
    rw [DL.dv_xor c0, h7, Nat.xor_zero] at h6
    exact h6
  · rw [if_neg q]
    exact DL.dv_small c0 (DL.bl_lt.mpr ⟨by omega, by omega⟩)
/-! one, two or three turned bits are seen by the code 69665 -/
open DL (bl dv Mu Bits gath gathA bitsN gN)
theorem mu_mu {c d : Nat} (h : Mu d c) : ∀ {K x : Nat}, DL.Sp c K x → Mu d x
  | 0, x, e => by
    have e : x = 0 := e
    rw [e]; exact Mu.zero
  | K + 1, x, e => by
    rcases (show DL.Sp c K x ∨ DL.Sp c K (x ^^^ c <<< K) from e) with e | e
    · exact mu_mu h e
    · have h1 := (mu_mu h e).xor (h.shl K)
      rw [Nat.xor_assoc, Nat.xor_self, Nat.xor_zero] at h1
      exact h1
theorem bl_c : bl 69665 = 17 := by decide
theorem mu3 : Mu 3 69665 := by
  have h : (69665 : Nat) = 3 ^^^ (3 <<< 1) ^^^ (3 <<< 2) ^^^ (3 <<< 3) ^^^ (3 <<< 4) ^^^ (3 <<< 12) ^^^ (3 <<< 13) ^^^ (3 <<< 14) ^^^ (3 <<< 15) := by decide
  rw [h]
  exact ((((((((Mu.one 0).xor (Mu.one 1)).xor (Mu.one 2)).xor (Mu.one 3)).xor (Mu.one 4)).xor (Mu.one 12)).xor (Mu.one 13)).xor (Mu.one 14)).xor (Mu.one 15)
theorem dv3_pow : ∀ p : Nat, dv 3 (2 ^ p) = 1
  | 0 => DL.dv_small (by decide) (by decide)
  | p + 1 => by
    have h : (2 : Nat) ^ (p + 1) = (3 <<< p) ^^^ 2 ^ p := by
      have e : (3 : Nat) <<< p = (1 <<< (p + 1)) ^^^ (1 <<< p) := by
        have e3 : (3 : Nat) = (1 <<< 1) ^^^ 1 := by decide
        rw [e3, Nat.shiftLeft_xor_distrib, ← Nat.shiftLeft_add, Nat.add_comm 1 p]
      rw [e, Nat.shiftLeft_eq, Nat.shiftLeft_eq, Nat.one_mul, Nat.one_mul, Nat.xor_assoc, Nat.xor_self, Nat.xor_zero]
    rw [h, DL.dv_xor (by decide), DL.dv_zero (by decide) (Mu.one p), Nat.zero_xor, dv3_pow p]
def sp_ (x : Nat) : Nat := if 65536 ≤ 2 * x then (2 * x) ^^^ 69665 else 2 * x
theorem r_succ (n : Nat) : dv 69665 (2 ^ (n + 1)) = sp_ (dv 69665 (2 ^ n)) := by
  have h := dv_step (c := 69665) (n := 2 ^ n) (b := 0) (by decide) (by decide)
  rw [bl_c] at h
  have e : 2 * 2 ^ n + 0 = 2 ^ (n + 1) := by rw [Nat.add_zero, Nat.pow_succ, Nat.mul_comm]
  rw [e] at h
  exact h
theorem sp_inj {x y : Nat} (h : sp_ x = sp_ y) : x = y := by
  unfold sp_ at h
  have od : ∀ z : Nat, ((2 * z) ^^^ 69665) % 2 = 1 := fun z => by
    have h1 : ((2 * z) ^^^ 69665) % 2 ^ 1 = ((2 * z) % 2 ^ 1) ^^^ (69665 % 2 ^ 1) := Nat.xor_mod_two_pow
    have h2 : (2 * z) % 2 ^ 1 = 0 := by omega
    rw [h2] at h1
    exact h1
  split at h
  · split at h
    · have := congrArg (· ^^^ 69665) h
      simp only [Nat.xor_assoc, Nat.xor_self, Nat.xor_zero] at this
      omega
    · have := od x
      omega
  · split at h
    · have := od y
      omega
    · omega
def run_ : Nat → Nat → Option Nat
  | 0, x => some x
  | n + 1, x => if sp_ x = 1 then none else run_ n (sp_ x)
def runs_ : Nat → Nat → Option Nat
  | 0, x => some x
  | n + 1, x => (run_ 128 x).bind (runs_ n)
theorem run_ok : ∀ (n a : Nat) (y : Nat), run_ n (dv 69665 (2 ^ a)) = some y → y = dv 69665 (2 ^ (a + n)) ∧ ∀ k, 1 ≤ k → k ≤ n → dv 69665 (2 ^ (a + k)) ≠ 1
  | 0, a, y, h => by
    cases h
    exact ⟨rfl, fun k h1 h2 => by omega⟩
  | n + 1, a, y, h => by
    unfold run_ at h
    split at h
    · cases h
    · rename_i hne
      rw [← r_succ] at h hne
      obtain ⟨h1, h2⟩ := run_ok n (a + 1) y h
      refine ⟨by rw [h1, show a + 1 + n = a + (n + 1) by omega], fun k k1 k2 => ?_⟩
      by_cases q : k = 1
      · subst q; exact hne
      · have := h2 (k - 1) (by omega) (by omega)
        rw [show a + 1 + (k - 1) = a + k by omega] at this
        exact this
theorem runs_ok : ∀ (n a : Nat) (y : Nat), runs_ n (dv 69665 (2 ^ a)) = some y → ∀ k, 1 ≤ k → k ≤ 128 * n → dv 69665 (2 ^ (a + k)) ≠ 1
  | 0, a, y, h => fun k h1 h2 => by omega
  | n + 1, a, y, h => by
    unfold runs_ at h
    obtain ⟨z, h1, h2⟩ := Option.bind_eq_some_iff.mp h
    obtain ⟨e, h3⟩ := run_ok 128 a z h1
    rw [e] at h2
    have h4 := runs_ok n (a + 128) y h2
    intro k k1 k2
    by_cases q : k ≤ 128
    · exact h3 k k1 q
    · have := h4 (k - 128) (by omega) (by omega)
      rw [show a + 128 + (k - 128) = a + k by omega] at this
      exact this
theorem runs_some : (runs_ 65 1).isSome = true := by decide +kernel
theorem r_one : dv 69665 (2 ^ 0) = 1 := DL.dv_small (by decide) (by decide)
theorem r_far {k : Nat} (h1 : 1 ≤ k) (h2 : k ≤ 8320) : dv 69665 (2 ^ k) ≠ 1 := by
  obtain ⟨y, hy⟩ := Option.isSome_iff_exists.mp runs_some
  have := runs_ok 65 0 y (by rw [r_one]; exact hy) k h1 (by omega)
  rwa [Nat.zero_add] at this
theorem r_inj : ∀ (i d : Nat), 1 ≤ d → d ≤ 8320 → dv 69665 (2 ^ (i + d)) ≠ dv 69665 (2 ^ i)
  | 0, d, h1, h2, e => by
    rw [Nat.zero_add, r_one] at e
    exact r_far h1 h2 e
  | i + 1, d, h1, h2, e => by
    rw [show i + 1 + d = (i + d) + 1 by omega, r_succ, r_succ] at e
    exact r_inj i d h1 h2 (sp_inj e)
theorem r_ne {i j : Nat} (h : i ≠ j) (hi : i ≤ 8320) (hj : j ≤ 8320) : dv 69665 (2 ^ i) ≠ dv 69665 (2 ^ j) := by
  rcases Nat.lt_or_gt_of_ne h with q | q
  · have := r_inj i (j - i) (by omega) (by omega)
    rw [show i + (j - i) = j by omega] at this
    exact fun e => this e.symm
  · have := r_inj j (i - j) (by omega) (by omega)
    rw [show j + (i - j) = i by omega] at this
    exact this
/-- what the places make of the number -/
def xr (n : Nat) : List Nat → Nat
  | [] => n
  | p :: r => xr (n ^^^ 2 ^ p) r
theorem turned_seen {n : Nat} {ps : List Nat} (h : dv 69665 n = 0) (nd : ps.Nodup) (h1 : 1 ≤ ps.length) (h3 : ps.length ≤ 3) (hb : ∀ p ∈ ps, p ≤ 8320) : dv 69665 (xr n ps) ≠ 0 := by
  have c0 : (69665 : Nat) ≠ 0 := by decide
  have par : ∀ m, dv 69665 m = 0 → dv 3 m = 0 := fun m hm => by
    obtain ⟨K, hK⟩ := DL.dv_mul c0 hm
    exact DL.dv_zero (by decide) (mu_mu mu3 hK)
  have hn3 := par n h
  match ps, nd, h1, h3, hb with
  | [a], _, _, _, _ =>
    intro e
    have e3 := par _ e
    unfold xr xr at e3
    rw [DL.dv_xor (by decide), hn3, dv3_pow] at e3
    cases e3
  | [a, b], nd, _, _, hb =>
    intro e
    unfold xr xr xr at e
    rw [DL.dv_xor c0, DL.dv_xor c0, h, Nat.zero_xor] at e
    have ne : a ≠ b := by
      intro z
      rw [z] at nd
      simp at nd
    have := congrArg (· ^^^ dv 69665 (2 ^ b)) e
    simp only [Nat.xor_assoc, Nat.xor_self, Nat.xor_zero, Nat.zero_xor] at this
    exact r_ne ne (hb a (by simp)) (hb b (by simp)) this
  | [a, b, c], _, _, _, _ =>
    intro e
    have e3 := par _ e
    unfold xr xr xr xr at e3
    rw [DL.dv_xor (by decide), DL.dv_xor (by decide), DL.dv_xor (by decide), hn3, dv3_pow, dv3_pow, dv3_pow] at e3
    cases e3

/-! bits turned -/
open DL (bl dv Mu Bits gath gathA bitsN gN bitsOf Bytes)
/-- the bit at place p from the end turned -/
def flp (R : List Int) (p : Nat) : List Int := R.set (R.length - 1 - p) (1 - R.getD (R.length - 1 - p) 0)
def flps (R : List Int) : List Nat → List Int
  | [] => R
  | p :: r => flps (flp R p) r
theorem flp_len {R : List Int} {p : Nat} : (flp R p).length = R.length := by unfold flp; rw [List.length_set]
theorem flps_len : ∀ {ps : List Nat} {R : List Int}, (flps R ps).length = R.length
  | [], _ => rfl
  | p :: r, R => by
    show (flps (flp R p) r).length = _
    rw [flps_len, flp_len]
theorem flps_snoc : ∀ {ps : List Nat} {R : List Int} {p : Nat}, flps R (ps ++ [p]) = flp (flps R ps) p
  | [], _, _ => rfl
  | q :: r, R, p => by
    show flps (flp R q) (r ++ [p]) = flp (flps (flp R q) r) p
    exact flps_snoc
theorem flp_split {l m : List Int} {b : Int} : flp (l ++ [b] ++ m) m.length = l ++ [1 - b] ++ m := by
  unfold flp
  have e : (l ++ [b] ++ m).length - 1 - m.length = l.length := by simp only [List.length_append, List.length_singleton]; omega
  rw [e]
  have g : (l ++ [b] ++ m).getD l.length 0 = b := by simp
  rw [g]
  simp
theorem split_at {R : List Int} {p : Nat} (h : p < R.length) : ∃ l b m, R = l ++ [b] ++ m ∧ m.length = p := by
  have h2 : R.length - 1 - p < R.length := by omega
  refine ⟨R.take (R.length - 1 - p), R[R.length - 1 - p], R.drop (R.length - p), ?_, by rw [List.length_drop]; omega⟩
  have := List.take_append_drop (R.length - 1 - p) R
  rw [List.drop_eq_getElem_cons h2, show R.length - 1 - p + 1 = R.length - p by omega] at this
  rw [List.append_assoc]
  exact this.symm
theorem flp_bits {R : List Int} {p : Nat} (h : Bits R) (hp : p < R.length) : Bits (flp R p) := by
  obtain ⟨l, b, m, rfl, rfl⟩ := split_at hp
  rw [flp_split]
  intro x hx
  simp only [List.mem_append, List.mem_singleton] at hx
  have hb := h b (by simp)
  rcases hx with (hx | hx) | hx
  · exact h x (by simp [hx])
  · omega
  · exact h x (by simp [hx])
theorem flp_gN {R : List Int} {p : Nat} (h : Bits R) (hp : p < R.length) : gN (flp R p) = gN R ^^^ 2 ^ p := by
  obtain ⟨l, b, m, rfl, rfl⟩ := split_at hp
  rw [flp_split]
  have hl : Bits l := fun x hx => h x (by simp [hx])
  have hm : Bits m := fun x hx => h x (by simp [hx])
  have hb : Bits [b] := fun x hx => h x (by simp at hx; simp [hx])
  have hb' : b = 0 ∨ b = 1 := hb b (by simp)
  have hb1 : Bits [1 - b] := fun x hx => by rw [List.mem_singleton] at hx; omega
  have e : gN [1 - b] = gN [b] ^^^ 1 := by
    rcases hb' with rfl | rfl
    · decide
    · decide
  rw [DL.gN_append (hl.append hb1) hm, DL.gN_append (hl.append hb) hm, DL.gN_append hl hb1, DL.gN_append hl hb, e, ← Nat.xor_assoc, Nat.shiftLeft_xor_distrib, Nat.shiftLeft_eq 1, Nat.one_mul]
  show (gN l <<< 1 ^^^ gN [b]) <<< m.length ^^^ 2 ^ m.length ^^^ gN m = (gN l <<< 1 ^^^ gN [b]) <<< m.length ^^^ gN m ^^^ 2 ^ m.length
  rw [Nat.xor_assoc, Nat.xor_assoc, Nat.xor_comm (2 ^ m.length)]
theorem flps_bits : ∀ {ps : List Nat} {R : List Int}, Bits R → (∀ p ∈ ps, p < R.length) → Bits (flps R ps)
  | [], _, h, _ => h
  | p :: r, R, h, hp => by
    show Bits (flps (flp R p) r)
    exact flps_bits (flp_bits h (hp p (by simp))) fun q hq => by rw [flp_len]; exact hp q (by simp [hq])
theorem flps_gN : ∀ {ps : List Nat} {R : List Int}, Bits R → (∀ p ∈ ps, p < R.length) → gN (flps R ps) = xr (gN R) ps
  | [], _, _, _ => rfl
  | p :: r, R, h, hp => by
    show gN (flps (flp R p) r) = xr (gN R ^^^ 2 ^ p) r
    rw [flps_gN (flp_bits h (hp p (by simp))) fun q hq => by rw [flp_len]; exact hp q (by simp [hq]), flp_gN h (hp p (by simp))]
/-- the row's bits, coded -/
def cr (row : List Int) : List Int := cdd 69665 (bitsOf row)
theorem cr_len {row : List Int} : (cr row).length = 8 * row.length + 16 := by
  unfold cr
  rw [cdd_len, DL.bitsOf_len, bl_c]
theorem cr_bits {row : List Int} : Bits (cr row) := cdd_bits (DL.bitsOf_bits row)
theorem cr_seen {row : List Int} {ps : List Nat} (hr : row.length ≤ 1020) (nd : ps.Nodup) (h1 : 1 ≤ ps.length) (h3 : ps.length ≤ 3) (hb : ∀ p ∈ ps, p < 8 * row.length + 16) : dv 69665 (gN (flps (cr row) ps)) ≠ 0 := by
  have hb' : ∀ p ∈ ps, p < (cr row).length := fun p hp => by rw [cr_len]; exact hb p hp
  rw [flps_gN cr_bits hb']
  exact turned_seen (cdd_dv (by decide) (DL.bitsOf_bits row)) nd h1 h3 fun p hp => by have := hb p hp; omega
theorem cn : Cn 69665 := ⟨by decide, by decide, by decide⟩

/-! the rows of bits of a thing -/
open DL (bl dv Mu Bits gath gathA bitsN gN bitsOf Bytes)
theorem bits_by_ok {n w : Nat} {A : Hs} (h : n < 2 ^ w) (hw : w ≤ 1000) : ∃ A1, F_bits_by [.int (n : Int), .int (w : Int)] A = .ok (rw_ (bitsN (n : Int) w)) A1 ∧ Fr [] A A1 := by
  have hz : ((n : Int) / 2 ^ w) = 0 := by
    have : (n : Int) < 2 ^ w := by exact_mod_cast h
    exact Int.ediv_eq_zero_of_lt (by omega) this
  have n0 : ¬ (n : Int) < 0 := by omega
  refine ⟨A ++ [.lst ((bitsN (n : Int) w).map D.int)], ?_, .push⟩
  have sp : F_spread [.int (n : Int), .int (w : Int)] A = .ok (.ref A.length) (A ++ [.lst ((bitsN (n : Int) w).map D.int)]) := by
    unfold F_spread
    simp_arith []
    rw [lc_go (fun _ => true) (fun d => match d with | .int k => .int ((n : Int) / 2 ^ (w - 1 - k.toNat) % 2) | _ => .non) trivial (by rw [rgL_len]; omega)]
    rotate_left
    · intro d hd
      obtain ⟨j, hj, rfl⟩ := mem_rgL hd
      have e1 : (w : Int) - 1 - (0 + (j : Int) * 1) = ((w - 1 - j : Nat) : Int) := by omega
      have e2 : (0 + (j : Int) * 1).toNat = j := by omega
      show Got _ _
      simp_arith [e1, oShr_i, oAnd_i, bitAnd1, Int.toNat_natCast, e2]
      first | exact fun _ => rfl | exact fun _ => trivial | trivial
    rw [List.filter_eq_self.mpr (by simp)]
    have : (rgL 0 1 (w : Int).toNat).map (fun d => match d with | .int k => D.int ((n : Int) / 2 ^ (w - 1 - k.toNat) % 2) | _ => .non) = (bitsN (n : Int) w).map D.int := by
      unfold rgL DL.bitsN
      rw [List.map_map, List.map_map, Int.toNat_natCast]
      refine List.map_congr_left fun k hk => ?_
      simp only [Function.comp]
      have : (0 + (k : Int) * 1).toNat = k := by omega
      rw [this]
    rw [this]
    simp_arith []
  unfold F_bits_by rw_
  simp_arith [n0, oShr_i, Int.toNat_natCast, hz, sp, z9p]
theorem coded_ok {c : Nat} {l : List Int} {A : Hs} (hc : Cn c) (h : Bits l) (hl : l.length ≤ 9000) : ∃ A1, F_coded [rw_ l, .int (c : Int)] A = .ok (rw_ (cdd c l)) A1 ∧ Fr [] A A1 := by
  have lo := hc.lo
  have hb := hc.bl
  have c0 : c ≠ 0 := by omega
  obtain ⟨A1, e1, f1⟩ := number_by_ok (A := A) h (by omega)
  have b1 : bl (gN l) ≤ 9000 := Nat.le_trans (bl_small (DL.gN_lt h)) hl
  have hlt2 : gN l <<< (bl c - 1) < 2 ^ (l.length + (bl c - 1)) := by
    rw [Nat.shiftLeft_eq, Nat.pow_add]
    exact Nat.mul_lt_mul_of_pos_right (DL.gN_lt h) (Nat.pow_pos (by decide))
  have dk := divided_ok (A := A1) (c := c) (n := gN l <<< (bl c - 1)) c0 (Nat.le_trans (bl_small hlt2) (by omega)) (by omega)
  have lt := DL.bl_lt.mp (DL.dv_lt c0 (gN l <<< (bl c - 1)))
  obtain ⟨A2, e2, f2⟩ := bits_by_ok (A := A1) lt.1 (by omega)
  refine ⟨A2, ?_, f1.trans f2⟩
  have sh := oShl_n (x := gN l) (k := bl c - 1) (A := A1) (by omega)
  unfold F_coded
  simp_arith [need_code_ok hc, width_ok hc, e1, sh, dk, e2]
  unfold rw_ cdd
  have len : ((l.map D.int).length + ((bitsN ((dv c (gN l <<< (bl c - 1)) : Nat) : Int) (bl c - 1)).map D.int).length) ≤ 16000000 := by rw [List.length_map, List.length_map, DL.bitsN_len]; omega
  simp_arith [len, List.map_append]

theorem bits8_ok {b : Int} {A : Hs} (h : 0 ≤ b ∧ b ≤ 255) : ∃ A1, F_bits_by [.int b, .int 8] A = .ok (rw_ (bitsN b 8)) A1 ∧ Fr [] A A1 := by
  obtain ⟨n, rfl⟩ : ∃ n : Nat, b = (n : Int) := ⟨b.toNat, by omega⟩
  exact bits_by_ok (n := n) (w := 8) (by omega) (by decide)
theorem bitsOf_one {b : Int} : bitsOf [b] = bitsN b 8 := by
  unfold DL.bitsOf
  simp
theorem take_snoc' {l : List Int} {j : Nat} {b : Int} (h : l[j]? = some b) : l.take (j + 1) = l.take j ++ [b] := by rw [List.take_succ, h]; rfl
theorem coded_row_ok {row : List Int} {A : Hs} (hb : Bytes row) (hl : row.length ≤ 1020) : ∃ A1, F_coded_row [rw_ row, .int 69665] A = .ok (rw_ (cr row)) A1 ∧ Fr [] A A1 := by
  suffices H : Rk (F_coded_row [rw_ row, .int 69665] A) fun v A1 => v = rw_ (cr row) ∧ Fr [] A A1 by
    obtain ⟨_, A1, e, rfl, f⟩ := H.ex; exact ⟨A1, e, f⟩
  unfold F_coded_row
  have er : rw_ row = .tup (row.map D.int) := rfl
  rw [er]
  simp_arith []
  refine for_go (R := fun rs => Rk (finR (seqR rs _)) _) (fun j e B => ∃ o, e = [some (.tup (row.map D.int)), some (.int 69665), some (.ref A.length), o] ∧ B[A.length]? = some (.lst ((bitsOf (row.take j)).map D.int)) ∧ Fr [] A B) ⟨none, rfl, by rw [List.take_zero]; exact z9p, .push⟩ (fun _ _ _ _ _ => trivial) ?_ ?_
  · rintro j _ B d hd ⟨o, rfl, hB, fB⟩
    rw [List.getElem?_map] at hd
    obtain ⟨b, hbj, rfl⟩ := Option.map_eq_some_iff.mp hd
    obtain ⟨C, e1, f1⟩ := bits8_ok (A := B) (hb b (List.mem_of_getElem? hbj))
    have hC := f1.get hB (by simp)
    have hl2 := DL.bitsOf_len (row.take j)
    rw [List.length_take] at hl2
    have hll : ((bitsOf (row.take j)).map D.int).length + ((bitsN b 8).map D.int).length ≤ 16000000 := by rw [List.length_map, List.length_map, DL.bitsN_len]; omega
    have nC := lt_of_get hC
    unfold rw_ at e1
    simp_arith [e1, hB, hC]
    refine ⟨_, rfl, ?_, (fB.trans f1).then_set (.inr (Nat.le_refl _))⟩
    rw [take_snoc' hbj, DL.bitsOf_append, List.map_append, bitsOf_one]
  · rintro _ B ⟨o, rfl, hB, fB⟩
    rw [List.length_map, List.take_length] at hB
    obtain ⟨C, e1, f1⟩ := coded_ok (A := B) cn (DL.bitsOf_bits row) (by rw [DL.bitsOf_len]; omega)
    have e1' : F_coded [.tup ((bitsOf row).map D.int), .int 69665] B = .ok (rw_ (cr row)) C := e1
    simp_arith [hB, e1']
    exact fB.trans f1
def tfs (row : List Int) (ps : List Nat) : List (String × D) := [("row", rw_ row), ("years", .int 0), ("places", rw_ (ps.map fun p : Nat => (p : Int)))]
theorem row_bits_ok {row : List Int} {ps : List Nat} {t : Nat} {A : Hs} (hb : Bytes row) (hl : row.length ≤ 1020) (ho : A[t]? = some (.obj "Thing" (tfs row ps))) (hp : ∀ p ∈ ps, p < 8 * row.length + 16) (hpl : ps.length ≤ 3) :
    ∃ A1, F_Thing_row_bits [.ref t, .int 69665] A = .ok (rw_ (flps (cr row) ps)) A1 ∧ Fr [] A A1 := by
  suffices H : Rk (F_Thing_row_bits [.ref t, .int 69665] A) fun v A1 => v = rw_ (flps (cr row) ps) ∧ Fr [] A A1 by
    obtain ⟨_, A1, e, rfl, f⟩ := H.ex; exact ⟨A1, e, f⟩
  obtain ⟨C, e1, f1⟩ := coded_row_ok (A := A) hb hl
  have nC := f1.le
  have hoC := f1.get ho (by simp)
  have nT := lt_of_get hoC
  have er : ∀ l, rw_ l = .tup (l.map D.int) := fun _ => rfl
  unfold tfs at ho hoC
  unfold rw_ at e1
  unfold F_Thing_row_bits
  simp_arith [ho, e1, hoC, er]
  refine for_go (R := fun rs => Rk (finR (seqR rs _)) _) (fun j e B => ∃ o, e = [some (.ref t), some (.int 69665), some (.ref C.length), o] ∧ B[C.length]? = some (.lst ((flps (cr row) (ps.take j)).map D.int)) ∧ Fr [] A B) ⟨none, rfl, by rw [List.take_zero]; exact z9p, f1.then_push⟩ (fun _ _ _ _ _ => trivial) ?_ ?_
  · rintro j _ B d hd ⟨o, rfl, hB, fB⟩
    rw [List.getElem?_map, List.getElem?_map] at hd
    obtain ⟨x, hx, rfl⟩ := Option.map_eq_some_iff.mp hd
    obtain ⟨p, hpj, rfl⟩ := Option.map_eq_some_iff.mp hx
    have hpr := hp p (List.mem_of_getElem? hpj)
    obtain ⟨R, hR⟩ : ∃ R, R = flps (cr row) (ps.take j) := ⟨_, rfl⟩
    have hRl : R.length = 8 * row.length + 16 := by rw [hR, flps_len, cr_len]
    have en : flps (cr row) (ps.take (j + 1)) = flp R p := by
      rw [hR, ← flps_snoc, List.take_succ, hpj]; rfl
    rw [en]
    rw [← hR] at hB
    have nB := lt_of_get hB
    obtain ⟨k, hk⟩ : ∃ k, k = R.length - 1 - p := ⟨_, rfl⟩
    obtain ⟨b, hbk⟩ : ∃ b, R[k]? = some b := ⟨_, List.getElem?_eq_getElem (by omega)⟩
    have hix : ixN (R.map D.int).length (-1 - (p : Int)) = some k := by
      unfold ixN
      rw [if_neg (by omega), List.length_map, if_pos (by omega)]
      congr 1
      omega
    have ga : atI (R.map D.int) (-1 - (p : Int)) = some (.int b) := by
      unfold atI
      rw [hix]
      show (R.map D.int)[k]? = _
      rw [List.getElem?_map, hbk]; rfl
    have hs : ∀ z, si_ B C.length (.int (-1 - (p : Int))) z (some (.lst (R.map D.int))) = some (B.set C.length (.lst ((R.map D.int).set k z))) := fun z => by
      unfold si_
      simp only [hix]
    simp_arith [hB, ga, hs, -z4o]
    refine ⟨_, rfl, ?_, fB.then_set (.inr nC)⟩
    have e : flp R p = R.set k (1 - b) := by
      unfold flp
      rw [← hk, List.getD_eq_getElem?_getD, hbk]; rfl
    rw [e, List.map_set]
  · rintro _ B ⟨o, rfl, hB, fB⟩
    have e : (List.map D.int (ps.map fun p : Nat => (p : Int))).length = ps.length := by rw [List.length_map, List.length_map]
    rw [e, List.take_length] at hB
    simp_arith [hB]
    exact fB
theorem how_many_ok {row : List Int} {ps : List Nat} {t : Nat} {A : Hs} (ho : A[t]? = some (.obj "Thing" (tfs row ps))) : F_Thing_how_many [.ref t, .int 69665] A = .ok (.int ((8 * row.length + 16 : Nat) : Int)) A := by
  have e := width_ok (A := A) cn
  rw [bl_c] at e
  have e' : F_width [.int 69665] A = .ok (.int 16) A := e
  have er : ∀ l, rw_ l = .tup (l.map D.int) := fun _ => rfl
  have e2 : ((row.length : Nat) : Int) * 8 + 16 = ((8 * row.length + 16 : Nat) : Int) := by omega
  unfold tfs at ho
  unfold F_Thing_how_many
  simp_arith [ho, er, e', e2]

/-! packets -/
open DL (Bytes)
structure Pt where
  s : Int
  t : Int
  k : Int
  l : Int
  n : Int
  m : Bool
  d : List Int
structure Pt.Ok (p : Pt) : Prop where
  s : 0 ≤ p.s ∧ p.s ≤ 255
  t : 0 ≤ p.t ∧ p.t ≤ 255
  k : 0 ≤ p.k ∧ p.k ≤ 255
  l : 1 ≤ p.l ∧ p.l ≤ 255
  n : 0 ≤ p.n ∧ p.n ≤ 65535
  b : Bytes p.d
  dl : p.d.length ≤ 1000
def Pt.fs (p : Pt) : List (String × D) := [("source", .int p.s), ("target", .int p.t), ("kind", .int p.k), ("life", .int p.l), ("name", .int p.n), ("first", .int 0), ("more", .bl p.m), ("data", rw_ p.d)]
def Pt.args (p : Pt) : List D := [.int p.s, .int p.t, .int p.k, .int p.l, .int p.n, .int 0, .bl p.m, rw_ p.d]
theorem num_p {p m : Int} {A : Hs} : F_is_number_packets [.int p, .int m] A = .ok (.bl (decide (0 ≤ p) && decide (p ≤ m))) A := by
  unfold F_is_number_packets
  by_cases h : 0 ≤ p
  · simp_arith [h, Bool.true_and]
  · simp_arith [h, Bool.false_and]
theorem are_bytes_ok {d : List Int} {m : Int} {A : Hs} (hb : Bytes d) (hl : (d.length : Int) ≤ m) (hm : m ≤ 2000) : ∃ A1, F_are_bytes [rw_ d, .int m] A = .ok (.bl true) A1 ∧ Fr [] A A1 := by
  refine ⟨A ++ [.lst ((d.map D.int).map fun _ => .bl true)], ?_, .push⟩
  unfold F_are_bytes rw_
  simp_arith [hl]
  rw [lc_go (fun _ => true) (fun _ => .bl true) trivial (by rw [List.length_map]; omega)]
  rotate_left
  · intro x hx
    obtain ⟨b, hbb, rfl⟩ := List.mem_map.mp hx
    have h := hb b hbb
    have a : (0 : Int) ≤ b := h.1
    have c : b ≤ (255 : Int) := h.2
    show Got _ _
    simp_arith [num_p, a, c]
    first | exact fun _ => rfl | exact fun _ => trivial | trivial
  rw [List.filter_eq_self.mpr (by simp)]
  have e : ((d.map D.int).map fun _ => D.bl true) = (d.map fun _ => true).map D.bl := by rw [List.map_map, List.map_map]; rfl
  have e2 : boolsOf ((d.map D.int).map fun _ => D.bl true) = some (d.map fun _ => true) := by rw [e, z00]
  simp_arith [e2]
  simp
theorem packet_ok {p : Pt} {A : Hs} (h : p.Ok) : Rk (make "Packet" F_Packet___init__ p.args A) fun v A1 => v = .ref A.length ∧ A1[A.length]? = some (.obj "Packet" p.fs) ∧ Fr [] A A1 := by
  refine Rk.make ?_
  obtain ⟨s, t, k, l, n, m, d⟩ := p
  have hs := h.s
  have ht := h.t
  have hk := h.k
  have hl := h.l
  have hn := h.n
  have hb := h.b
  have hd := h.dl
  simp only at hs ht hk hl hn hb hd
  unfold F_Packet___init__ Pt.args
  have hn1 : (0 : Int) ≤ n := hn.1
  have hn2 : n ≤ (65535 : Int) := hn.2
  simp_arith []
  rw [lc_go (ds := [D.int s, D.int t, D.int k, D.int l]) (fun _ => true) (fun _ => .bl true) trivial (show 4 < 16000000 by decide)]
  rotate_left
  · intro x hx
    simp only [List.mem_cons, List.not_mem_nil, or_false] at hx
    have : ∃ b : Int, x = .int b ∧ 0 ≤ b ∧ b ≤ 255 := by
      rcases hx with rfl | rfl | rfl | rfl
      · exact ⟨_, rfl, hs⟩
      · exact ⟨_, rfl, ht⟩
      · exact ⟨_, rfl, hk⟩
      · exact ⟨_, rfl, by omega⟩
    obtain ⟨b, rfl, a, c⟩ := this
    show Got _ _
    simp_arith [num_p, a, c]
    first | exact fun _ => rfl | exact fun _ => trivial | trivial
  rw [List.filter_eq_self.mpr (by simp)]
  have e2 : boolsOf ([D.int s, D.int t, D.int k, D.int l].map fun _ => D.bl true) = some [true, true, true, true] := rfl
  obtain ⟨B, e3, f3⟩ := are_bytes_ok (A := A ++ [O.obj "Packet" []] ++ [O.lst ([D.int s, D.int t, D.int k, D.int l].map fun _ => D.bl true)]) (m := 1000) hb (by omega) (by decide)
  have nB := f3.le
  have hB : B[A.length]? = some (.obj "Packet" []) := f3.get (get_push z9p) (by simp)
  have nB' := lt_of_get hB
  simp only [List.map_cons, List.map_nil] at e2 e3 f3
  simp_arith [e2, num_p, hn1, hn2, e3, hB]
  exact ⟨rfl, (Fr.push.trans (Fr.push.trans f3)).then_set (.inr (Nat.le_refl _))⟩
/-! bytes of packets -/
def g_ (row : List Int) (i : Nat) : Int := row.getD i 0
def pt_ (row : List Int) : Nat → Int
  | 0 => 0
  | j + 1 => pt_ row j + (g_ row (2 * j) * 256 + g_ row (2 * j + 1))
def fo (x : Int) : Int := if x ≤ 65535 then x else (if x / 65536 + x % 65536 ≤ 65535 then x / 65536 + x % 65536 else (x / 65536 + x % 65536) / 65536 + (x / 65536 + x % 65536) % 65536)
theorem fo_step {x : Int} (h : 65535 < x) (h2 : x ≤ 393210) : fo (x / 65536 + x % 65536) = fo x := by
  unfold fo
  rw [if_neg (by omega : ¬ x ≤ 65535)]
  by_cases q : x / 65536 + x % 65536 ≤ 65535
  · rw [if_pos q, if_pos q]
  · rw [if_neg q, if_neg q, if_pos (by omega)]
theorem fo_in {x : Int} (h : 0 ≤ x) (h2 : x ≤ 393210) : 0 ≤ fo x ∧ fo x ≤ 65535 := by
  unfold fo
  split
  · omega
  · split <;> omega
theorem g_in {row : List Int} (h : Bytes row) (i : Nat) : 0 ≤ g_ row i ∧ g_ row i ≤ 255 := by
  unfold g_
  rw [List.getD_eq_getElem?_getD]
  cases q : row[i]? with
  | none => decide
  | some b => exact h b (List.mem_of_getElem? q)
theorem pt_in {row : List Int} (h : Bytes row) : ∀ j, 0 ≤ pt_ row j ∧ pt_ row j ≤ 65535 * (j : Int)
  | 0 => ⟨Int.le_refl _, by simp [pt_]⟩
  | j + 1 => by
    have ih := pt_in h j
    have h1 := g_in h (2 * j)
    have h2 := g_in h (2 * j + 1)
    show 0 ≤ pt_ row j + _ ∧ pt_ row j + _ ≤ _
    omega
theorem pt_app {h r : List Int} : ∀ j, 2 * j ≤ h.length → pt_ (h ++ r) j = pt_ h j
  | 0, _ => rfl
  | j + 1, hl => by
    show pt_ (h ++ r) j + _ = pt_ h j + _
    rw [pt_app j (by omega)]
    unfold g_
    rw [List.getD_eq_getElem?_getD, List.getD_eq_getElem?_getD, List.getD_eq_getElem?_getD, List.getD_eq_getElem?_getD, List.getElem?_append_left (by omega), List.getElem?_append_left (by omega)]
theorem ix_row {row : List Int} {i : Nat} (h : i < row.length) : atI (row.map D.int) (i : Int) = some (.int (g_ row i)) := by
  rw [z4o (by omega), Int.toNat_natCast, List.getElem?_map]
  unfold g_
  rw [List.getD_eq_getElem?_getD, List.getElem?_eq_getElem h]
  rfl
theorem of_two_ok {row : List Int} {i : Nat} {A : Hs} (h : i + 1 < row.length) : F_of_two [rw_ row, .int (i : Int)] A = .ok (.int (g_ row i * 256 + g_ row (i + 1))) A := by
  have a := ix_row (row := row) (i := i) (by omega)
  have b := ix_row (row := row) (i := i + 1) h
  have e : ((i + 1 : Nat) : Int) = (i : Int) + 1 := by omega
  rw [e] at b
  unfold F_of_two rw_
  simp_arith [a, b, -z4o]
theorem sum_of_ok {row : List Int} {A : Hs} (hb : Bytes row) (hl : 12 ≤ row.length) : F_sum_of [rw_ row] A = .ok (.int (65535 - fo (pt_ row 6))) A := by
  have er : rg3 [D.int 0, D.int 12, D.int 2] = some ⟨rgL 0 2 6, tt⟩ := by rw [za8 ⟨by decide, by decide, by decide, by decide, by decide, by decide⟩]; rfl
  unfold F_sum_of
  simp_arith [er]
  refine for_go (R := fun rs => finR (seqR rs _) = _) (fun j e B => ∃ o, e = [some (rw_ row), some (.int (pt_ row j)), o] ∧ B = A) ⟨none, rfl, rfl⟩ (fun _ _ _ _ _ => trivial) ?_ ?_
  · rintro j _ A' d hd ⟨o, rfl, rfl⟩
    obtain ⟨rfl, hj⟩ := rgL_get hd
    have e0 : (0 : Int) + (j : Nat) * 2 = ((2 * j : Nat) : Int) := by omega
    rw [e0]
    have e1 := of_two_ok (A := A') (row := row) (i := 2 * j) (by omega)
    show Got _ _
    simp_arith [e1]
    exact ⟨_, rfl⟩
  · rintro _ A' ⟨o, rfl, rfl⟩
    rw [rgL_len]
    have hp := pt_in hb 6
    simp_arith []
    refine wh_go (fun k e B => ∃ x : Int, k = x.toNat ∧ B = A' ∧ e = [some (rw_ row), some (.int x), o] ∧ fo x = fo (pt_ row 6) ∧ 0 ≤ x ∧ x ≤ 393210) (fun rs => finR (seqR rs _) = _) (n := (pt_ row 6).toNat) ⟨pt_ row 6, rfl, rfl, rfl, rfl, hp.1, by omega⟩ ?_
    rintro _ _ _ ⟨x, rfl, rfl, rfl, hx, h0, h1⟩
    by_cases q : 65535 < x
    · simp_arith [q]
      refine ⟨_, ?_, x / 65536 + x % 65536, rfl, rfl, ?_, by omega, by omega⟩
      · omega
      · rw [fo_step q h1]; exact hx
    · simp_arith [q]
      have : fo x = x := by unfold fo; rw [if_pos (by omega)]
      rw [← hx, this]

/-! a packet's bytes and back -/
open DL (Bytes)
def b01 (m : Bool) : Int := if m then 1 else 0
def Pt.head (p : Pt) : List Int := [p.k, p.l, p.s, p.t, p.n / 256, p.n % 256, 0, 0, b01 p.m, 0, (p.d.length : Int) / 256, (p.d.length : Int) % 256]
def Pt.sum (p : Pt) : Int := 65535 - fo (pt_ p.head 6)
def Pt.row (p : Pt) : List Int := p.head ++ ([p.sum / 256, p.sum % 256] ++ p.d)
theorem Pt.Ok.head {p : Pt} (h : p.Ok) : Bytes p.head := by
  intro b hb
  have h1 := h.k
  have h2 := h.l
  have h3 := h.s
  have h4 := h.t
  have h5 := h.n
  have h6 := h.dl
  have h7 : 0 ≤ b01 p.m ∧ b01 p.m ≤ 1 := by unfold b01; split <;> decide
  unfold Pt.head at hb
  simp only [List.mem_cons, List.not_mem_nil, or_false] at hb
  rcases hb with rfl | rfl | rfl | rfl | rfl | rfl | rfl | rfl | rfl | rfl | rfl | rfl <;> omega
theorem Pt.Ok.sum {p : Pt} (h : p.Ok) : 0 ≤ p.sum ∧ p.sum ≤ 65535 := by
  have h1 := pt_in h.head 6
  have h2 := fo_in h1.1 (by omega)
  unfold Pt.sum
  omega
theorem Pt.Ok.row {p : Pt} (h : p.Ok) : Bytes p.row := by
  intro b hb
  have h1 := h.sum
  unfold Pt.row at hb
  rcases List.mem_append.mp hb with hb | hb
  · exact h.head b hb
  · rcases List.mem_append.mp hb with hb | hb
    · simp only [List.mem_cons, List.not_mem_nil, or_false] at hb
      rcases hb with rfl | rfl <;> omega
    · exact h.b b hb
theorem Pt.row_len {p : Pt} : p.row.length = 14 + p.d.length := by
  unfold Pt.row
  rw [List.length_append, List.length_append]
  show 12 + (2 + p.d.length) = _
  omega
theorem two_ok {n : Int} {A : Hs} : F_two [.int n] A = .ok (.tup [.int (n / 256), .int (n % 256)]) A := by
  unfold F_two
  simp_arith []
theorem oIAdd_t {l k : List D} {A : Hs} (h : l ≠ [] ∧ l.length + k.length ≤ 16000000) : oIAdd (.tup l) (.tup k) A = .ok (.tup (l ++ k)) A := by
  unfold oIAdd
  simp only
  rw [if_pos ⟨h.1, z0d h.2⟩]
theorem packet_bytes_ok {p : Pt} {q : Nat} {A : Hs} (h : p.Ok) (ho : A[q]? = some (.obj "Packet" p.fs)) : F_packet_bytes [.ref q] A = .ok (rw_ p.row) A := by
  have hsum := sum_of_ok (row := p.head) (A := A) h.head (Nat.le_refl 12)
  have hs : (65535 : Int) - fo (pt_ p.head 6) = p.sum := rfl
  rw [hs] at hsum
  have hz : (p.d.map D.int).length ≤ 1000 := by rw [List.length_map]; exact h.dl
  have er : ∀ l, rw_ l = .tup (l.map D.int) := fun _ => rfl
  have hm : ∀ B, oInt (.bl p.m) B = .ok (.int (b01 p.m)) B := fun B => rfl
  have e1 : oIAdd (.tup [.int p.k, .int p.l, .int p.s, .int p.t, .int (p.n / 256), .int (p.n % 256), .int 0, .int 0]) (.tup [.int (b01 p.m), .int 0, .int ((p.d.length : Int) / 256), .int ((p.d.length : Int) % 256)]) A = .ok (rw_ p.head) A := by
    rw [oIAdd_t ⟨by simp, by simp⟩]; rfl
  have e2 : rw_ p.row = .tup ((p.head.map D.int ++ [.int (p.sum / 256), .int (p.sum % 256)]) ++ p.d.map D.int) := by
    rw [er]
    unfold Pt.row
    rw [List.map_append, List.map_append, List.append_assoc]
    rfl
  have l12 : p.head.length = 12 := rfl
  have l1 : (p.head.map D.int).length + [D.int (p.sum / 256), D.int (p.sum % 256)].length ≤ 16000000 := by rw [List.length_map, l12]; exact (by decide : 14 ≤ 16000000)
  have l2 : (p.head.map D.int ++ [D.int (p.sum / 256), D.int (p.sum % 256)]).length + (p.d.map D.int).length ≤ 16000000 := by rw [List.length_append, List.length_map, l12]; simp only [List.length_cons, List.length_nil]; omega
  unfold Pt.fs at ho
  rw [er] at hsum e1
  rw [e2]
  generalize p.sum = sm_ at *
  generalize p.head = hd_ at *
  unfold F_packet_bytes
  simp_arith [ho, two_ok, hm, er, e1, hsum, l1, l2]
theorem packet_by_ok {p : Pt} {A : Hs} (h : p.Ok) : ∃ q A1, F_packet_by [rw_ p.row] A = .ok (.ref q) A1 ∧ A.length ≤ q ∧ A1[q]? = some (.obj "Packet" p.fs) ∧ Fr [] A A1 := by
  have er : rw_ p.row = .tup (p.row.map D.int) := rfl
  have hrl := p.row_len
  have hdl := h.dl
  have hsm := h.sum
  have hnn := h.n
  obtain ⟨B, e1, f1⟩ := are_bytes_ok (A := A) (m := 1014) h.row (by rw [hrl]; omega) (by decide)
  have i0 : atI (p.row.map D.int) 0 = some (.int (g_ p.row 0)) := ix_row (row := p.row) (i := 0) (by omega)
  have i1 : atI (p.row.map D.int) 1 = some (.int (g_ p.row 1)) := ix_row (row := p.row) (i := 1) (by omega)
  have i2 : atI (p.row.map D.int) 2 = some (.int (g_ p.row 2)) := ix_row (row := p.row) (i := 2) (by omega)
  have i3 : atI (p.row.map D.int) 3 = some (.int (g_ p.row 3)) := ix_row (row := p.row) (i := 3) (by omega)
  have i8 : atI (p.row.map D.int) 8 = some (.int (g_ p.row 8)) := ix_row (row := p.row) (i := 8) (by omega)
  have i9 : atI (p.row.map D.int) 9 = some (.int (g_ p.row 9)) := ix_row (row := p.row) (i := 9) (by omega)
  have t4 : F_of_two [rw_ p.row, .int 4] B = .ok (.int (g_ p.row 4 * 256 + g_ p.row (4 + 1))) B := of_two_ok (row := p.row) (i := 4) (A := B) (by omega)
  have t6 : F_of_two [rw_ p.row, .int 6] B = .ok (.int (g_ p.row 6 * 256 + g_ p.row (6 + 1))) B := of_two_ok (row := p.row) (i := 6) (A := B) (by omega)
  have t10 : F_of_two [rw_ p.row, .int 10] B = .ok (.int (g_ p.row 10 * 256 + g_ p.row (10 + 1))) B := of_two_ok (row := p.row) (i := 10) (A := B) (by omega)
  have t12 : F_of_two [rw_ p.row, .int 12] B = .ok (.int (g_ p.row 12 * 256 + g_ p.row (12 + 1))) B := of_two_ok (row := p.row) (i := 12) (A := B) (by omega)
  have hsum := sum_of_ok (row := p.row) (A := B) h.row (by omega)
  have hpt : pt_ p.row 6 = pt_ p.head 6 := pt_app 6 (Nat.le_refl 12)
  have hs : (65535 : Int) - fo (pt_ p.head 6) = p.sum := rfl
  rw [hpt, hs] at hsum
  have g0 : g_ p.row 0 = p.k := rfl
  have g1 : g_ p.row 1 = p.l := rfl
  have g2 : g_ p.row 2 = p.s := rfl
  have g3 : g_ p.row 3 = p.t := rfl
  have g4 : g_ p.row 4 * 256 + g_ p.row (4 + 1) = p.n := by
    show p.n / 256 * 256 + p.n % 256 = p.n
    omega
  have g6 : g_ p.row 6 * 256 + g_ p.row (6 + 1) = 0 := rfl
  have g8 : g_ p.row 8 = b01 p.m := rfl
  have g9 : g_ p.row 9 = 0 := rfl
  have g10 : g_ p.row 10 * 256 + g_ p.row (10 + 1) = (p.d.length : Int) := by
    show (p.d.length : Int) / 256 * 256 + (p.d.length : Int) % 256 = _
    omega
  have g12 : g_ p.row 12 * 256 + g_ p.row (12 + 1) = p.sum := by
    show p.sum / 256 * 256 + p.sum % 256 = _
    omega
  rw [g0] at i0
  rw [g1] at i1
  rw [g2] at i2
  rw [g3] at i3
  rw [g8] at i8
  rw [g9] at i9
  rw [g4] at t4
  rw [g6] at t6
  rw [g10] at t10
  rw [g12] at t12
  have hm1 : ¬ (1 : Int) < b01 p.m := by unfold b01; split <;> decide
  have hmm : decide (b01 p.m = 1) = p.m := by unfold b01; cases p.m <;> rfl
  have hd : (p.row.map D.int).drop 14 = p.d.map D.int := by rw [← List.map_drop]; rfl
  have hl14 : ¬ ((p.row.length : Nat) : Int) < 14 := by omega
  have hl2 : ((p.row.length : Nat) : Int) - 14 = (p.d.length : Int) := by omega
  obtain ⟨_, C, e2, rfl, hC, f2⟩ := (packet_ok (A := B) h).ex
  unfold Pt.args at e2
  have ed : rw_ p.d = .tup (p.d.map D.int) := rfl
  rw [ed] at e2
  rw [er] at e1 t4 t6 t10 t12 hsum
  refine ⟨B.length, C, ?_, f1.le, hC, f1.trans f2⟩
  unfold F_packet_by
  rw [er]
  generalize p.row = rr at *
  generalize p.sum = ss at *
  generalize p.n = nn at *
  generalize b01 p.m = bm at *
  simp_arith [e1, hl14, -z4o, i8, i9, hm1, t10, hl2, t12, hsum, t4, t6, i0, i1, i2, i3, hmm, hd, e2]

/-! the net's making -/
theorem Fr.unlock {A B : Hs} {i : Nat} {u v : O} (h : Fr [] (A.set i v) B) (hA : A[i]? = some u) : Fr [] A (B.set i u) := by
  have hl := h.1
  rw [List.length_set] at hl
  have hi := lt_of_get hA
  refine ⟨by rw [List.length_set]; exact hl, fun j hj _ => ?_⟩
  by_cases q : i = j
  · subst q
    rw [za9 (by omega), hA]
  · rw [z3o q, h.2 j (by rw [List.length_set]; exact hj) (by simp), z3o q]
theorem Fr.unl {A H B : Hs} {i : Nat} {u : O} (hl : A.length ≤ H.length) (hk : ∀ j, j < A.length → j ≠ i → H[j]? = A[j]?) (h : Fr [] H B) (hA : A[i]? = some u) : Fr [] A (B.set i u) := by
  have h1 := h.1
  have hi := lt_of_get hA
  refine ⟨by rw [List.length_set]; omega, fun j hj _ => ?_⟩
  by_cases q : i = j
  · subst q
    rw [za9 (by omega), hA]
  · rw [z3o q, h.2 j (by omega) (by simp), hk j hj (Ne.symm q)]
theorem isi_dic {A : Hs} {i : Nat} {lk : Bool} {l : List (D × D)} {os xs : List String} {tb : List (String × String × Bool)} (h : A[i]? = some (.dic false lk l)) : oIsi os xs tb (.ref i) (.ty "dict") A = .ok (.bl true) A := by
  unfold oIsi isiD kdOf; simp only [h]; rfl
theorem is_place_ok {x : Int} {A : Hs} : F_is_place [.int x] A = .ok (.bl (decide (0 ≤ x) && decide (x ≤ 255))) A := by
  unfold F_is_place
  by_cases h : 0 ≤ x
  · simp_arith [h, Bool.true_and]
  · simp_arith [h, Bool.false_and]
theorem is_other_ok {x p : Int} {tb : Nat} {lk : Bool} {l : List (D × D)} {A : Hs} (h0 : 0 ≤ x) (h1 : x ≤ 255) (ht : A[tb]? = some (.dic false lk l)) (hx : (kget l (.int x)).isSome = true) (hne : ¬ x = p) : F_is_other [.int x, .int p, .ref tb] A = .ok (.bl true) A := by
  unfold F_is_other
  simp_arith [is_place_ok, h0, h1, ht, hx, hne]
theorem are_ways_ok {v tb : Nat} {p : Int} {lk : Bool} {l : List (D × D)} {L : List (Int × Int)} {A : Hs} (hv : A[v]? = some (.dic false false (L.map fun q => (D.int q.1, D.int q.2)))) (ht : A[tb]? = some (.dic false lk l)) (hvt : v ≠ tb)
    (hL : ∀ q ∈ L, (0 ≤ q.1 ∧ q.1 ≤ 255 ∧ (kget l (.int q.1)).isSome = true ∧ ¬ q.1 = p) ∧ (0 ≤ q.2 ∧ q.2 ≤ 255 ∧ (kget l (.int q.2)).isSome = true ∧ ¬ q.2 = p)) :
    Rk (F_are_ways [.ref v, .int p, .ref tb] A) fun w A1 => w = .bl true ∧ Fr [] A A1 := by
  have nv := lt_of_get hv
  have hiD : oIsi os_ xs_ tb_ (.ref v) (.ty "dict") A = .ok (.bl true) A := isi_dic hv
  unfold F_are_ways
  simp_arith [hiD, hv]
  refine for_go (R := fun rs => Rk (finR (seqR (ulR v rs) _)) _) (fun j e B => ∃ o3 o4, e = [some (.ref v), some (.int p), some (.ref tb), o3, o4] ∧ Fr [] (A.set v (.dic false true (L.map fun q => (D.int q.1, D.int q.2)))) B) ⟨none, none, rfl, .refl⟩ (fun i e B _ ⟨_, _, _, f⟩ => f.get (za9 nv) (by simp)) ?_ ?_
  · rintro j _ B d hd ⟨o3, o4, rfl, fB⟩
    rw [List.getElem?_map, List.getElem?_map] at hd
    obtain ⟨x, hx, rfl⟩ := Option.map_eq_some_iff.mp hd
    obtain ⟨q, hq, rfl⟩ := Option.map_eq_some_iff.mp hx
    obtain ⟨⟨a1, a2, a3, a4⟩, b1, b2, b3, b4⟩ := hL q (List.mem_of_getElem? hq)
    have ht' : B[tb]? = some (.dic false lk l) := fB.get (by rw [z3o hvt]; exact ht) (by simp)
    have e1 := is_other_ok (p := p) a1 a2 ht' a3 a4
    have e2 := is_other_ok (p := p) b1 b2 ht' b3 b4
    show Got _ _
    simp_arith [e1, e2]
    exact ⟨_, _, rfl, fB⟩
  · rintro _ B ⟨o3, o4, rfl, fB⟩
    have hB := fB.get (za9 nv) (by simp)
    simp_arith [hB]
    exact Fr.unlock fB hv
theorem need_table_ok {tb v1 v2 : Nat} {a b : Int} {A : Hs} (ha : 0 ≤ a ∧ a ≤ 255) (hb : 0 ≤ b ∧ b ≤ 255) (hab : a ≠ b) (ht : A[tb]? = some (.dic false false [(.int a, .ref v1), (.int b, .ref v2)])) (h1 : A[v1]? = some (.dic false false [(.int b, .int b)])) (h2 : A[v2]? = some (.dic false false [])) (n1 : v1 ≠ tb) (n2 : v2 ≠ tb) :
    Rk (F_need_table [.ref tb] A) fun w A1 => w = .non ∧ Fr [] A A1 := by
  have nt := lt_of_get ht
  have hiD : oIsi os_ xs_ tb_ (.ref tb) (.ty "dict") A = .ok (.bl true) A := isi_dic ht
  have ka : (kget [(D.int a, D.ref v1), (D.int b, D.ref v2)] (.int a)).isSome = true := by
    rw [z1b, z5u, decide_eq_true rfl]; rfl
  have kb : (kget [(D.int a, D.ref v1), (D.int b, D.ref v2)] (.int b)).isSome = true := by
    rw [z1b, z5u, decide_eq_false hab, if_neg (by simp), z1b, z5u, decide_eq_true rfl]; rfl
  unfold F_need_table
  simp_arith [hiD, ht]
  rw [lc_go (fun _ => true) (fun _ => .bl true) (by exact za9 nt) (by show 2 < 16000000; decide)]
  rotate_left
  · intro x hx
    simp only [List.mem_cons, List.not_mem_nil, or_false] at hx
    have : ∃ c : Int, x = .int c ∧ 0 ≤ c ∧ c ≤ 255 := by
      rcases hx with rfl | rfl
      · exact ⟨_, rfl, ha⟩
      · exact ⟨_, rfl, hb⟩
    obtain ⟨c, rfl, c1, c2⟩ := this
    show Got _ _
    simp_arith [is_place_ok, c1, c2]
    first | exact fun _ => rfl | exact fun _ => trivial | trivial
  rw [List.filter_eq_self.mpr (by simp)]
  have e2 : boolsOf ([D.int a, D.int b].map fun _ => D.bl true) = some [true, true] := rfl
  simp only [List.map_cons, List.map_nil] at e2
  simp_arith [e2]
  obtain ⟨Hh, hHh⟩ : ∃ Hh, Hh = ((A.set tb (.dic false true [(D.int a, D.ref v1), (D.int b, D.ref v2)])) ++ [O.lst [D.bl true, D.bl true]]).set tb (.dic false true [(D.int a, D.ref v1), (D.int b, D.ref v2)]) := ⟨_, rfl⟩
  have hl : A.length ≤ Hh.length := by rw [hHh, List.length_set, List.length_append, List.length_set]; omega
  have hk : ∀ j, j < A.length → j ≠ tb → Hh[j]? = A[j]? := fun j hj hn => by rw [hHh, z3o (Ne.symm hn), z76 (by rw [List.length_set]; exact hj), z3o (Ne.symm hn)]
  have htH : Hh[tb]? = some (.dic false true [(D.int a, D.ref v1), (D.int b, D.ref v2)]) := by rw [hHh]; exact za9 (by rw [List.length_append, List.length_set]; omega)
  rw [← hHh]
  clear hHh
  have h1H : Hh[v1]? = some (.dic false false [(.int b, .int b)]) := by rw [hk v1 (lt_of_get h1) n1]; exact h1
  have h2H : Hh[v2]? = some (.dic false false []) := by rw [hk v2 (lt_of_get h2) n2]; exact h2
  refine for_go (R := fun rs => Rk (finR (ulR tb rs)) _) (fun j e B => ∃ o1 o2, e = [some (.ref tb), o1, o2] ∧ Fr [] Hh B) ⟨none, none, rfl, .refl⟩ (fun i e B _ ⟨_, _, _, f⟩ => f.get htH (by simp)) ?_ ?_
  · rintro j _ B d hd ⟨o1, o2, rfl, fB⟩
    have htB := fB.get htH (by simp)
    have h1B := fB.get h1H (by simp)
    have h2B := fB.get h2H (by simp)
    have hj : j = 0 ∨ j = 1 := by
      have := lt_of_get hd
      simp only [List.length_cons, List.length_nil] at this
      omega
    rcases hj with rfl | rfl
    · cases hd
      obtain ⟨_, C, e1, rfl, f1⟩ := (are_ways_ok (p := a) (L := [(b, b)]) h1B htB n1 (fun q hq => by
        rw [List.mem_singleton] at hq
        subst hq
        exact ⟨⟨hb.1, hb.2, kb, fun z => hab z.symm⟩, hb.1, hb.2, kb, fun z => hab z.symm⟩)).ex
      show Got _ _
      simp_arith [e1]
      exact ⟨_, _, rfl, fB.trans f1⟩
    · cases hd
      obtain ⟨_, C, e1, rfl, f1⟩ := (are_ways_ok (p := b) (L := []) h2B htB n2 (fun q hq => by cases hq)).ex
      show Got _ _
      simp_arith [e1]
      exact ⟨_, _, rfl, fB.trans f1⟩
  · rintro _ B ⟨o1, o2, rfl, fB⟩
    have htB := fB.get htH (by simp)
    simp_arith [htB]
    exact Fr.unl hl hk fB ht
structure NA where
  nt : Nat
  wd : Nat
  w1 : Nat
  rd : Nat
  ls : Nat
  w2 : Nat
  o : Int
def NA.fs (N : NA) : List (String × D) := [("ways", .ref N.wd), ("code", .int 69665), ("oldest", .int N.o), ("roads", .ref N.rd)]
structure IsN (A : Hs) (N : NA) (a b : Int) (row : List Int) (ts : List (Nat × List Nat)) : Prop where
  o : A[N.nt]? = some (.obj "Net" N.fs)
  w : A[N.wd]? = some (.dic false false [(.int a, .ref N.w1), (.int b, .ref N.w2)])
  w1 : A[N.w1]? = some (.dic false false [(.int b, .int b)])
  rd : A[N.rd]? = some (.dic true false [(.tup [.int a, .int b], .ref N.ls)])
  ls : A[N.ls]? = some (.lst (ts.map fun t => .ref t.1))
  th : ∀ (i : Nat) t, ts[i]? = some t → A[t.1]? = some (.obj "Thing" (tfs row t.2)) ∧ t.2.length ≤ 3 ∧ t.2.Nodup ∧ ∀ p ∈ t.2, p < 8 * row.length + 16
  nd : (ts.map Prod.fst).Nodup
theorem init_ok {tb v1 v2 : Nat} {a b o : Int} {row : List Int} {A : Hs} (ha : 0 ≤ a ∧ a ≤ 255) (hb : 0 ≤ b ∧ b ≤ 255) (hab : a ≠ b) (ho : 0 ≤ o) (ht : A[tb]? = some (.dic false false [(.int a, .ref v1), (.int b, .ref v2)])) (h1 : A[v1]? = some (.dic false false [(.int b, .int b)])) (h2 : A[v2]? = some (.dic false false [])) (n1 : v1 ≠ tb) (n2 : v2 ≠ tb) (n12 : v1 ≠ v2) :
    Rk (make "Net" F_Net___init__ [.ref tb, .int 69665, .int o] A) fun v A1 => ∃ N : NA, v = .ref N.nt ∧ A.length ≤ N.nt ∧ A.length ≤ N.ls ∧ IsN A1 N a b row [] ∧ Fr [] A A1 := by
  refine Rk.make ?_
  obtain ⟨_, B, e1, rfl, f1⟩ := (need_table_ok (A := A ++ [O.obj "Net" []]) ha hb hab (get_push ht) (get_push h1) (get_push h2) n1 n2).ex
  have ew := width_ok (A := B) cn
  rw [bl_c] at ew
  have ew' : F_width [.int 69665] B = .ok (.int 16) B := ew
  have nB := f1.le
  rw [List.length_append, List.length_singleton] at nB
  have ntb := lt_of_get ht
  have nv1 := lt_of_get h1
  have nv2 := lt_of_get h2
  have htB := f1.get (get_push ht) (by simp)
  have h1B := f1.get (get_push h1) (by simp)
  have h2B := f1.get (get_push h2) (by simp)
  have hoB : B[A.length]? = some (.obj "Net" []) := f1.get z9p (by simp)
  have ho' : ¬ o < 0 := by omega
  unfold F_Net___init__
  simp_arith [e1, ew', ho', htB]
  obtain ⟨Hh, hHh⟩ : ∃ Hh, Hh = B.set tb (.dic false true [(D.int a, D.ref v1), (D.int b, D.ref v2)]) := ⟨_, rfl⟩
  have hlH : Hh.length = B.length := by rw [hHh, List.length_set]
  have hkH : ∀ j, j ≠ tb → Hh[j]? = B[j]? := fun j hn => by rw [hHh, z3o (Ne.symm hn)]
  have htH : Hh[tb]? = some (.dic false true [(D.int a, D.ref v1), (D.int b, D.ref v2)]) := by rw [hHh]; exact za9 (by omega)
  rw [← hHh]
  clear hHh
  have h1H : Hh[v1]? = some (.dic false false [(.int b, .int b)]) := by rw [hkH v1 n1]; exact h1B
  have h2H : Hh[v2]? = some (.dic false false []) := by rw [hkH v2 n2]; exact h2B
  have hoH : Hh[A.length]? = some (.obj "Net" []) := by rw [hkH _ (by omega)]; exact hoB
  refine Rk.call (P := fun acc C => acc = [D.tup [.int a, .ref Hh.length], .tup [.int b, .ref (Hh.length + 1)]] ∧ C = Hh ++ [O.dic false false [(.int b, .int b)]] ++ [O.dic false false []]) (fun r => Rk (finR (seqR (ofE _ (RE.bind (RE.bind (ulE tb (lc_ r)) _) _) _) _)) _)
    ((lc_run (fun j acc C => (j = 0 ∧ acc = [] ∧ C = Hh) ∨ (j = 1 ∧ acc = [D.tup [.int a, .ref Hh.length]] ∧ C = Hh ++ [O.dic false false [(.int b, .int b)]]) ∨ (j = 2 ∧ acc = [D.tup [.int a, .ref Hh.length], .tup [.int b, .ref (Hh.length + 1)]] ∧ C = Hh ++ [O.dic false false [(.int b, .int b)]] ++ [O.dic false false []])) (.inl ⟨rfl, rfl, rfl⟩) (by show 2 < 16000000; decide) ?_ ?_).mono ?_) ?_
  · rintro j acc C (⟨_, _, rfl⟩ | ⟨_, _, rfl⟩ | ⟨_, _, rfl⟩)
    · exact htH
    · exact get_push htH
    · exact get_push (get_push htH)
  · rintro j d hd acc C (⟨rfl, rfl, rfl⟩ | ⟨rfl, rfl, rfl⟩ | ⟨rfl, rfl, rfl⟩)
    · cases hd
      show Got _ _
      simp_arith [h1H]
    · cases hd
      have h2' : (Hh ++ [O.dic false false [(.int b, .int b)]])[v2]? = some (.dic false false []) := get_push h2H
      show Got _ _
      simp_arith [h2']
    · cases hd
  · rintro acc C (⟨h, _⟩ | ⟨h, _⟩ | ⟨_, h1, h2⟩)
    · cases h
    · cases h
    · exact ⟨h1, h2⟩
  · rintro _ _ ⟨rfl, rfl⟩
    have hpd : ∀ (C : Hs) (x y : Nat), od_ C (some (.lst [D.tup [.int a, .ref x], .tup [.int b, .ref y]])) = .ok (.ref C.length) (C ++ [O.dic false false [(.int a, .ref x), (.int b, .ref y)]]) := fun C x y => by
      show RE.ok (D.ref C.length) (C ++ [O.dic false false (kput (kput [] (.int a) (.ref x)) (.int b) (.ref y))]) = _
      have : kput (kput [] (.int a) (.ref x)) (.int b) (.ref y) = [(D.int a, D.ref x), (.int b, .ref y)] := by
        simp_arith [hab]
      rw [this]
    have ntH : tb < Hh.length := by omega
    have nAH : A.length < Hh.length := by omega
    have ntA : tb ≠ A.length := by omega
    simp_arith [htH, hpd, hoH]
    obtain ⟨n, hn⟩ : ∃ n, n = Hh.length := ⟨_, rfl⟩
    rw [← hn]
    generalize hZ : (List.set (List.set (List.set (Hh ++ [O.dic false false [(D.int b, D.int b)]] ++ [O.dic false false []] ++ [O.lst [D.tup [D.int a, D.ref n], D.tup [D.int b, D.ref (n + 1)]]]) tb (O.dic false false [(D.int a, D.ref v1), (D.int b, D.ref v2)]) ++ [O.dic false false [(D.int a, D.ref n), (D.int b, D.ref (n + 1))]]) A.length (O.obj "Net" [("ways", D.ref (n + 1 + 1 + 1)), ("code", D.int 69665), ("oldest", D.int o)]) ++ [O.dic true false []]) A.length (O.obj "Net" [("ways", D.ref (n + 1 + 1 + 1)), ("code", D.int 69665), ("oldest", D.int o), ("roads", D.ref (n + 1 + 1 + 1 + 1))])).set tb (O.dic false true [(D.int a, D.ref v1), (D.int b, D.ref v2)]) = Z
    have zl : Z.length = n + 5 := by rw [← hZ, hn]; simp only [List.length_set, List.length_append, List.length_singleton]
    have zo : Z[A.length]? = some (O.obj "Net" [("ways", D.ref (n + 1 + 1 + 1)), ("code", D.int 69665), ("oldest", D.int o), ("roads", D.ref (n + 1 + 1 + 1 + 1))]) := by rw [← hZ, hn]; simp_arith []
    have zt : Z[tb]? = some (O.dic false true [(D.int a, D.ref v1), (D.int b, D.ref v2)]) := by rw [← hZ, hn]; simp_arith []
    have z1 : Z[n]? = some (O.dic false false [(D.int b, D.int b)]) := by rw [← hZ, hn]; simp_arith []
    have zw : Z[n + 1 + 1 + 1]? = some (O.dic false false [(D.int a, D.ref n), (D.int b, D.ref (n + 1))]) := by rw [← hZ, hn]; simp_arith []
    have zr : Z[n + 1 + 1 + 1 + 1]? = some (O.dic true false []) := by rw [← hZ, hn]; simp_arith []
    have zk : ∀ j, j < A.length → j ≠ tb → Z[j]? = B[j]? := fun j hj hne => by rw [← hkH j hne, ← hZ, hn]; simp_arith []
    clear hZ
    have zv1 : Z[v1]? = some (.dic false false [(.int b, .int b)]) := by rw [zk v1 nv1 n1]; exact h1B
    have zv2 : Z[v2]? = some (.dic false false []) := by rw [zk v2 nv2 n2]; exact h2B
    have zA : ∀ j, j < A.length → j ≠ tb → Z[j]? = A[j]? := fun j hj hne => by
      rw [zk j hj hne, f1.2 j (by rw [List.length_append]; omega) (by simp), z76 hj]
    obtain ⟨K1, hK1⟩ : ∃ K1, K1 = [(D.int a, D.ref v1), (D.int b, D.ref v2)] := ⟨_, rfl⟩
    obtain ⟨Fs, hFs⟩ : ∃ Fs, Fs = [("ways", D.ref (n + 1 + 1 + 1)), ("code", D.int 69665), ("oldest", D.int o), ("roads", D.ref (n + 1 + 1 + 1 + 1))] := ⟨_, rfl⟩
    refine for_go (R := fun rs => Rk (finR (ulR tb rs)) _) (fun j e C => ∃ o4 o5 o6, e = [some (.ref A.length), some (.ref tb), some (.int 69665), some (.int o), o4, o5, o6] ∧ (j = 0 → C = Z) ∧ C[tb]? = some (O.dic false true [(D.int a, D.ref v1), (D.int b, D.ref v2)]) ∧ (1 ≤ j → C[A.length]? = some (O.obj "Net" Fs) ∧ C[n]? = some (O.dic false false [(D.int b, D.int b)]) ∧ C[n + 1 + 1 + 1]? = some (O.dic false false [(D.int a, D.ref n), (D.int b, D.ref (n + 1))]) ∧ C[n + 1 + 1 + 1 + 1]? = some (O.dic true false [(.tup [.int a, .int b], .ref (n + 5))]) ∧ C[n + 5]? = some (O.lst []) ∧ C[v2]? = some (.dic false false []) ∧ ∀ j, j < A.length → j ≠ tb → C[j]? = A[j]?))
      ⟨none, none, none, rfl, fun _ => rfl, zt, fun h => by omega⟩ (fun i e C _ ⟨_, _, _, _, _, h, _⟩ => h) ?_ ?_
    · rintro j _ C d hd ⟨o4, o5, o6, rfl, hC0, hCt, hC1⟩
      have hj : j = 0 ∨ j = 1 := by
        have := lt_of_get hd
        simp only [List.length_cons, List.length_nil] at this
        omega
      rcases hj with rfl | rfl
      · cases hd
        have hCZ := hC0 rfl
        subst hCZ
        have nz1 := lt_of_get zv1
        show Got _ _
        simp_arith [zv1]
        refine for_go (R := fun rs => Trn _ _ (ulR v1 rs)) (fun j e E => ∃ o6, e = [some (.ref A.length), some (.ref tb), some (.int 69665), some (.int o), some (.int a), some (.ref v1), o6] ∧ (j = 0 → E = C.set v1 (.dic false true [(.int b, .int b)])) ∧ (1 ≤ j → E = ((C.set v1 (.dic false true [(.int b, .int b)])) ++ [O.lst []]).set (n + 1 + 1 + 1 + 1) (O.dic true false [(.tup [.int a, .int b], .ref (n + 5))])))
          ⟨o6, rfl, fun _ => rfl, fun h => by omega⟩ ?_ ?_ ?_
        · rintro i e E hi ⟨_, _, h0, h1⟩
          rcases Nat.eq_zero_or_pos i with q | q
          · rw [h0 q]; exact za9 nz1
          · rw [h1 q, z3o (by omega), z76 (by rw [List.length_set]; exact nz1)]; exact za9 nz1
        · rintro i _ E d hd ⟨o6', rfl, h0, h1⟩
          have hi : i = 0 := by
            have := lt_of_get hd
            simp only [List.length_cons, List.length_nil] at this
            omega
          subst hi
          cases hd
          have hE := h0 rfl
          subst hE
          have nzr : n + 1 + 1 + 1 + 1 < C.length := by omega
          have nv1r : v1 ≠ n + 1 + 1 + 1 + 1 := by omega
          have nv1A : v1 ≠ A.length := by omega
          have kk : keyOk true (.tup [.int a, .int b]) = true := rfl
          show Got _ _
          simp_arith [zo, zr, kk]
          exact ⟨_, rfl, fun h => h.elim, fun _ => by rw [zl]⟩
        · rintro e E ⟨o6', rfl, h0, hh1⟩
          have hE := hh1 (Nat.le_refl 1)
          subst hE
          have nzr : n + 1 + 1 + 1 + 1 < C.length := by omega
          have hEv : (((C.set v1 (.dic false true [(.int b, .int b)])) ++ [O.lst []]).set (n + 1 + 1 + 1 + 1) (O.dic true false [(.tup [.int a, .int b], .ref (n + 5))]))[v1]? = some (.dic false true [(.int b, .int b)]) := by
            rw [z3o (by omega), z76 (by rw [List.length_set]; exact nz1)]; exact za9 nz1
          simp_arith [hEv]
          refine ⟨_, _, _, rfl, fun h => h.elim, zt, fun _ => ⟨by rw [hFs]; exact zo, z1, zw, zv2, ?_⟩⟩
          · intro j hj hne
            by_cases q : v1 = j
            · subst q
              rw [za9 (by rw [List.length_set, List.length_append, List.length_set]; omega), h1]
            · rw [z3o q, z3o (by omega), z76 (by rw [List.length_set]; omega), z3o q]; exact zA j hj hne
      · cases hd
        obtain ⟨c1, c2, c3, c4, c5, c6, c7⟩ := hC1 (Nat.le_refl 1)
        have nc2 := lt_of_get c6
        have same : C.set v2 (.dic false false []) = C := by
          refine List.ext_getElem? fun j => ?_
          by_cases q : v2 = j
          · subst q; rw [za9 nc2, c6]
          · rw [z3o q]
        have hlk : (C.set v2 (.dic false true []))[v2]? = some (.dic false true []) := za9 nc2
        have hfl : ∀ e, forL (gN 6) (sPut (eFld ["Net"] "roads" (eVar 0)) (eTup (aCons (eVar 4) (aCons (eVar 6) aNil))) (eLst aNil)) (fun A' => A'[v2]? = some (O.dic false true [])) [] e (C.set v2 (.dic false true [])) = .nx e (C.set v2 (.dic false true [])) := fun e => forL_nil hlk
        show Got _ _
        simp_arith [c6, hfl, same]
        exact ⟨_, _, _, rfl, fun h => h.elim, hCt, fun _ => ⟨c1, c2, c3, c4, c5, c7⟩⟩
    · rintro _ C ⟨o4, o5, o6, rfl, _, hCt, hC1⟩
      obtain ⟨c1, c2, c3, c4, c5, c6, c7⟩ := hC1 (show 1 ≤ 2 by decide)
      have nct := lt_of_get hCt
      have nc5 := lt_of_get c5
      simp_arith [hCt]
      refine ⟨⟨A.length, n + 1 + 1 + 1, n, n + 1 + 1 + 1 + 1, n + 5, n + 1, o⟩, rfl, Nat.le_refl _, by show A.length ≤ n + 5; omega, ⟨?_, ?_, ?_, ?_, ?_, fun i t h => by simp at h, by simp⟩, ?_⟩
      · show _ = some (O.obj "Net" _)
        rw [z3o ntA]
        rw [hFs] at c1
        exact c1
      · show (C.set tb _)[n + 1 + 1 + 1]? = _
        rw [z3o (by omega)]; exact c3
      · show (C.set tb _)[n]? = _
        rw [z3o (by omega)]; exact c2
      · show (C.set tb _)[n + 1 + 1 + 1 + 1]? = _
        rw [z3o (by omega)]; exact c4
      · show (C.set tb _)[n + 5]? = _
        rw [z3o (by omega)]; exact c5
      · refine ⟨by rw [List.length_set]; omega, fun j hj _ => ?_⟩
        by_cases q : tb = j
        · subst q; rw [za9 nct, ht]
        · rw [z3o q]; exact c7 j hj (Ne.symm q)

/-! the net's methods -/
open DL (Bytes)
structure AB (x y : Int) : Prop where
  ha : 0 ≤ x ∧ x ≤ 255
  hb : 0 ≤ y ∧ y ≤ 255
  ne : x ≠ y
section
variable {A : Hs} {N : NA} {a b : Int} {row : List Int} {ts : List (Nat × List Nat)}
theorem num_n {x l m : Int} {A : Hs} : F_is_number_nets [.int x, .int l, .int m] A = .ok (.bl (decide (l ≤ x) && decide (x ≤ m))) A := by
  unfold F_is_number_nets
  by_cases h : l ≤ x
  · simp_arith [h, Bool.true_and]
  · simp_arith [h, Bool.false_and]
theorem keq_tt {a b c d : Int} : keq (.tup [.int a, .int b]) (.tup [.int c, .int d]) = (decide (a = c) && decide (b = d)) := by
  unfold keq
  unfold keq.keqL
  unfold keq.keqL
  unfold keq.keqL
  simp [keq]
theorem road_ok (ab : AB a b) (h : IsN A N a b row ts) : F_Net_road [.ref N.nt, .int a, .int b] A = .ok (.ref N.ls) A := by
  have ho := h.o
  have hr := h.rd
  have a1 := ab.ha.1
  have a2 := ab.ha.2
  have b1 := ab.hb.1
  have b2 := ab.hb.2
  have kk : keyOk true (.tup [.int a, .int b]) = true := rfl
  have kg : kget [(D.tup [.int a, .int b], D.ref N.ls)] (.tup [.int a, .int b]) = some (.ref N.ls) := by
    rw [z1b, keq_tt]; simp
  unfold NA.fs at ho
  unfold F_Net_road
  simp_arith [num_n, a1, a2, b1, b2, ho, hr, kk, kg]
theorem thing_ok (ab : AB a b) (h : IsN A N a b row ts) {i : Nat} {t : Nat × List Nat} (ht : ts[i]? = some t) (hl : ts.length ≤ 1000) : F_Net_thing [.ref N.nt, .int a, .int b, .int (i : Int)] A = .ok (.ref t.1) A := by
  have ho := h.o
  have hs := h.ls
  have e := road_ok ab h
  have hi := lt_of_get ht
  have i1 : (0 : Int) ≤ (i : Int) := by omega
  have i2 : (i : Int) ≤ (ts.length : Int) - 1 := by omega
  have ga : atI (ts.map fun t => D.ref t.1) (i : Int) = some (.ref t.1) := by
    rw [z4o (by omega), Int.toNat_natCast, List.getElem?_map, ht]; rfl
  unfold NA.fs at ho
  unfold F_Net_thing
  simp_arith [ho, e, hs, num_n, i1, i2, ga, -z4o]
theorem push_set {A : Hs} {u v : O} : (A ++ [u]).set A.length v = A ++ [v] := by
  rw [List.set_append_right _ _ (Nat.le_refl _), Nat.sub_self]; rfl
theorem tfs_new {t : Nat} {ps : List Nat} {x : D} (hx : x = rw_ (ps.map fun p : Nat => (p : Int))) : Rk (make "Thing" F_Thing___init__ [rw_ row, .int 0, x] A) fun v A1 => v = .ref A.length ∧ A1 = A ++ [.obj "Thing" (tfs row ps)] := by
  refine Rk.make ?_
  unfold F_Thing___init__ tfs
  simp_arith [hx]
  exact push_set
/-- a thing more at the end -/
theorem IsN.more (h : IsN A N a b row ts) {B : Hs} {n : Nat} {ps : List Nat} (f : Fr [N.ls] A B) (hn : A.length ≤ n) (hl : B[N.ls]? = some (.lst ((ts ++ [(n, ps)]).map fun t => .ref t.1))) (ho : B[n]? = some (.obj "Thing" (tfs row ps))) (hp : ps.length ≤ 3 ∧ ps.Nodup ∧ ∀ p ∈ ps, p < 8 * row.length + 16) : IsN B N a b row (ts ++ [(n, ps)]) := by
  have nl : ∀ {j : Nat} {u : O}, A[j]? = some u → (∀ l, u ≠ .lst l) → B[j]? = some u := fun {j u} hj hu => f.get hj (by
    rw [List.mem_singleton]
    rintro rfl
    rw [h.ls] at hj
    cases hj
    exact hu _ rfl)
  refine ⟨nl h.o (fun l z => by cases z), nl h.w (fun l z => by cases z), nl h.w1 (fun l z => by cases z), nl h.rd (fun l z => by cases z), hl, fun i t hi => ?_, ?_⟩
  · rcases Nat.lt_or_ge i ts.length with q | q
    · rw [List.getElem?_append_left q] at hi
      obtain ⟨h1, h2⟩ := h.th i t hi
      exact ⟨nl h1 (fun l z => by cases z), h2⟩
    · rw [List.getElem?_append_right q] at hi
      have : t = (n, ps) := by
        have := List.mem_of_getElem? hi
        rw [List.mem_singleton] at this; exact this
      subst this
      exact ⟨ho, hp⟩
  · rw [List.map_append]
    refine List.nodup_append.mpr ⟨h.nd, by simp, fun x hx y hy => ?_⟩
    simp only [List.map_cons, List.map_nil, List.mem_singleton] at hy
    subst hy
    obtain ⟨t, ht, rfl⟩ := List.mem_map.mp hx
    obtain ⟨i, hi⟩ := List.getElem?_of_mem ht
    have := lt_of_get (h.th i t hi).1
    omega
theorem double_ok (ab : AB a b) (h : IsN A N a b row ts) {i : Nat} {t : Nat × List Nat} (ht : ts[i]? = some t) (hl : ts.length ≤ 1000) : ∃ A1, F_Net_double [.ref N.nt, .int a, .int b, .int (i : Int)] A = .ok .non A1 ∧ IsN A1 N a b row (ts ++ [(A.length, t.2)]) ∧ Fr [N.ls] A A1 := by
  have ho := h.o
  have hs := h.ls
  have e := road_ok ab h
  have e1 := thing_ok ab h ht hl
  obtain ⟨h1, h2⟩ := h.th i t ht
  have h1' := h1
  obtain ⟨_, A1, e2, rfl, rfl⟩ := (tfs_new (A := A) (row := row) (ps := t.2) (t := 0) rfl).ex
  have nls := lt_of_get hs
  have hs' : (A ++ [.obj "Thing" (tfs row t.2)])[N.ls]? = some (.lst (ts.map fun t => .ref t.1)) := get_push hs
  have hll : (ts.map fun t => D.ref t.1).length + 1 ≤ 16000000 := by rw [List.length_map]; omega
  obtain ⟨T, hT⟩ : ∃ T, T = tfs row t.2 := ⟨_, rfl⟩
  rw [← hT] at e2 hs'
  unfold tfs at h1'
  unfold NA.fs at ho
  refine ⟨(A ++ [O.obj "Thing" T]).set N.ls (O.lst ((ts.map fun t => D.ref t.1) ++ [D.ref A.length])), ?_, ?_, ?_⟩
  · unfold F_Net_double
    simp_arith [ho, e1, e, hs, h1', e2, hs', hll]
  · refine h.more (Fr.push.then_set (.inl (by simp))) (Nat.le_refl _) ?_ ?_ h2
    · rw [za9 (by rw [List.length_append]; omega), List.map_append]; rfl
    · rw [z3o (by omega), z9p, hT]
  · exact Fr.push.then_set (.inl (by simp))
theorem put_ok (ab : AB a b) (h : IsN A N a b row ts) {q : Nat} {p : Pt} (hp : p.Ok) (hr : p.row = row) (hpt : p.t = b) (hq : A[q]? = some (.obj "Packet" p.fs)) (hl : ts.length ≤ 1000) : ∃ A1, F_Net_put [.ref N.nt, .int a, .ref q] A = .ok .non A1 ∧ IsN A1 N a b row (ts ++ [(A.length, [])]) ∧ Fr [N.ls] A A1 := by
  have ho := h.o
  have hs := h.ls
  have hw := h.w
  have hw1 := h.w1
  have hrd := h.rd
  have a1 := ab.ha.1
  have a2 := ab.ha.2
  have e0 := packet_bytes_ok hp hq
  rw [hr] at e0
  obtain ⟨_, A1, e2, rfl, rfl⟩ := (tfs_new (A := A) (row := row) (ps := []) (t := 0) rfl).ex
  have nls := lt_of_get hs
  have hs' : (A ++ [.obj "Thing" (tfs row [])])[N.ls]? = some (.lst (ts.map fun t => .ref t.1)) := get_push hs
  have hll : (ts.map fun t => D.ref t.1).length + 1 ≤ 16000000 := by rw [List.length_map]; omega
  obtain ⟨T, hT⟩ : ∃ T, T = tfs row [] := ⟨_, rfl⟩
  rw [← hT] at e2 hs'
  have kk : keyOk true (.tup [.int a, .int b]) = true := rfl
  have kg : kget [(D.tup [.int a, .int b], D.ref N.ls)] (.tup [.int a, .int b]) = some (.ref N.ls) := by
    rw [z1b, keq_tt]; simp
  have kw : kget [(D.int a, D.ref N.w1), (D.int b, D.ref N.w2)] (.int a) = some (.ref N.w1) := by
    rw [z1b, z5u, decide_eq_true rfl]; rfl
  have kb : kget [(D.int b, D.int b)] (.int b) = some (.int b) := by
    rw [z1b, z5u, decide_eq_true rfl]; rfl
  have hl0 : (0 : Int) < p.l := by have := hp.l; omega
  have ee : rw_ [] = .tup [] := rfl
  have ee2 : (List.map (fun p : Nat => (p : Int)) []) = [] := rfl
  rw [ee2, ee] at e2
  unfold Pt.fs at hq
  rw [hpt] at hq
  unfold NA.fs at ho
  refine ⟨(A ++ [O.obj "Thing" T]).set N.ls (O.lst ((ts.map fun t => D.ref t.1) ++ [D.ref A.length])), ?_, ?_, ?_⟩
  · unfold F_Net_put
    simp_arith [num_n, a1, a2, ho, hw, kw, hq, hw1, kb, hl0, hrd, kk, kg, e0, e2, hs, hs', hll, Option.getD_some]
  · refine h.more (Fr.push.then_set (.inl (by simp))) (Nat.le_refl _) ?_ ?_ ⟨by simp, by simp, by simp⟩
    · rw [za9 (by rw [List.length_append]; omega), List.map_append]; rfl
    · rw [z3o (by omega), z9p, hT]
  · exact Fr.push.then_set (.inl (by simp))
end

/-! turning, bringing -/
open DL (Bytes bl dv gN)
section
variable {A : Hs} {N : NA} {a b : Int} {row : List Int} {ts : List (Nat × List Nat)}
def nI (ps : List Nat) : List Int := ps.map fun p : Nat => (p : Int)
structure PsOk (row : List Int) (ps : List Nat) : Prop where
  h1 : 1 ≤ ps.length
  h3 : ps.length ≤ 3
  nd : ps.Nodup
  hb : ∀ p ∈ ps, p < 8 * row.length + 16
theorem unlike_nd {ps : List Nat} (h : ps.Nodup) : ¬ ((L2.unlike (nI ps) : Nat) : Int) < (((nI ps).length : Nat) : Int) := by
  have e := L2.unlike_lt (ns := nI ps)
  have h2 : (nI ps).Nodup := List.Pairwise.map _ (fun x y hxy => by omega) h
  rw [decide_eq_true h2] at e
  have := of_decide_eq_false e
  omega
theorem IsN.frame {B : Hs} (h : IsN A N a b row ts) (f : Fr [] A B) : IsN B N a b row ts :=
  ⟨f.get h.o (by simp), f.get h.w (by simp), f.get h.w1 (by simp), f.get h.rd (by simp), f.get h.ls (by simp), fun i t ht => ⟨f.get (h.th i t ht).1 (by simp), (h.th i t ht).2⟩, h.nd⟩
theorem IsN.pushed (h : IsN A N a b row ts) (u : O) : IsN (A ++ [u]) N a b row ts := h.frame .push
/-- a thing's places set -/
theorem IsN.turned (h : IsN A N a b row ts) {i : Nat} {t : Nat × List Nat} {ps : List Nat} (ht : ts[i]? = some t) (hp : PsOk row ps) : IsN (A.set t.1 (.obj "Thing" (tfs row ps))) N a b row (ts.set i (t.1, ps)) := by
  obtain ⟨h1, h2⟩ := h.th i t ht
  have n1 := lt_of_get h1
  have hi := lt_of_get ht
  have oth : ∀ {j : Nat} {u : O}, A[j]? = some u → (∀ fs, u ≠ .obj "Thing" fs) → (A.set t.1 (.obj "Thing" (tfs row ps)))[j]? = some u := fun {j u} hj hu => by
    rw [z3o (fun e => by rw [← e, h1] at hj; cases hj; exact hu _ rfl)]
    exact hj
  have em : (ts.set i (t.1, ps)).map Prod.fst = ts.map Prod.fst := by
    rw [List.map_set]
    refine List.ext_getElem? fun j => ?_
    by_cases q : i = j
    · subst q
      rw [List.getElem?_set_self (by rw [List.length_map]; exact hi), List.getElem?_map, ht]; rfl
    · rw [List.getElem?_set_ne q]
  have em2 : (ts.set i (t.1, ps)).map (fun t => D.ref t.1) = ts.map fun t => D.ref t.1 := by
    have := congrArg (List.map D.ref) em
    rw [List.map_map, List.map_map] at this
    exact this
  refine ⟨oth h.o (fun fs z => by injection z with z1; exact absurd z1 (by decide)), oth h.w (fun fs z => by cases z), oth h.w1 (fun fs z => by cases z), oth h.rd (fun fs z => by cases z), ?_, fun j t' hj => ?_, by rw [em]; exact h.nd⟩
  · rw [em2]
    exact oth h.ls (fun fs z => by cases z)
  · by_cases q : i = j
    · subst q
      rw [List.getElem?_set_self hi] at hj
      cases hj
      exact ⟨za9 n1, hp.h3, hp.nd, hp.hb⟩
    · rw [List.getElem?_set_ne q] at hj
      obtain ⟨g1, g2⟩ := h.th j t' hj
      refine ⟨?_, g2⟩
      rw [z3o (fun e => ?_)]
      · exact g1
      · refine q ((List.getElem?_inj (by rw [List.length_map]; exact hi) h.nd).mp ?_)
        rw [List.getElem?_map, List.getElem?_map, ht, hj]
        exact congrArg some e
theorem oNe_row {l k : List Int} {A : Hs} : oNe (.tup (l.map D.int)) (.tup (k.map D.int)) A = .ok (.bl (!decide (l = k))) A := oNe_rows
theorem turn_ok (ab : AB a b) (h : IsN A N a b row ts) {i bp : Nat} {t : Nat × List Nat} {ps : List Nat} (ht : ts[i]? = some t) (hl : ts.length ≤ 1000) (hp : PsOk row ps) (hbp : A[bp]? = some (.lst ((nI ps).map D.int))) (hn : t.2 = []) :
    ∃ A1, F_Net_turn [.ref N.nt, .int a, .int b, .int (i : Int), .ref bp] A = .ok .non A1 ∧ IsN A1 N a b row (ts.set i (t.1, ps)) ∧ Fr [t.1] A A1 := by
  have ho := h.o
  have e1 := thing_ok ab h ht hl
  obtain ⟨h1, h2⟩ := h.th i t ht
  have h1' := h1
  have nbp := lt_of_get hbp
  have hil := (isi_l (os := os_) (xs := xs_) (tb := tb_) hbp).1
  have hpl : (nI ps).length = ps.length := List.length_map _
  have p1 : (1 : Int) ≤ (ps.length : Int) := by have := hp.h1; omega
  have p3 : (ps.length : Int) ≤ 3 := by have := hp.h3; omega
  have hne : oNe (.tup []) (.tup []) A = .ok (.bl false) A := oNe_row (l := []) (k := [])
  have hun := unlike_nd hp.nd
  rw [hpl] at hun
  have hlu : (nI ps).length ≤ 4000 := by have := hp.h3; omega
  unfold tfs at h1'
  rw [hn] at h1'
  have et : rw_ ((([] : List Nat)).map fun p : Nat => (p : Int)) = .tup [] := rfl
  rw [et] at h1'
  unfold NA.fs at ho
  unfold F_Net_turn
  simp_arith [ho, e1, hil, hbp, hpl, p1, p3, h1', hne]
  rw [lc_go (fun _ => true) (fun _ => .bl true) (by exact hbp) (by rw [List.length_map, hpl]; omega)]
  rotate_left
  · intro x hx
    obtain ⟨y, hy, rfl⟩ := List.mem_map.mp hx
    obtain ⟨p, hpm, rfl⟩ := List.mem_map.mp hy
    have hb := hp.hb p hpm
    have q1 : (0 : Int) ≤ (p : Int) := by omega
    have q2 : (p : Int) ≤ ((8 * row.length + 16 : Nat) : Int) - 1 := by omega
    have eh := how_many_ok (A := A) h1
    show Got _ _
    simp_arith [h1', ho, eh, num_n, q1, q2]
    first | exact fun _ => rfl | exact fun _ => trivial | trivial
  rw [List.filter_eq_self.mpr (by simp)]
  have e3 : ((nI ps).map D.int).map (fun _ => D.bl true) = ((nI ps).map fun _ => true).map D.bl := by rw [List.map_map, List.map_map]; rfl
  have e4 : boolsOf (((nI ps).map D.int).map fun _ => D.bl true) = some ((nI ps).map fun _ => true) := by rw [e3, z00]
  have e5 : ((nI ps).map fun _ => true).all id = true := by simp
  have n1 := lt_of_get h1
  have etf : [("row", rw_ row), ("years", D.int 0), ("places", D.tup ((nI ps).map D.int))] = tfs row ps := rfl
  refine ⟨(A ++ [O.lst (((nI ps).map D.int).map fun _ => D.bl true)]).set t.1 (.obj "Thing" (tfs row ps)), ?_, ?_, ?_⟩
  · simp_arith [e4, e5, hbp, h1', hun, hlu, z0o, hpl, etf]
  · have hA := h.pushed (O.lst (((nI ps).map D.int).map fun _ => D.bl true))
    exact hA.turned ht hp
  · exact Fr.push.then_set (.inl (by simp))
theorem turn_no (ab : AB a b) (h : IsN A N a b row ts) {i bp : Nat} {t : Nat × List Nat} {ps : List Nat} (ht : ts[i]? = some t) (hl : ts.length ≤ 1000) (hp : PsOk row ps) (hbp : A[bp]? = some (.lst ((nI ps).map D.int))) (hn : t.2 ≠ []) :
    F_Net_turn [.ref N.nt, .int a, .int b, .int (i : Int), .ref bp] A = .exc "NoPlace" A := by
  have ho := h.o
  have e1 := thing_ok ab h ht hl
  obtain ⟨h1, h2⟩ := h.th i t ht
  have h1' := h1
  have hil := (isi_l (os := os_) (xs := xs_) (tb := tb_) hbp).1
  have hpl : (nI ps).length = ps.length := List.length_map _
  have p1 : (1 : Int) ≤ (ps.length : Int) := by have := hp.h1; omega
  have p3 : (ps.length : Int) ≤ 3 := by have := hp.h3; omega
  have hnn : ¬ nI t.2 = [] := fun z => hn (List.map_eq_nil_iff.mp z)
  have hne : oNe (.tup ((nI t.2).map D.int)) (.tup []) A = .ok (.bl true) A := by
    have := oNe_row (l := nI t.2) (k := []) (A := A)
    rw [decide_eq_false hnn] at this
    exact this
  have et : tfs row t.2 = [("row", rw_ row), ("years", .int 0), ("places", .tup ((nI t.2).map D.int))] := rfl
  rw [et] at h1'
  unfold NA.fs at ho
  unfold F_Net_turn
  simp_arith [ho, e1, hil, hbp, hpl, p1, p3, h1', hne]
theorem l_turn_ok (ab : AB a b) (h : IsN A N a b row ts) {i bp pl : Nat} {t : Nat × List Nat} {ps : List Nat} (ht : ts[i]? = some t) (hl : ts.length ≤ 1000) (hp : PsOk row ps) (hbp : A[bp]? = some (.lst ((nI ps).map D.int))) (hpl : A[pl]? = some (.lst [.int a, .int b])) :
    ∃ A1 ts', F_l_turn [.ref N.nt, .ref pl, .int (i : Int), .ref bp] A = .ok (.bl (decide (t.2 = []))) A1 ∧ IsN A1 N a b row ts' ∧ Fr [t.1] A A1 ∧ (if t.2 = [] then ts' = ts.set i (t.1, ps) else ts' = ts) := by
  have ho := h.o
  have npl := lt_of_get hpl
  unfold NA.fs at ho
  have ga : atI [D.int a, D.int b] 0 = some (.int a) := rfl
  have gb : atI [D.int a, D.int b] 1 = some (.int b) := rfl
  by_cases q : t.2 = []
  · obtain ⟨A1, e1, hN, f1⟩ := turn_ok ab h ht hl hp hbp q
    refine ⟨A1, _, ?_, hN, f1, by rw [if_pos q]⟩
    rw [decide_eq_true q]
    unfold F_l_turn
    simp_arith [hpl, ho, e1, ga, gb, -z4o]
  · have e1 := turn_no ab h ht hl hp hbp q
    refine ⟨A, _, ?_, h, .refl, by rw [if_neg q]⟩
    rw [decide_eq_false q]
    have h1 : oIsi os_ xs_ tb_ (.exc "NoPlace") (.nm "NoPlace") = fun A => .ok (.bl true) A := rfl
    unfold F_l_turn
    simp_arith [hpl, ho, e1, ga, gb, -z4o, h1]
end

/-! things read, brought -/
open DL (Bytes bl dv gN)
theorem popAt_l {A : Hs} {i : Nat} {l : List D} {j : Int} {d : D} (h : A[i]? = some (.lst l)) (hj : 0 ≤ j) (hd : l[j.toNat]? = some d) (hl : l.length < 1000000000) : oPopAt (.ref i) [.int j] A = .ok d (A.set i (.lst (l.eraseIdx j.toNat))) := by
  have hlt := lt_of_get hd
  have e : lstAt A (.ref i) = some (i, l) := by rw [z3d, h]; rfl
  have e2 : seqIndex? j l.length = some j.toNat := by
    have h0 : (if j < 0 then j + (l.length : Int) else j) = j := if_neg (by omega)
    unfold seqIndex?
    simp only [h0]
    rw [if_pos (by simp; omega)]
  unfold oPopAt
  rw [e]
  simp only [e2, hd]
  rw [if_pos (by omega)]
theorem eraseIdx_map' {α : Type} (f : α → D) : ∀ (L : List α) (i : Nat), (L.map f).eraseIdx i = (L.eraseIdx i).map f
  | [], _ => rfl
  | a :: L, 0 => rfl
  | a :: L, i + 1 => by rw [List.map_cons, List.eraseIdx_cons_succ, List.eraseIdx_cons_succ, List.map_cons, eraseIdx_map' f L i]
section
variable {A : Hs} {N : NA} {a b : Int} {row : List Int} {ts : List (Nat × List Nat)}
theorem read_plain {t : Nat} {p : Pt} (hp : p.Ok) (h : A[t]? = some (.obj "Thing" (tfs p.row []))) : ∃ q A1, F_Thing_read_packet [.ref t, .int 69665] A = .ok (.ref q) A1 ∧ A.length ≤ q ∧ A1[q]? = some (.obj "Packet" p.fs) ∧ Fr [] A A1 := by
  obtain ⟨q, A1, e1, hq, hA1, f1⟩ := packet_by_ok (A := A) hp
  refine ⟨q, A1, ?_, hq, hA1, f1⟩
  have et : tfs p.row [] = [("row", rw_ p.row), ("years", .int 0), ("places", .tup [])] := rfl
  have hne : oNe (.tup []) (.tup []) A = .ok (.bl false) A := oNe_row (l := []) (k := [])
  rw [et] at h
  unfold F_Thing_read_packet
  simp_arith [h, hne, e1]
theorem read_turned {t : Nat} {ps : List Nat} (hb : Bytes row) (hl : row.length ≤ 1020) (hp : PsOk row ps) (h : A[t]? = some (.obj "Thing" (tfs row ps))) : ∃ A1, F_Thing_read_packet [.ref t, .int 69665] A = .ok .non A1 ∧ Fr [] A A1 := by
  obtain ⟨A1, e1, f1⟩ := row_bits_ok hb hl h hp.hb hp.h3
  have hbb : DL.Bits (flps (cr row) ps) := flps_bits cr_bits fun p hpm => by rw [cr_len]; exact hp.hb p hpm
  have hll : (flps (cr row) ps).length = 8 * row.length + 16 := by rw [flps_len, cr_len]
  obtain ⟨A2, e2, f2⟩ := is_right_ok (A := A1) cn hbb (by omega)
  have hz := cr_seen hl hp.nd hp.h1 hp.h3 hp.hb
  rw [decide_eq_false hz] at e2
  have e2' : F_is_right [rw_ (flps (cr row) ps), .int 69665] A1 = .ok (.bl false) A2 := e2
  refine ⟨A2, ?_, f1.trans f2⟩
  have et : tfs row ps = [("row", rw_ row), ("years", .int 0), ("places", .tup ((nI ps).map D.int))] := rfl
  have hnn : ¬ nI ps = [] := fun z => by
    have e := List.map_eq_nil_iff.mp z
    have := hp.h1
    rw [e] at this
    exact absurd this (by decide)
  have hne : oNe (.tup ((nI ps).map D.int)) (.tup []) A = .ok (.bl true) A := by
    have := oNe_row (l := nI ps) (k := []) (A := A)
    rw [decide_eq_false hnn] at this
    exact this
  rw [et] at h
  unfold F_Thing_read_packet
  simp_arith [h, hne, e1, e2']
/-- a thing taken off -/
theorem IsN.less (h : IsN A N a b row ts) {i : Nat} (hi : i < ts.length) : IsN (A.set N.ls (.lst ((ts.eraseIdx i).map fun t => .ref t.1))) N a b row (ts.eraseIdx i) := by
  have n1 := lt_of_get h.ls
  have oth : ∀ {j : Nat} {u : O}, A[j]? = some u → (∀ l, u ≠ .lst l) → (A.set N.ls (.lst ((ts.eraseIdx i).map fun t => .ref t.1)))[j]? = some u := fun {j u} hj hu => by
    rw [z3o (fun e => by rw [← e, h.ls] at hj; cases hj; exact hu _ rfl)]
    exact hj
  refine ⟨oth h.o (fun l z => by cases z), oth h.w (fun l z => by cases z), oth h.w1 (fun l z => by cases z), oth h.rd (fun l z => by cases z), za9 n1, fun j t hj => ?_, ?_⟩
  · have hm : t ∈ ts := List.mem_of_mem_eraseIdx (List.mem_of_getElem? hj)
    obtain ⟨k, hk⟩ := List.getElem?_of_mem hm
    obtain ⟨h1, h2⟩ := h.th k t hk
    exact ⟨oth h1 (fun l z => by cases z), h2⟩
  · exact h.nd.sublist ((List.eraseIdx_sublist _ _).map _)
theorem bring_ok (ab : AB a b) {p : Pt} (hp : p.Ok) (hpt : p.t = b) (h : IsN A N a b p.row ts) {i : Nat} {t : Nat × List Nat} (ht : ts[i]? = some t) (hl : ts.length ≤ 1000) (hps : t.2 ≠ [] → PsOk p.row t.2) :
    ∃ v A1, F_Net_bring [.ref N.nt, .int a, .int b, .int (i : Int)] A = .ok v A1 ∧ IsN A1 N a b p.row (ts.eraseIdx i) ∧ Fr [N.ls] A A1 ∧ (if t.2 = [] then ∃ q, v = .ref q ∧ A1[q]? = some (.obj "Packet" p.fs) ∧ A.length ≤ q else v = .non) := by
  have ho := h.o
  have e1 := thing_ok ab h ht hl
  obtain ⟨h1, h2⟩ := h.th i t ht
  have hi := lt_of_get ht
  have hrl : p.row.length ≤ 1020 := by rw [p.row_len]; have := hp.dl; omega
  unfold NA.fs at ho
  by_cases q : t.2 = []
  · rw [q] at h1
    obtain ⟨k, B, e2, hk, hB, fB⟩ := read_plain hp h1
    have hN := h.frame fB
    have e3 := road_ok ab hN
    have hoB := fB.get ho (by simp)
    have hls := hN.ls
    have nls := lt_of_get hls
    have nk := lt_of_get hB
    have hkl : k ≠ N.ls := by rintro rfl; rw [hls] at hB; cases hB
    have ep := popAt_l (j := (i : Int)) (d := .ref t.1) hls (by omega) (by rw [Int.toNat_natCast, List.getElem?_map, ht]; rfl) (by rw [List.length_map]; omega)
    rw [Int.toNat_natCast, eraseIdx_map'] at ep
    have hTh : A[t.1]? = some (.obj "Thing" [("row", rw_ p.row), ("years", .int 0), ("places", .tup [])]) := h1
    have hBk : (B.set N.ls (O.lst ((ts.eraseIdx i).map fun t => D.ref t.1)))[k]? = some (.obj "Packet" p.fs) := by rw [z3o (Ne.symm hkl)]; exact hB
    have hpf : p.fs = [("source", .int p.s), ("target", .int b), ("kind", .int p.k), ("life", .int p.l), ("name", .int p.n), ("first", .int 0), ("more", .bl p.m), ("data", rw_ p.d)] := by rw [← hpt]; rfl
    have hBk' := hBk
    rw [hpf] at hBk'
    refine ⟨.ref k, _, ?_, hN.less hi, (fB.mono (by simp)).then_set (.inl (by simp)), by rw [if_pos q]; exact ⟨k, rfl, hBk, hk⟩⟩
    unfold F_Net_bring
    simp_arith [ho, e1, hTh, e2, hoB, e3, hls, ep, hBk']
  · obtain ⟨B, e2, fB⟩ := read_turned hp.row hrl (hps q) h1
    have hN := h.frame fB
    have e3 := road_ok ab hN
    have hoB := fB.get ho (by simp)
    have hls := hN.ls
    have nls := lt_of_get hls
    have ep := popAt_l (j := (i : Int)) (d := .ref t.1) hls (by omega) (by rw [Int.toNat_natCast, List.getElem?_map, ht]; rfl) (by rw [List.length_map]; omega)
    rw [Int.toNat_natCast, eraseIdx_map'] at ep
    have hTh : A[t.1]? = some (.obj "Thing" [("row", rw_ p.row), ("years", .int 0), ("places", .tup ((nI t.2).map D.int))]) := h1
    refine ⟨.non, _, ?_, hN.less hi, (fB.mono (by simp)).then_set (.inl (by simp)), by rw [if_neg q]⟩
    unfold F_Net_bring
    simp_arith [ho, e1, hTh, e2, hoB, e3, hls, ep]
end

/-! what is drawn; all that lies -/
open DL (Bytes bl dv gN)
theorem l_bits_ok {A : Hs} {i many : Nat} {row : List Int} (d : Drw A i) (hm : many = 8 * row.length + 16) (hr : row.length ≤ 1020) : Rk (F_l_bits [.ref i, .int (many : Int)] A) fun v A1 => ∃ q ps, v = .ref q ∧ A.length ≤ q ∧ PsOk row ps ∧ A1[q]? = some (.lst ((nI ps).map D.int)) ∧ Drw A1 i ∧ Fr [i] A A1 := by
  have hi := d.lt
  obtain ⟨off, B, a1, b1, e1, d1, f1⟩ := next_ok (n := (many : Int)) d (by omega) (by omega)
  obtain ⟨cn_, B2, a2, b2, e2, d2, f2⟩ := next_ok (n := 3) (d1.pushed (x := .lst [])) (by decide) (by decide)
  have nB := f1.le
  have hB2 : B2[B.length]? = some (.lst []) := f2.get z9p (by simp; omega)
  have hcnt : (1 + cn_).toNat ≤ 3 := by omega
  have hcnt1 : 1 ≤ (1 + cn_).toNat := by omega
  unfold F_l_bits
  simp_arith [e1, e2]
  refine for_go (R := fun rs => Rk (finR (seqR rs _)) _) (fun j e C => ∃ (ps : List Nat) (o4 o5 : Option D), e = [some (.ref i), some (.int (many : Int)), some (.int off), some (.ref B.length), o4, o5] ∧ C[B.length]? = some (.lst ((nI ps).map D.int)) ∧ ps.length ≤ j ∧ (1 ≤ j → 1 ≤ ps.length) ∧ ps.Nodup ∧ (∀ p ∈ ps, p < many) ∧ Drw C i ∧ Fr [i] A C)
    ⟨[], none, none, rfl, hB2, Nat.le_refl _, fun h => by omega, List.nodup_nil, (fun p hp => by cases hp), d2, (f1.then_push).trans f2⟩ (fun _ _ _ _ _ => trivial) ?_ ?_
  · rintro j _ C d hd ⟨ps, o4, o5, rfl, hC, hl, h1, hnd, hb, dC, fC⟩
    obtain ⟨rfl, hj⟩ := rgL_get hd
    obtain ⟨v2, C1, x2, y2, g2, dd2, ff2⟩ := next_ok (n := (many : Int)) dC (by omega) (by omega)
    obtain ⟨v3, C2, x3, y3, g3, dd3, ff3⟩ := next_ok (n := 20) dd2 (by decide) (by decide)
    have n2 := dd3.lt
    have e0 : (0 : Int) + (j : Nat) * 1 = (j : Nat) := by omega
    rw [e0]
    obtain ⟨w, hw⟩ : ∃ w : Int, w = (off + v3) % (many : Int) := ⟨_, rfl⟩
    have hw0 : 0 ≤ w ∧ w < (many : Int) := by rw [hw]; exact ⟨Int.emod_nonneg _ (by omega), Int.emod_lt_of_pos _ (by omega)⟩
    obtain ⟨v4, C3, x4, y4, g4, dd4, ff4⟩ := next_ok (n := 4) (dd3.pushed (x := .lst ([off, v2, w, (many : Int) - 1 - (j : Nat)].map D.int))) (by decide) (by decide)
    have hL : C3[C2.length]? = some (.lst ([off, v2, w, (many : Int) - 1 - (j : Nat)].map D.int)) := ff4.get z9p (by simp; omega)
    obtain ⟨x, hx, c1⟩ := pick_i (ns := [off, v2, w, (many : Int) - 1 - (j : Nat)]) x4 y4
    have hx0 : 0 ≤ x ∧ x < (many : Int) := by
      simp only [List.mem_cons, List.not_mem_nil, or_false] at hx
      rcases hx with rfl | rfl | rfl | rfl
      · omega
      · omega
      · omega
      · omega
    have hC3 : C3[B.length]? = some (.lst ((nI ps).map D.int)) := ff4.get (get_push (ff3.get (ff2.get hC (by simp; omega)) (by simp; omega))) (by simp; omega)
    have nB3 := lt_of_get hC3
    have fA : Fr [i] A C3 := ((fC.trans ff2).trans ff3).trans (Fr.push.trans ff4)
    have hni : B.length ≠ i := by omega
    simp only [List.map_cons, List.map_nil] at c1 hL g4
    have hin := z2j (A := C3) (p := x) (ns := nI ps) (neg := true)
    have hll : ((nI ps).map D.int).length + 1 ≤ 16000000 := by
      have : (nI ps).length = ps.length := List.length_map _
      rw [List.length_map, this]
      omega
    by_cases q : x ∈ nI ps
    · show Got _ _
      simp_arith [g2, g3, ← hw, g4, hL, c1, -z4o, hC3]
      rw [if_neg (fun z => z q)]
      refine ⟨ps, _, _, rfl, hC3, by omega, fun _ => ?_, hnd, hb, dd4, fA⟩
      obtain ⟨p, hp, _⟩ := List.mem_map.mp q
      exact List.length_pos_of_mem hp
    · show Got _ _
      simp_arith [g2, g3, ← hw, g4, hL, c1, -z4o, hC3]
      obtain ⟨p, rfl⟩ : ∃ p : Nat, x = (p : Int) := ⟨x.toNat, by omega⟩
      have hpn : p ∉ ps := fun z => q (List.mem_map.mpr ⟨p, z, rfl⟩)
      refine ⟨ps ++ [p], _, _, rfl, ?_, by rw [List.length_append, List.length_singleton]; omega, fun _ => by rw [List.length_append, List.length_singleton]; omega, ?_, ?_, dd4.frame (s := [B.length]) (.set (by simp)) (by simp; omega), fA.then_set (.inr (by omega))⟩
      · unfold nI
        rw [List.map_append, List.map_append]
        rfl
      · exact List.nodup_append.mpr ⟨hnd, by simp, fun y hy z hz e => by
          rw [List.mem_singleton] at hz
          rw [e, hz] at hy
          exact hpn hy⟩
      · intro y hy
        rcases List.mem_append.mp hy with h | h
        · exact hb y h
        · rw [List.mem_singleton] at h; omega
  · rintro _ C ⟨ps, o4, o5, rfl, hC, hl, h1, hnd, hb, dC, fC⟩
    rw [rgL_len] at hl h1
    simp_arith []
    exact ⟨B.length, ps, rfl, by omega, ⟨h1 hcnt1, by omega, hnd, fun p hp => by have := hb p hp; omega⟩, hC, dC, fC⟩
section
variable {A : Hs} {N : NA} {a b : Int} {row : List Int} {ts : List (Nat × List Nat)}
theorem things_ok (ab : AB a b) {t : Nat} (h : IsN A N a b row [(t, [])]) (hb : Bytes row) (hr : row.length ≤ 1020) : ∃ A1 q, F_Net_things [.ref N.nt, .int a, .int b] A = .ok (.ref q) A1 ∧ A1[q]? = some (.lst [.tup [.int 0, rw_ (cr row)]]) ∧ Fr [] A A1 := by
  have ho := h.o
  have e1 := road_ok ab h
  have hls := h.ls
  have h1 := (h.th 0 _ rfl).1
  obtain ⟨B, e2, f2⟩ := row_bits_ok (ps := []) hb hr h1 (by simp) (by simp)
  have hlsB := f2.get hls (by simp)
  have et : tfs row [] = [("row", rw_ row), ("years", .int 0), ("places", .tup [])] := rfl
  simp only at h1
  rw [et] at h1
  have hf : flps (cr row) [] = cr row := rfl
  rw [hf] at e2
  unfold NA.fs at ho
  refine ⟨B ++ [.lst [.tup [.int 0, rw_ (cr row)]]], B.length, ?_, z9p, f2.then_push⟩
  unfold F_Net_things
  simp only [List.map_cons, List.map_nil] at hls hlsB
  simp_arith [ho, e1, hls]
  have hlc : lcL (gN 3) tYe (eTup (aCons (eFld ["Thing"] "years" (eVar 3)) (aCons (eMeth0 "row_bits" [("Thing", F_Thing_row_bits)] (eVar 3) (aCons (eFld ["Net"] "code" (eVar 0)) aNil)) aNil))) (fun A' => A'[N.ls]? = some (O.lst [D.ref t])) [some (.ref N.nt), some (.int a), some (.int b), none] [.ref t] [] A = .ok [.tup [.int 0, rw_ (cr row)]] B := by
    obtain ⟨acc, B', e, ⟨h, _⟩ | ⟨_, rfl, rfl⟩⟩ := (lc_run (A := A) (env := [some (.ref N.nt), some (.int a), some (.int b), none]) (g := gN 3) (t := tYe) (a := eTup (aCons (eFld ["Thing"] "years" (eVar 3)) (aCons (eMeth0 "row_bits" [("Thing", F_Thing_row_bits)] (eVar 3) (aCons (eFld ["Net"] "code" (eVar 0)) aNil)) aNil))) (gd := fun A' => A'[N.ls]? = some (O.lst [D.ref t])) (ds := [.ref t]) (fun j acc C => (j = 0 ∧ acc = [] ∧ C = A) ∨ (j = 1 ∧ acc = [D.tup [.int 0, rw_ (cr row)]] ∧ C = B)) (.inl ⟨rfl, rfl, rfl⟩) (by show 1 < 16000000; decide) (by
      rintro j acc C (⟨_, _, rfl⟩ | ⟨_, _, rfl⟩)
      · exact hls
      · exact hlsB) (by
      rintro j d hd acc C (⟨rfl, rfl, rfl⟩ | ⟨rfl, rfl, rfl⟩)
      · cases hd
        show Got _ _
        simp_arith [h1, ho, e2]
      · cases hd)).ex
    · cases h
    · exact e
  rw [hlc]
  simp_arith []
theorem lying_ok (h : IsN A N a b row []) : ∃ A1 q, F_Net_lying [.ref N.nt] A = .ok (.ref q) A1 ∧ A1[q]? = some (.lst []) ∧ Fr [] A A1 := by
  have ho := h.o
  have hrd := h.rd
  have hls := h.ls
  unfold NA.fs at ho
  have n1 : N.rd ≠ N.nt := fun e => by rw [e, ho] at hrd; cases hrd
  have n2 : N.rd ≠ N.ls := fun e => by rw [e, hls] at hrd; cases hrd
  have lrd := lt_of_get hrd
  obtain ⟨L, hL⟩ : ∃ L, L = A.set N.rd (O.dic true true [(D.tup [D.int a, D.int b], D.ref N.ls)]) := ⟨_, rfl⟩
  have Lo : L[N.nt]? = some (O.obj "Net" [("ways", D.ref N.wd), ("code", D.int 69665), ("oldest", D.int N.o), ("roads", D.ref N.rd)]) := by rw [hL, z3o n1]; exact ho
  have Lr : L[N.rd]? = some (O.dic true true [(D.tup [D.int a, D.int b], D.ref N.ls)]) := by rw [hL]; exact za9 lrd
  have Ls : L[N.ls]? = some (.lst []) := by rw [hL, z3o n2]; exact hls
  have kk : keyOk true (.tup [.int a, .int b]) = true := rfl
  have kg : kget [(D.tup [.int a, .int b], D.ref N.ls)] (.tup [.int a, .int b]) = some (.ref N.ls) := by
    rw [z1b, keq_tt]; simp
  have r1 : oNe (.ref N.ls) (.ref L.length) (L ++ [.lst []]) = .ok (.bl false) (L ++ [.lst []]) := oNe_lst (l := []) (get_push Ls) z9p rfl
  have hlc : lcL (gN 1) (tOf (eOp oNe (eOp oDGet (eFld ["Net"] "roads" (eVar 0)) (eVar 1)) (eLst aNil))) (eVar 1) (fun A' => A'[N.rd]? = some (O.dic true true [(D.tup [D.int a, D.int b], D.ref N.ls)])) [some (.ref N.nt), none] [.tup [.int a, .int b]] [] L = .ok [] (L ++ [.lst []]) := by
    obtain ⟨acc, B', e, ⟨h, _⟩ | ⟨_, rfl, rfl⟩⟩ := (lc_run (A := L) (env := [some (.ref N.nt), none]) (g := gN 1) (t := tOf (eOp oNe (eOp oDGet (eFld ["Net"] "roads" (eVar 0)) (eVar 1)) (eLst aNil))) (a := eVar 1) (gd := fun A' => A'[N.rd]? = some (O.dic true true [(D.tup [D.int a, D.int b], D.ref N.ls)])) (ds := [.tup [.int a, .int b]]) (fun j acc C => (j = 0 ∧ acc = [] ∧ C = L) ∨ (j = 1 ∧ acc = [] ∧ C = L ++ [.lst []])) (.inl ⟨rfl, rfl, rfl⟩) (by show 1 < 16000000; decide) (by
      rintro j acc C (⟨_, _, rfl⟩ | ⟨_, _, rfl⟩)
      · exact Lr
      · exact get_push Lr) (by
      rintro j d hd acc C (⟨rfl, rfl, rfl⟩ | ⟨rfl, rfl, rfl⟩)
      · cases hd
        show Got _ _
        simp_arith [Lo, Lr, kk, kg, r1]
      · cases hd)).ex
    · cases h
    · exact e
  have ll : L.length = A.length := by rw [hL, List.length_set]
  have Lrr : (L ++ [O.lst []] ++ [O.lst []])[N.rd]? = some (O.dic true true [(D.tup [D.int a, D.int b], D.ref N.ls)]) := get_push (get_push Lr)
  have is0 : intsOf ([] : List D) = some [] := rfl
  unfold F_Net_lying
  simp_arith [ho, hrd]
  rw [← hL]
  simp_arith [Lo, Lr, hlc, Lrr, is0, srt_nil]
  refine ⟨_, _, rfl, z8m (by simp only [List.length_set, List.length_append, List.length_singleton]), ?_⟩
  refine Fr.then_push (Fr.unl (H := L ++ [O.lst []] ++ [O.lst []]) (by simp only [List.length_append, List.length_singleton]; omega) (fun j hj hne => ?_) .refl hrd)
  rw [z76 (by rw [List.length_append]; omega), z76 (by omega), hL, z3o (Ne.symm hne)]
end

/-! the fields drawn -/
open DL (Bytes bl dv gN)
theorem oMul_l21 {A : Hs} {r : Nat} {l : List D} (h : A[r]? = some (.lst l)) (hl : l.length ≤ 1000) : oMul (.ref r) (.int 21) A = .ok (.ref A.length) (A ++ [.lst (List.replicate 21 l).flatten]) := by
  unfold oMul
  simp only [h]
  rw [if_pos ⟨by decide, by decide, z0d (by show l.length * 21 ≤ _; omega)⟩]
  rfl
theorem rep_flat {l : List Int} : ∀ n : Nat, (List.replicate n (l.map D.int)).flatten = ((List.replicate n l).flatten).map D.int
  | 0 => rfl
  | n + 1 => by rw [List.replicate_succ, List.replicate_succ, List.flatten_cons, List.flatten_cons, List.map_append, rep_flat n]
theorem rep_bytes {l : List Int} (h : Bytes l) : ∀ n : Nat, Bytes (List.replicate n l).flatten
  | 0 => fun b hb => by simp at hb
  | n + 1 => fun b hb => by
    rw [List.replicate_succ, List.flatten_cons] at hb
    rcases List.mem_append.mp hb with q | q
    · exact h b q
    · exact rep_bytes h n b q
def Pt.fields (p : Pt) : D := .tup [.int p.s, .int p.t, .int p.k, .int p.l, .int p.n, .int 0, .bl p.m, rw_ p.d]
theorem fields_ok {A : Hs} {i pl : Nat} {a b k : Int} (hb : 0 ≤ b ∧ b ≤ 255) (d : Drw A i) (hpl : A[pl]? = some (.lst [.int a, .int b])) (hip : pl ≠ i) : Rk (F_l_fields [.ref i, .ref pl, .int k] A) fun v A1 => ∃ p : Pt, v = p.fields ∧ p.Ok ∧ p.t = b ∧ Drw A1 i ∧ Fr [i] A A1 := by
  have hi := d.lt
  obtain ⟨v1, B1, a1, b1, e1, d1, f1⟩ := next_ok (n := 41) d (by decide) (by decide)
  obtain ⟨v2, B2, a2, b2, e2, d2, f2⟩ := next_ok (n := 1001) d1 (by decide) (by decide)
  obtain ⟨v3, B3, a3, b3, e3, d3, f3⟩ := next_ok (n := 4) (d2.pushed (x := .lst ([v1, v2].map D.int))) (by decide) (by decide)
  have n2 := d2.lt
  have h3 : B3[B2.length]? = some (.lst ([v1, v2].map D.int)) := f3.get z9p (by simp; omega)
  obtain ⟨bb, hbb⟩ : ∃ bb : Bool, (if v3 = 0 then RE.ok (D.bl (decide (k = 0))) B3 else RE.ok (D.bl false) B3) = RE.ok (.bl bb) B3 := by
    by_cases q : v3 = 0
    · exact ⟨decide (k = 0), if_pos q⟩
    · exact ⟨false, if_neg q⟩
  obtain ⟨c, hc, hcv⟩ : ∃ c : Int, (∀ B, oInt (.bl bb) B = .ok (.int c) B) ∧ (c = 0 ∨ c = 1) := by
    cases bb with
    | true => exact ⟨1, fun _ => rfl, .inr rfl⟩
    | false => exact ⟨0, fun _ => rfl, .inl rfl⟩
  obtain ⟨many, hm, cm⟩ := pick_i (ns := [v1, v2]) (v := c) (by omega) (by show c < 2; omega)
  have hm0 : 0 ≤ many ∧ many ≤ 1000 := by
    simp only [List.mem_cons, List.not_mem_nil, or_false] at hm
    rcases hm with rfl | rfl <;> omega
  simp only [List.map_cons, List.map_nil] at cm h3 e3
  unfold F_l_fields
  simp_arith [e1, e2, e3]
  rw [hbb]
  have hmin : 0 ≤ min many 50 ∧ min many 50 ≤ 50 := by omega
  simp_arith [hc, h3, cm, -z6o, -z4o]
  refine Rk.call (P := fun v E => ∃ (bs : List Int) (B0 : Hs), v = .ref (List.length B0) ∧ E = B0 ++ [.lst (bs.map D.int)] ∧ Bytes bs ∧ bs.length = (min many 50).toNat ∧ Drw B0 i ∧ Fr [i] B3 B0) (fun r => Rk (finR (seqR (ofE _ r _) _)) _) (lc_rk ((lc_run (fun j acc B => ∃ bs : List Int, acc = bs.map D.int ∧ Bytes bs ∧ bs.length = j ∧ Drw B i ∧ Fr [i] B3 B) (ds := rgL 0 1 (min many 50).toNat) ⟨[], rfl, (fun b hb => by cases hb), rfl, d3, .refl⟩ (by rw [rgL_len]; omega) (fun _ _ _ _ => trivial) ?_).mono ?_)) ?_
  · intro j d hd acc B hP
    obtain ⟨rfl, hj⟩ := rgL_get hd
    obtain ⟨bs, rfl, hbs, hl, dB, fB⟩ := hP
    obtain ⟨v, C, v0, v1', g1, dC, fC⟩ := next_ok (n := 256) dB (by decide) (by decide)
    show Got _ _
    simp_arith [g1]
    refine ⟨bs ++ [v], by simp, fun x hx => ?_, by simp [hl], dC, fB.trans fC⟩
    rcases List.mem_append.mp hx with q | q
    · exact hbs x q
    · rw [List.mem_singleton] at q; omega
  · rintro l B ⟨bs, h1, h2, h3, h4, h5⟩
    exact ⟨bs, B, rfl, by rw [h1], h2, by rw [h3, rgL_len], h4, h5⟩
  · rintro _ _ ⟨bs, B0, rfl, rfl, hbs, hbl, dB0, fB0⟩
    have n0 := dB0.lt
    have hmul := oMul_l21 (A := B0 ++ [.lst (bs.map D.int)]) (r := B0.length) z9p (by rw [List.length_map]; omega)
    rw [rep_flat] at hmul
    obtain ⟨dt, hdt⟩ : ∃ dt, dt = ((List.replicate 21 bs).flatten).take many.toNat := ⟨_, rfl⟩
    have hdb : Bytes dt := fun x hx => rep_bytes hbs 21 x (List.mem_of_mem_take (by rw [← hdt]; exact hx))
    have hdl : dt.length ≤ 1000 := by rw [hdt, List.length_take]; omega
    have hcut : (((List.replicate 21 bs).flatten).map D.int).take many.toNat = dt.map D.int := by rw [← List.map_take, hdt]
    generalize (List.replicate 21 bs).flatten = fl_ at *
    have dP : Drw (B0 ++ [O.lst (bs.map D.int)] ++ [O.lst (fl_.map D.int)] ++ [O.lst (dt.map D.int)]) i := ((dB0.pushed).pushed).pushed
    have hB0l : (B0 ++ [O.lst (bs.map D.int)]).length = B0.length + 1 := by rw [List.length_append]; rfl
    rw [hB0l] at hmul
    obtain ⟨u1, C1, x1, y1, g1, dd1, ff1⟩ := next_ok (n := 255) dP (by decide) (by decide)
    obtain ⟨u2, C2, x2, y2, g2, dd2, ff2⟩ := next_ok (n := 65536) dd1 (by decide) (by decide)
    obtain ⟨u3, C3, x3, y3, g3, dd3, ff3⟩ := next_ok (n := 256) dd2 (by decide) (by decide)
    obtain ⟨u4, C4, x4, y4, g4, dd4, ff4⟩ := next_ok (n := 256) dd3 (by decide) (by decide)
    obtain ⟨u5, C5, x5, y5, g5, dd5, ff5⟩ := next_ok (n := 2) dd4 (by decide) (by decide)
    have npl := lt_of_get hpl
    have hpl3 : C3[pl]? = some (.lst [.int a, .int b]) := by
      have q1 := f3.get (get_push (f2.get (f1.get hpl (by simp; exact hip)) (by simp; exact hip))) (by simp; exact hip)
      have q2 := fB0.get q1 (by simp; exact hip)
      exact ff3.get (ff2.get (ff1.get (get_push (get_push (get_push q2))) (by simp; exact hip)) (by simp; exact hip)) (by simp; exact hip)
    have gb : atI [D.int a, D.int b] 1 = some (.int b) := rfl
    have fA : Fr [i] A C5 := ((((f1.trans f2).trans ((Fr.push).trans f3)).trans fB0).trans (((Fr.push.trans Fr.push).trans Fr.push).trans ff1)).trans (((ff2.trans ff3).trans ff4).trans ff5)
    have gl1 : (B0 ++ [O.lst (bs.map D.int)] ++ [O.lst (fl_.map D.int)])[B0.length + 1]? = some (.lst (fl_.map D.int)) := z8m hB0l.symm
    simp_arith [hmul, gl1, hcut, g1, g2, g3, hpl3, gb, -z4o, g4, g5]
    refine ⟨⟨u3, b, u4, 1 + u1, u2, decide (u5 = 1), dt⟩, rfl, ⟨by show 0 ≤ u3 ∧ u3 ≤ 255; omega, hb, by show 0 ≤ u4 ∧ u4 ≤ 255; omega, by show 1 ≤ 1 + u1 ∧ 1 + u1 ≤ 255; omega, by show 0 ≤ u2 ∧ u2 ≤ 65535; omega, hdb, hdl⟩, rfl, dd5, fA⟩

/-! the law's world -/
open DL (Bytes bl dv gN)
noncomputable def rlE : S := (sRet (eOp oEq (eMeth "lying" [("Net", F_Net_lying)] (eVar 1) aNil) (eLst aNil)))
noncomputable def rlW : S := (sSeq (sSet 15 (eCall F_l_next (aCons (eVar 0) (aCons (eCB (c1 oLen) (aCons (eVar 12) aNil)) aNil)))) (sSeq (sSet 17 (eMeth "bring" [("Net", F_Net_bring)] (eVar 1) (aCons (eOp oIx (eVar 2) (eC (.int 0))) (aCons (eOp oIx (eVar 2) (eC (.int 1))) (aCons (eVar 15) aNil))))) (sIf (tOf (ePop1 (eVar 12) (eVar 15))) (sIf (tOf (eOp oIsNot (eVar 17) (eC .non))) (sRet (eC (.bl false))) sNx) (sIf (tOo (tNo (tOf (eCB (c2 (oIsi os_ xs_ tb_)) (aCons (eVar 17) (aCons (eC (.nm "Packet")) aNil))))) (tOf (eOp oNe (eMeth "told" [("Packet", F_Packet_told)] (eVar 17) aNil) (eVar 3)))) (sRet (eC (.bl false))) sNx))))
noncomputable def rlB : S := (sSeq (sSet 15 (eCall F_l_next (aCons (eVar 0) (aCons (eCB (c1 oLen) (aCons (eVar 12) aNil)) aNil)))) (sSeq (sSet 16 (eCall F_l_bits (aCons (eVar 0) (aCons (eVar 13) aNil)))) (sSeq (sIf (tOf (eOp oEq (eCall F_l_turn (aCons (eVar 1) (aCons (eVar 2) (aCons (eVar 15) (aCons (eVar 16) aNil))))) (eOp oIx (eVar 12) (eVar 15)))) (sRet (eC (.bl false))) sNx) (sIf (tOf (eOp oEq (eCall F_l_next (aCons (eVar 0) (aCons (eC (.int 2)) aNil))) (eC (.int 0)))) (sSeq (sDrop (eMeth "double" [("Net", F_Net_double)] (eVar 1) (aCons (eOp oIx (eVar 2) (eC (.int 0))) (aCons (eOp oIx (eVar 2) (eC (.int 1))) (aCons (eVar 15) aNil))))) (sSeq (sPut (eVar 12) (eVar 15) (eC (.bl true))) (sDrop (eBL oAppend (eVar 12) (aCons (eC (.bl true)) aNil))))) (sSeq (sPut (eVar 12) (eVar 15) (eC (.bl true))) (sSeq (sDrop (eMeth "put" [("Net", F_Net_put)] (eVar 1) (aCons (eOp oIx (eVar 2) (eC (.int 0))) (aCons (eMake "Packet" F_Packet___init__ (aCons (eVar 4) (aCons (eVar 5) (aCons (eVar 6) (aCons (eVar 7) (aCons (eVar 8) (aCons (eVar 9) (aCons (eVar 10) (aCons (eVar 11) aNil))))))))) aNil)))) (sDrop (eBL oAppend (eVar 12) (aCons (eC (.bl false)) aNil)))))))))
theorem lr_eq : F_l_right = mkFn 4 18 (sSeq (sAsg (eVar 3) (gT [(gN 4), (gN 5), (gN 6), (gN 7), (gN 8), (gN 9), (gN 10), (gN 11)])) (sSeq (sDrop (eMeth "put" [("Net", F_Net_put)] (eVar 1) (aCons (eOp oIx (eVar 2) (eC (.int 0))) (aCons (eMake "Packet" F_Packet___init__ (aCons (eVar 4) (aCons (eVar 5) (aCons (eVar 6) (aCons (eVar 7) (aCons (eVar 8) (aCons (eVar 9) (aCons (eVar 10) (aCons (eVar 11) aNil))))))))) aNil)))) (sSeq (sSet 12 (eLst (aCons (eC (.bl false)) aNil))) (sSeq (sSet 13 (eCB (c1 oLen) (aCons (eOp oIx (eOp oIx (eMeth "things" [("Net", F_Net_things)] (eVar 1) (aCons (eOp oIx (eVar 2) (eC (.int 0))) (aCons (eOp oIx (eVar 2) (eC (.int 1))) aNil))) (eC (.int 0))) (eC (.int 1))) aNil))) (sSeq (sFor (wAs rg1 (aCons (eOp oAdd (eC (.int 1)) (eCall F_l_next (aCons (eVar 0) (aCons (eC (.int 4)) aNil)))) aNil)) (gN 14) rlB) (sSeq (sWh (tOf (eOp oNe (eVar 12) (eLst aNil))) rlW) rlE)))))) := rfl
def tb1 (t : Nat × List Nat) : D := .bl (decide (t.2 ≠ []))
structure Wd (B : Hs) (N : NA) (a b : Int) (p : Pt) (i pl tp r : Nat) (LW : List D) (ts : List (Nat × List Nat)) (ms : List D) : Prop where
  n : IsN B N a b p.row ts
  d : Drw B i
  hpl : B[pl]? = some (.lst [.int a, .int b])
  t : B[tp]? = some (.lst ms)
  ok : ∀ t ∈ ts, t.2 ≠ [] → PsOk p.row t.2
  kp : B[r]? = some (.lst LW)
  ne2 : r ≠ tp ∧ r ≠ i ∧ r ≠ N.ls
  ne : tp ≠ i ∧ tp ≠ pl ∧ tp ≠ N.ls ∧ i ≠ N.ls ∧ pl ≠ N.ls ∧ pl ≠ i
section
variable {A B : Hs} {N : NA} {a b : Int} {p : Pt} {i pl tp r : Nat} {LW : List D} {ts : List (Nat × List Nat)} {ms ms' : List D}
theorem IsN.fr1 {row : List Int} (h : IsN A N a b row ts) {j : Nat} {l : List D} (f : Fr [j] A B) (hj : A[j]? = some (.lst l)) (hne : j ≠ N.ls) : IsN B N a b row ts := by
  have k : ∀ {q : Nat} {u : O}, A[q]? = some u → (∀ l, u ≠ .lst l) → B[q]? = some u := fun {q u} hq hu => f.get hq (by
    rw [List.mem_singleton]
    rintro rfl
    rw [hj] at hq
    cases hq
    exact hu _ rfl)
  exact ⟨k h.o (fun l z => by cases z), k h.w (fun l z => by cases z), k h.w1 (fun l z => by cases z), k h.rd (fun l z => by cases z), f.get h.ls (by rw [List.mem_singleton]; exact Ne.symm hne), fun i t ht => ⟨k (h.th i t ht).1 (fun l z => by cases z), (h.th i t ht).2⟩, h.nd⟩
theorem Drw.lst' (d : Drw A i) : ∃ l, A[i]? = some (.lst l) := by
  obtain ⟨x, y, z, h⟩ := d
  exact ⟨_, h⟩
/-- draws change only their own list -/
theorem Wd.draw (w : Wd A N a b p i pl tp r LW ts ms) (f : Fr [i] A B) (d : Drw B i) : Wd B N a b p i pl tp r LW ts ms := by
  obtain ⟨l, hl⟩ := w.d.lst'
  obtain ⟨h1, h2, h3, h4, h5, h6⟩ := w.ne
  exact ⟨w.n.fr1 f hl h4, d, f.get w.hpl (by rw [List.mem_singleton]; exact h6), f.get w.t (by rw [List.mem_singleton]; exact h1), w.ok, f.get w.kp (by rw [List.mem_singleton]; exact w.ne2.2.1), w.ne2, w.ne⟩
theorem Wd.frame (w : Wd A N a b p i pl tp r LW ts ms) (f : Fr [] A B) : Wd B N a b p i pl tp r LW ts ms :=
  ⟨w.n.frame f, w.d.frame f (by simp), f.get w.hpl (by simp), f.get w.t (by simp), w.ok, f.get w.kp (by simp), w.ne2, w.ne⟩
theorem Wd.mark (w : Wd A N a b p i pl tp r LW ts ms) : Wd (A.set tp (.lst ms')) N a b p i pl tp r LW ts ms' := by
  obtain ⟨h1, h2, h3, h4, h5, h6⟩ := w.ne
  obtain ⟨x, y, z, hd⟩ := w.d
  exact ⟨w.n.fr1 (.set (by simp)) w.t h3, ⟨x, y, z, by rw [z3o h1]; exact hd⟩, by rw [z3o h2]; exact w.hpl, za9 (lt_of_get w.t), w.ok, by rw [z3o (Ne.symm w.ne2.1)]; exact w.kp, w.ne2, w.ne⟩
theorem Wd.add (w : Wd A N a b p i pl tp r LW ts ms) {x : Nat × List Nat} (hN : IsN B N a b p.row (ts ++ [x])) (f : Fr [N.ls] A B) (hok : x.2 ≠ [] → PsOk p.row x.2) : Wd B N a b p i pl tp r LW (ts ++ [x]) ms := by
  obtain ⟨h1, h2, h3, h4, h5, h6⟩ := w.ne
  obtain ⟨y, z, u, hd⟩ := w.d
  refine ⟨hN, ⟨y, z, u, f.get hd (by rw [List.mem_singleton]; exact h4)⟩, f.get w.hpl (by rw [List.mem_singleton]; exact h5), f.get w.t (by rw [List.mem_singleton]; exact h3), fun v hv hne => ?_, f.get w.kp (by rw [List.mem_singleton]; exact w.ne2.2.2), w.ne2, w.ne⟩
  rcases List.mem_append.mp hv with q | q
  · exact w.ok v q hne
  · rw [List.mem_singleton] at q
    rw [q] at hne ⊢
    exact hok hne
theorem tb_set {k : Nat} {x : Nat × List Nat} (hx : x.2 ≠ []) : (ts.map tb1).set k (.bl true) = (ts.set k x).map tb1 := by
  rw [List.map_set]
  congr 1
  unfold tb1
  rw [decide_eq_true hx]
theorem set_same' {l : List (Nat × List Nat)} {k : Nat} {x : Nat × List Nat} (h : l[k]? = some x) : l.set k x = l := by
  refine List.ext_getElem? fun j => ?_
  by_cases q : k = j
  · subst q
    rw [List.getElem?_set_self (lt_of_get h), h]
  · rw [List.getElem?_set_ne q]
/-- a thing turned -/
theorem Wd.turn (ab : AB a b) (w : Wd A N a b p i pl tp r LW ts ms) {k bp : Nat} {t : Nat × List Nat} {ps : List Nat} (ht : ts[k]? = some t) (hl : ts.length ≤ 1000) (hp : PsOk p.row ps) (hbp : A[bp]? = some (.lst ((nI ps).map D.int))) :
    ∃ A1 t', F_l_turn [.ref N.nt, .ref pl, .int (k : Int), .ref bp] A = .ok (.bl (decide (t.2 = []))) A1 ∧ t'.2 ≠ [] ∧ Wd A1 N a b p i pl tp r LW (ts.set k t') ms := by
  obtain ⟨A1, ts', e, hN, f, hts⟩ := l_turn_ok ab w.n ht hl hp hbp w.hpl
  obtain ⟨hth, hth2⟩ := w.n.th k t ht
  have hps : ps ≠ [] := by
    rintro rfl
    have := hp.h1
    exact absurd this (by decide)
  obtain ⟨t', ht', hts', hok⟩ : ∃ t', t'.2 ≠ [] ∧ ts' = ts.set k t' ∧ PsOk p.row t'.2 := by
    by_cases q : t.2 = []
    · rw [if_pos q] at hts
      exact ⟨(t.1, ps), hps, hts, hp⟩
    · rw [if_neg q] at hts
      exact ⟨t, q, by rw [set_same' ht]; exact hts, w.ok t (List.mem_of_getElem? ht) q⟩
  subst hts'
  have kl : ∀ {q : Nat} {l : List D}, A[q]? = some (.lst l) → A1[q]? = some (.lst l) := fun {q l} hq => f.get hq (by
    rw [List.mem_singleton]
    rintro rfl
    rw [hth] at hq
    cases hq)
  obtain ⟨x, y, z, hd⟩ := w.d
  refine ⟨A1, t', e, ht', ⟨hN, ⟨x, y, z, kl hd⟩, kl w.hpl, kl w.t, fun u hu hne => ?_, kl w.kp, w.ne2, w.ne⟩⟩
  rcases List.mem_or_eq_of_mem_set hu with q | q
  · exact w.ok u q hne
  · rw [q]; exact hok
theorem rlB_ok (ab : AB a b) (hp : p.Ok) (hpt : p.t = b) (w : Wd A N a b p i pl tp r LW ts (ts.map tb1)) (hl : 1 ≤ ts.length) (hl2 : ts.length ≤ 100) {o14 o15 o16 o17 : Option D} :
    Trn (fun e B => ∃ o15 o16 ts', e = [some (.ref i), some (.ref N.nt), some (.ref pl), some p.fields, some (.int p.s), some (.int p.t), some (.int p.k), some (.int p.l), some (.int p.n), some (.int 0), some (.bl p.m), some (rw_ p.d), some (.ref tp), some (.int ((8 * p.row.length + 16 : Nat) : Int)), o14, o15, o16, o17] ∧ Wd B N a b p i pl tp r LW ts' (ts'.map tb1) ∧ ts'.length = ts.length + 1) (fun _ => False)
      (rlB [some (.ref i), some (.ref N.nt), some (.ref pl), some p.fields, some (.int p.s), some (.int p.t), some (.int p.k), some (.int p.l), some (.int p.n), some (.int 0), some (.bl p.m), some (rw_ p.d), some (.ref tp), some (.int ((8 * p.row.length + 16 : Nat) : Int)), o14, o15, o16, o17] A) := by
  have hrl : p.row.length ≤ 1020 := by rw [p.row_len]; have := hp.dl; omega
  obtain ⟨v1, A1, a1, b1, e1, d1, f1⟩ := next_ok (n := (ts.length : Nat)) w.d (by omega) (by omega)
  have w1 := w.draw f1 d1
  obtain ⟨_, A2, e2, q, ps, rfl, hq, hps, hqA, d2, f2⟩ := (l_bits_ok (many := 8 * p.row.length + 16) (row := p.row) d1 rfl hrl).ex
  have w2 := w1.draw f2 d2
  obtain ⟨k, rfl⟩ : ∃ k : Nat, v1 = (k : Int) := ⟨v1.toNat, by omega⟩
  obtain ⟨t, ht⟩ : ∃ t, ts[k]? = some t := ⟨_, List.getElem?_eq_getElem (by omega)⟩
  obtain ⟨A3, t', e3, ht', w3⟩ := w2.turn ab ht (by omega) hps hqA
  obtain ⟨v4, A4, a4, b4, e4, d4, f4⟩ := next_ok (n := 2) w3.d (by decide) (by decide)
  have w4 := w3.draw f4 d4
  have hlt : (ts.set k t').length = ts.length := List.length_set
  have ht4 : (ts.set k t')[k]? = some t' := List.getElem?_set_self (by omega)
  have hw := w.t
  have htp3 := w3.t
  have hno := w.n.o
  have gt : atI (ts.map tb1) (k : Int) = some (tb1 t) := by
    rw [z4o (by omega), Int.toNat_natCast, List.getElem?_map, ht]; rfl
  have hbq : ∀ B, oEq (.bl (decide (t.2 = []))) (tb1 t) B = .ok (.bl false) B := fun B => by
    unfold tb1
    rw [oEq_bb]
    by_cases z : t.2 = []
    · simp [z]
    · simp [z]
  have hlm : (ts.map tb1).length = ts.length := List.length_map _
  have ki : 0 ≤ (k : Int) ∧ (k : Int) < ((ts.map tb1).length : Int) := by rw [hlm]; omega
  have kn : ((k : Int)).toNat = k := by omega
  have ga : atI [D.int a, D.int b] 0 = some (.int a) := rfl
  have gb : atI [D.int a, D.int b] 1 = some (.int b) := rfl
  have hms := tb_set (ts := ts) (k := k) ht'
  have hpl3 := w4.hpl
  have hno4 := w4.n.o
  have hns := w4.t
  unfold NA.fs at hno4
  unfold rlB
  by_cases z : v4 = 0
  · obtain ⟨A5, e5, hN5, f5⟩ := double_ok ab w4.n ht4 (by omega)
    have w5 := w4.add hN5 f5 (fun _ => w4.ok t' (List.mem_of_getElem? ht4) ht')
    have w6 : Wd (A5.set tp (.lst ((ts.map tb1).set k (.bl true)))) N a b p i pl tp r LW _ _ := w5.mark
    have w7 : Wd ((A5.set tp (.lst ((ts.map tb1).set k (.bl true)))).set tp (.lst ((ts.map tb1).set k (.bl true) ++ [.bl true]))) N a b p i pl tp r LW _ _ := w6.mark
    have h5 := w5.t
    have h6 := w6.t
    have hll : ((ts.map tb1).set k (.bl true)).length + 1 ≤ 16000000 := by rw [List.length_set, hlm]; omega
    simp_arith [hw, hlm, e1, e2, e3, htp3, gt, -z4o, hbq, e4, z, hpl3, ga, gb, hno4, e5, h5, ki.1, ki.2, kn, h6, hll]
    refine ⟨_, _, (ts.set k t') ++ [(A4.length, t'.2)], rfl, ?_, by rw [List.length_append, List.length_singleton, hlt]⟩
    have em : ((ts.set k t') ++ [(A4.length, t'.2)]).map tb1 = (ts.map tb1).set k (.bl true) ++ [.bl true] := by
      rw [List.map_append, ← hms]
      congr 1
      show [tb1 (A4.length, t'.2)] = _
      unfold tb1
      rw [decide_eq_true (show (A4.length, t'.2).2 ≠ [] from ht')]
    rw [em]
    exact w5.mark
  · have w5 : Wd (A4.set tp (.lst ((ts.map tb1).set k (.bl true)))) N a b p i pl tp r LW _ _ := w4.mark
    obtain ⟨_, A6, e6, rfl, hP, f6⟩ := (packet_ok (p := p) (A := A4.set tp (.lst ((ts.map tb1).set k (.bl true)))) hp).ex
    have w6 := w5.frame f6
    obtain ⟨A7, e7, hN7, f7⟩ := put_ok ab w6.n hp rfl hpt hP (by omega)
    have w7 := w6.add hN7 f7 (fun h => absurd rfl h)
    have h4 := w4.t
    have h5 := w5.t
    have hpl5 := w5.hpl
    have hno5 := w5.n.o
    have h7 := w7.t
    have hll : ((ts.map tb1).set k (.bl true)).length + 1 ≤ 16000000 := by rw [List.length_set, hlm]; omega
    obtain ⟨S, hS⟩ : ∃ S, S = A4.set tp (.lst ((ts.map tb1).set k (.bl true))) := ⟨_, rfl⟩
    rw [← hS] at e6 h5 hpl5 hno5 e7
    unfold Pt.args at e6
    unfold NA.fs at hno5
    simp_arith [hw, hlm, e1, e2, e3, htp3, gt, -z4o, hbq, e4, z, h4, ki.1, ki.2, kn, ← hS, hpl5, ga, gb, hno5, e6, e7, h7, hll]
    refine ⟨_, _, (ts.set k t') ++ [(A6.length, [])], rfl, ?_, by rw [List.length_append, List.length_singleton, hlt]⟩
    have em : ((ts.set k t') ++ [(A6.length, [])]).map tb1 = (ts.map tb1).set k (.bl true) ++ [.bl false] := by
      rw [List.map_append, ← hms]
      rfl
    rw [em]
    exact w7.mark
theorem told_ok {q : Nat} (h : A[q]? = some (.obj "Packet" p.fs)) : F_Packet_told [.ref q] A = .ok p.fields A := by
  unfold Pt.fs at h
  unfold F_Packet_told Pt.fields
  simp_arith [h]
theorem fields_pd : pd 40 p.fields = true := by
  show ([D.int p.s, .int p.t, .int p.k, .int p.l, .int p.n, .int 0, .bl p.m, rw_ p.d]).all (pd 39) = true
  simp only [List.all_cons, List.all_nil, pd_int, pd_bl, Bool.and_true, Bool.true_and]
  show (p.d.map D.int).all (pd 38) = true
  exact pd_ints
theorem Wd.less (w : Wd A N a b p i pl tp r LW ts ms) {k : Nat} (hN : IsN B N a b p.row (ts.eraseIdx k)) (f : Fr [N.ls] A B) : Wd B N a b p i pl tp r LW (ts.eraseIdx k) ms := by
  obtain ⟨h1, h2, h3, h4, h5, h6⟩ := w.ne
  obtain ⟨y, z, u, hd⟩ := w.d
  exact ⟨hN, ⟨y, z, u, f.get hd (by rw [List.mem_singleton]; exact h4)⟩, f.get w.hpl (by rw [List.mem_singleton]; exact h5), f.get w.t (by rw [List.mem_singleton]; exact h3), fun v hv hne => w.ok v (List.mem_of_mem_eraseIdx hv) hne, f.get w.kp (by rw [List.mem_singleton]; exact w.ne2.2.2), w.ne2, w.ne⟩
theorem rlW_ok (ab : AB a b) (hp : p.Ok) (hpt : p.t = b) (w : Wd A N a b p i pl tp r LW ts (ts.map tb1)) (hl : 1 ≤ ts.length) (hl2 : ts.length ≤ 100) {o4 o5 o6 o7 o8 o9 o10 o11 o13 o14 o15 o16 o17 : Option D} {J : Sl → Hs → Prop} {R : RS → Prop}
    (hJ : ∀ B o15 o17 ts', Wd B N a b p i pl tp r LW ts' (ts'.map tb1) → ts'.length + 1 = ts.length → J [some (.ref i), some (.ref N.nt), some (.ref pl), some p.fields, o4, o5, o6, o7, o8, o9, o10, o11, some (.ref tp), o13, o14, o15, o16, o17] B) :
    Trn J R (rlW [some (.ref i), some (.ref N.nt), some (.ref pl), some p.fields, o4, o5, o6, o7, o8, o9, o10, o11, some (.ref tp), o13, o14, o15, o16, o17] A) := by
  obtain ⟨v1, A1, a1, b1, e1, d1, f1⟩ := next_ok (n := (ts.length : Nat)) w.d (by omega) (by omega)
  have w1 := w.draw f1 d1
  obtain ⟨k, rfl⟩ : ∃ k : Nat, v1 = (k : Int) := ⟨v1.toNat, by omega⟩
  obtain ⟨t, ht⟩ : ∃ t, ts[k]? = some t := ⟨_, List.getElem?_eq_getElem (by omega)⟩
  obtain ⟨v, A2, e2, hN2, f2, hv⟩ := bring_ok ab hp hpt w1.n ht (by omega) (fun h => w.ok t (List.mem_of_getElem? ht) h)
  have w2 := w1.less hN2 f2
  have hlm : (ts.map tb1).length = ts.length := List.length_map _
  have ht2 := w2.t
  have hw := w.t
  have ep := popAt_l (j := (k : Int)) (d := tb1 t) ht2 (by omega) (by rw [Int.toNat_natCast, List.getElem?_map, ht]; rfl) (by rw [hlm]; omega)
  rw [Int.toNat_natCast, eraseIdx_map'] at ep
  have w3 : Wd (A2.set tp (.lst ((ts.eraseIdx k).map tb1))) N a b p i pl tp r LW (ts.eraseIdx k) ((ts.eraseIdx k).map tb1) := w2.mark
  have hel : (ts.eraseIdx k).length + 1 = ts.length := by rw [List.length_eraseIdx_of_lt (by omega)]; omega
  have ga : atI [D.int a, D.int b] 0 = some (.int a) := rfl
  have gb : atI [D.int a, D.int b] 1 = some (.int b) := rfl
  have hpl1 := w1.hpl
  have hno1 := w1.n.o
  unfold NA.fs at hno1
  unfold rlW
  by_cases q : t.2 = []
  · rw [if_pos q] at hv
    obtain ⟨z, rfl, hz, hzl⟩ := hv
    have hz3 : (A2.set tp (.lst ((ts.eraseIdx k).map tb1)))[z]? = some (.obj "Packet" p.fs) := by
      rw [z3o (fun e => by rw [← e, ht2] at hz; cases hz)]
      exact hz
    have e5 := told_ok hz3
    have hz4 := hz3
    unfold Pt.fs at hz4
    have e6 : oNe p.fields p.fields (A2.set tp (.lst ((ts.eraseIdx k).map tb1))) = .ok (.bl false) (A2.set tp (.lst ((ts.eraseIdx k).map tb1))) := oNe_pd fields_pd
    have etb : tb1 t = .bl false := by unfold tb1; rw [decide_eq_false (fun h => h q)]
    have hiP : oIsi os_ xs_ tb_ (.ref z) (.nm "Packet") (A2.set tp (.lst ((ts.eraseIdx k).map tb1))) = .ok (.bl true) (A2.set tp (.lst ((ts.eraseIdx k).map tb1))) := by
      unfold oIsi isiD kdOf; simp only [hz3]; rfl
    rw [etb] at ep
    generalize A2.set tp (.lst ((ts.eraseIdx k).map tb1)) = A3 at *
    simp_arith [hw, hlm, e1, hpl1, ga, gb, -z4o, hno1, e2, ht2, ep, hiP, hz4, e5, e6]
    exact hJ _ _ _ _ w3 hel
  · rw [if_neg q] at hv
    subst hv
    have etb : tb1 t = .bl true := by unfold tb1; rw [decide_eq_true (show t.2 ≠ [] from q)]
    rw [etb] at ep
    simp_arith [hw, hlm, e1, hpl1, ga, gb, -z4o, hno1, e2, ht2, ep]
    exact hJ _ _ _ _ w3 hel
end

/-! lists of different lengths -/
theorem eqvAll_len : ∀ {xs ys : List PyData}, xs.length ≠ ys.length → PyData.eqvAll xs ys = false
  | [], [], h => absurd rfl h
  | [], _ :: _, _ => by simp [PyData.eqvAll]
  | _ :: _, [], _ => by simp [PyData.eqvAll]
  | x :: xs, y :: ys, h => by
    unfold PyData.eqvAll
    rw [eqvAll_len (xs := xs) (ys := ys) (by simpa using h), Bool.and_false]
theorem allSome_len {α : Type} : ∀ {l : List (Option α)} {ps : List α}, allSome l = some ps → ps.length = l.length
  | [], ps, h => by cases h; rfl
  | some a :: r, ps, h => by
    unfold allSome at h
    obtain ⟨qs, hq, rfl⟩ := Option.map_eq_some_iff.mp h
    simp [allSome_len hq]
  | none :: _, _, h => by cases h
theorem eqA_len {A : Hs} {i j : Nat} {l k : List D} (h : A[i]? = some (.lst l)) (g : A[j]? = some (.lst k)) (hn : l.length ≠ k.length) : eqA A (.ref i) (.ref j) = some false := by
  unfold eqA
  rw [py_lst h, py_lst g]
  cases q1 : allSome (l.map (pyA A 39)) with
  | none => unfold unL; simp [h, g, hn]
  | some ps =>
    cases q2 : allSome (k.map (pyA A 39)) with
    | none => unfold unL; simp [h, g, hn]
    | some qs =>
      have e1 := allSome_len q1
      have e2 := allSome_len q2
      rw [List.length_map] at e1 e2
      simp [PyData.eqv, eqvAll_len (xs := ps) (ys := qs) (by omega)]
theorem oNe_len {A : Hs} {i j : Nat} {l k : List D} (h : A[i]? = some (.lst l)) (g : A[j]? = some (.lst k)) (hn : l.length ≠ k.length) : oNe (.ref i) (.ref j) A = .ok (.bl true) A := neA_of (eqA_len h g hn)
/-! the law -/
open DL (Bytes bl dv gN)
theorem Trn.imp {J J2 : Sl → Hs → Prop} {R : RS → Prop} {r : RS} (h : Trn J (fun _ => False) r) (k : ∀ e A, J e A → J2 e A) : Trn J2 R r := by
  cases r with
  | nx e A => exact k e A h
  | ct e A => exact k e A h
  | rt d A => exact h.elim
  | bk e A => exact h.elim
  | exc C e A => exact h.elim
  | stuck => exact h.elim
section
variable {A : Hs} {N : NA} {a b : Int} {p : Pt} {i pl tp r : Nat} {LW : List D}
theorem rlE_ok (h : IsN A N a b p.row []) (hk : A[r]? = some (.lst LW)) {o0 o2 o3 o4 o5 o6 o7 o8 o9 o10 o11 o12 o13 o14 o15 o16 o17 : Option D} : Rk (finR (rlE [o0, some (.ref N.nt), o2, o3, o4, o5, o6, o7, o8, o9, o10, o11, o12, o13, o14, o15, o16, o17] A)) fun v A1 => v = .bl true ∧ A1[r]? = some (.lst LW) := by
  obtain ⟨A1, q, e1, hq, fL⟩ := lying_ok h
  have ho := h.o
  have rr : oEq (.ref q) (.ref A1.length) (A1 ++ [.lst []]) = .ok (.bl true) (A1 ++ [.lst []]) := oEq_lst (l := []) (get_push hq) z9p rfl
  unfold NA.fs at ho
  unfold rlE
  simp_arith [ho, e1, rr]
  exact get_push (fL.get hk (by simp))
theorem right_ok (ab : AB a b) (hp : p.Ok) (hpt : p.t = b) (h : IsN A N a b p.row []) (d : Drw A i) (hpl : A[pl]? = some (.lst [.int a, .int b])) (ne : i ≠ N.ls ∧ pl ≠ N.ls ∧ pl ≠ i) (hk : A[r]? = some (.lst LW)) (ne2 : r ≠ i ∧ r ≠ N.ls) :
    Rk (F_l_right [.ref i, .ref N.nt, .ref pl, p.fields] A) fun v A1 => v = .bl true ∧ A1[r]? = some (.lst LW) := by
  have hrl : p.row.length ≤ 1020 := by rw [p.row_len]; have := hp.dl; omega
  obtain ⟨_, B, e1, rfl, hB, f1⟩ := (packet_ok (A := A) hp).ex
  have hN := h.frame f1
  obtain ⟨C, e2, hN2, f2⟩ := put_ok ab hN hp rfl hpt hB (by decide)
  have hne1 := ne.1
  have dC := (d.frame f1 (by simp)).frame f2 (by rw [List.mem_singleton]; exact ne.1)
  have hplC := f2.get (f1.get hpl (by simp)) (by rw [List.mem_singleton]; exact ne.2.1)
  have nls := lt_of_get hN2.ls
  have ni := dC.lt
  have npl := lt_of_get hplC
  have hkC := f2.get (f1.get hk (by simp)) (by rw [List.mem_singleton]; exact ne2.2)
  have nkC := lt_of_get hkC
  have w0 : Wd (C ++ [.lst [.bl false]]) N a b p i pl C.length r LW [(B.length, [])] ([(B.length, [])].map tb1) := by
    refine ⟨hN2.pushed _, dC.pushed, get_push hplC, z9p, fun t ht hq => ?_, get_push hkC, ⟨by omega, ne2.1, ne2.2⟩, by omega, by omega, by omega, ne.1, ne.2.1, ne.2.2⟩
    rw [List.mem_singleton] at ht
    rw [ht] at hq
    exact absurd rfl hq
  obtain ⟨E, q, e3, hE, f3⟩ := things_ok ab w0.n hp.row hrl
  have w1 := w0.frame f3
  have ho := h.o
  have ho0 := w0.n.o
  have hpl0 := w0.hpl
  have hcl : (cr p.row).length = 8 * p.row.length + 16 := cr_len
  have g0 : atI [D.tup [.int 0, rw_ (cr p.row)]] 0 = some (.tup [.int 0, rw_ (cr p.row)]) := rfl
  have g1 : atI [D.int 0, rw_ (cr p.row)] 1 = some (rw_ (cr p.row)) := rfl
  have hlen : ∀ B, oLen (rw_ (cr p.row)) B = .ok (.int ((8 * p.row.length + 16 : Nat) : Int)) B := fun B => by
    show RE.ok (D.int ((((cr p.row).map D.int).length : Nat) : Int)) B = _
    rw [List.length_map, hcl]
  have ga : atI [D.int a, D.int b] 0 = some (.int a) := rfl
  have gb : atI [D.int a, D.int b] 1 = some (.int b) := rfl
  obtain ⟨v4, F_, a4, b4, e4, d4, f4⟩ := next_ok (n := 4) w1.d (by decide) (by decide)
  have w2 := w1.draw f4 d4
  have efs : p.fields = .tup [.int p.s, .int p.t, .int p.k, .int p.l, .int p.n, .int 0, .bl p.m, rw_ p.d] := rfl
  unfold Pt.args at e1
  unfold NA.fs at ho ho0
  rw [lr_eq, efs]
  simp_arith [ho, hpl, ga, gb, -z4o, e1, e2, ho0, hpl0, e3, hE, g0, g1, hlen, e4]
  rw [← efs]
  refine for_go (R := fun rs => Rk (finR (seqR rs _)) _) (fun j e B => ∃ ts o14 o15 o16 o17, e = [some (.ref i), some (.ref N.nt), some (.ref pl), some p.fields, some (.int p.s), some (.int p.t), some (.int p.k), some (.int p.l), some (.int p.n), some (.int 0), some (.bl p.m), some (rw_ p.d), some (.ref C.length), some (.int ((8 * p.row.length + 16 : Nat) : Int)), o14, o15, o16, o17] ∧ Wd B N a b p i pl C.length r LW ts (ts.map tb1) ∧ ts.length = j + 1)
    ⟨_, none, none, none, none, rfl, w2, rfl⟩ (fun _ _ _ _ _ => trivial) ?_ ?_
  · rintro j _ B d hd ⟨ts, o14, o15, o16, o17, rfl, w, hl⟩
    obtain ⟨rfl, hj⟩ := rgL_get hd
    have key := rlB_ok (o14 := some (.int (0 + (j : Nat) * 1))) (o15 := o15) (o16 := o16) (o17 := o17) ab hp hpt w (by omega) (by omega)
    show Got _ _
    simp_arith []
    refine Trn.imp key ?_
    rintro _ B2 ⟨o15', o16', ts', rfl, w', hl'⟩
    exact ⟨ts', _, _, _, _, rfl, w', by omega⟩
  · rintro _ B ⟨ts, o14, o15, o16, o17, rfl, w, hl⟩
    rw [rgL_len] at hl
    simp_arith []
    refine wh_go (fun k e B => ∃ ts o15 o17, k = ts.length ∧ ts.length ≤ 100 ∧ e = [some (.ref i), some (.ref N.nt), some (.ref pl), some p.fields, some (.int p.s), some (.int p.t), some (.int p.k), some (.int p.l), some (.int p.n), some (.int 0), some (.bl p.m), some (rw_ p.d), some (.ref C.length), some (.int ((8 * p.row.length + 16 : Nat) : Int)), o14, o15, o16, o17] ∧ Wd B N a b p i pl C.length r LW ts (ts.map tb1)) (fun rs => Rk (finR (seqR rs _)) _) (n := ts.length) ⟨ts, o15, o17, rfl, by omega, rfl, w⟩ ?_
    rintro _ _ B ⟨ts, o15, o17, rfl, hl, rfl, w⟩
    have w' : Wd (B ++ [.lst []]) N a b p i pl C.length r LW ts (ts.map tb1) := w.frame .push
    by_cases q : ts.length = 0
    · have e0 := List.length_eq_zero_iff.mp q
      subst e0
      have rr : oNe (.ref C.length) (.ref B.length) (B ++ [.lst []]) = .ok (.bl false) (B ++ [.lst []]) := oNe_lst (l := []) (get_push w.t) z9p rfl
      simp_arith [rr]
      exact rlE_ok w'.n w'.kp
    · have rr : oNe (.ref C.length) (.ref B.length) (B ++ [.lst []]) = .ok (.bl true) (B ++ [.lst []]) := oNe_len (get_push w.t) z9p (by rw [List.length_map]; exact q)
      simp_arith [rr]
      exact rlW_ok ab hp hpt w' (by omega) hl (fun B2 o15' o17' ts' w2 hl2 => ⟨_, by omega, ts', o15', o17', rfl, by omega, rfl, w2⟩)
end
theorem law_true (ns : List Int) (hn : ns.length ≤ 63) : ∃ A, F_law [.scr (ns.map D.int)] [] = .ok (.bl true) A := by
  suffices H : Rk (F_law [.scr (ns.map D.int)] []) fun v A => v = .bl true by
    obtain ⟨_, A, e, rfl⟩ := H.ex; exact ⟨A, e⟩
  obtain ⟨rw0, B0, L, hif, hB0, hL⟩ : ∃ (r : Nat) (B : Hs) (L : List Int), (if (List.take 24 (List.map D.int ns)).isEmpty = true then RE.ok (D.ref 1) [O.lst (List.take 24 (List.map D.int ns)), O.lst [D.int 0]] else RE.ok (D.ref 0) [O.lst (List.take 24 (List.map D.int ns))]) = RE.ok (D.ref r) B ∧ B[r]? = some (.lst (L.map D.int)) ∧ L.length ≤ 63 := by
    by_cases q : (List.take 24 (List.map D.int ns)).isEmpty = true
    · exact ⟨1, _, [0], if_pos q, rfl, by decide⟩
    · refine ⟨0, _, ns.take 24, if_neg q, by rw [List.map_take]; rfl, by rw [List.length_take]; omega⟩
  unfold F_law
  simp_arith []
  rw [hif]
  simp_arith [hB0]
  refine for_go (R := fun rs => Rk (finR (seqR rs _)) _) (fun j e C => ∃ o1 o2 o3 o4 o5 o6 o7, e = [some (.scr (ns.map D.int)), o1, o2, o3, o4, o5, o6, o7] ∧ C[rw0]? = some (.lst (L.map D.int))) ⟨none, none, none, none, none, none, none, rfl, hB0⟩ (fun i e C _ ⟨_, _, _, _, _, _, _, _, h⟩ => h) ?_ ?_
  · rintro j _ A d hd ⟨o1, o2, o3, o4, o5, o6, o7, rfl, hk⟩
    obtain ⟨x, hx, rfl⟩ := enumL_get hd
    rw [List.getElem?_map] at hx
    obtain ⟨n, hn', rfl⟩ := Option.map_eq_some_iff.mp hx
    have nk := lt_of_get hk
    obtain ⟨_, A1, e1, rfl, d1, f1⟩ := (state_ok (p := n) (q := (j : Nat)) (A := A)).ex
    obtain ⟨v2, A2, x2, y2, e2, d2, f2⟩ := next_ok (n := 256) d1 (by decide) (by decide)
    obtain ⟨v3, A3, x3, y3, e3, d3, f3⟩ := next_ok (n := 255) d2 (by decide) (by decide)
    obtain ⟨b, hb⟩ : ∃ b : Int, b = (v2 + 1 + v3) % 256 := ⟨_, rfl⟩
    have ab : AB v2 b := ⟨by omega, by omega, by omega⟩
    have n3 := d3.lt
    have k3 : A3[rw0]? = some (.lst (L.map D.int)) := f3.get (f2.get (f1.get hk (by simp)) (by simp; omega)) (by simp; omega)
    have ga : atI [D.int v2, D.int b] 0 = some (.int v2) := rfl
    have gb : atI [D.int v2, D.int b] 1 = some (.int b) := rfl
    show Got _ _
    simp_arith [e1, e2, e3, ← hb, ga, gb, -z4o]
    obtain ⟨M, hM⟩ : ∃ M, M = A3 ++ [O.lst [D.int v2, D.int b]] ++ [O.dic false false [(D.int b, D.int b)]] ++ [O.dic false false []] ++ [O.dic false false [(D.int v2, D.ref (A3.length + 1)), (D.int b, D.ref (A3.length + 1 + 1))]] := ⟨_, rfl⟩
    have hMl : M.length = A3.length + 4 := by rw [hM]; simp only [List.length_append, List.length_singleton]
    have m0 : M[A3.length]? = some (.lst [.int v2, .int b]) := by rw [hM]; simp_arith []
    have m1 : M[A3.length + 1]? = some (.dic false false [(.int b, .int b)]) := by rw [hM]; simp_arith []
    have m2 : M[A3.length + 1 + 1]? = some (.dic false false []) := by rw [hM]; simp_arith []
    have m3 : M[A3.length + 1 + 1 + 1]? = some (.dic false false [(D.int v2, D.ref (A3.length + 1)), (D.int b, D.ref (A3.length + 1 + 1))]) := by rw [hM]; simp_arith []
    have fM : Fr [] A3 M := by rw [hM]; exact Fr.push.trans (Fr.push.trans (Fr.push.trans Fr.push))
    have dM := d3.frame fM (by simp)
    have kM := fM.get k3 (by simp)
    rw [← hM]
    clear hM
    obtain ⟨v5, M2, x5, y5, e5, d5, f5⟩ := next_ok (n := 3) dM (by decide) (by decide)
    have ln : ∀ q, A3.length ≤ q → q ∉ [A.length] := fun q hq => by rw [List.mem_singleton]; omega
    obtain ⟨_, M3, e6, N, rfl, hNt, hNl, hN, f6⟩ := (init_ok (row := []) ab.ha ab.hb ab.ne x5 (f5.get m3 (ln _ (by omega))) (f5.get m1 (ln _ (by omega))) (f5.get m2 (ln _ (by omega))) (by omega) (by omega) (by omega)).ex
    have lM2 := f5.le
    have pl3 : M3[A3.length]? = some (.lst [.int v2, .int b]) := f6.get (f5.get m0 (ln _ (Nat.le_refl _))) (by simp)
    have k6 : M3[rw0]? = some (.lst (L.map D.int)) := f6.get (f5.get kM (by rw [List.mem_singleton]; omega)) (by simp)
    have d6 := d5.frame f6 (by simp)
    obtain ⟨_, M4, e7, p, rfl, hp, hpt, d7, f7⟩ := (fields_ok (k := (j : Nat)) ab.hb d6 pl3 (by omega)).ex
    obtain ⟨dl, hdl⟩ := d6.lst'
    have hN4 := hN.fr1 f7 hdl (by omega)
    have hN5 : IsN M4 N v2 b p.row [] := ⟨hN4.o, hN4.w, hN4.w1, hN4.rd, hN4.ls, fun i t h => by simp at h, hN4.nd⟩
    obtain ⟨_, M5, e8, rfl, k8⟩ := (right_ok (r := rw0) (LW := L.map D.int) ab hp hpt hN5 d7 (f7.get pl3 (by rw [List.mem_singleton]; omega)) ⟨by omega, by omega, by omega⟩ (f7.get k6 (by rw [List.mem_singleton]; omega)) ⟨by omega, by omega⟩).ex
    simp_arith [e5, e6, e7, e8]
    exact ⟨_, _, _, _, _, _, _, rfl, k8⟩
  · rintro _ C ⟨o1, o2, o3, o4, o5, o6, o7, rfl, hk⟩
    simp_arith []

end Kk

namespace Kk
open PySem L2 SM
open DL (op_addU op_subU op_mulA op_divU op_modU op_powU op_shlU op_shrU op_andU op_orU op_xorU op_ltU op_leU op_gtU op_geU op_isU op_notU call_lenU call_absU call_max2U call_min2U call_intU call_listU call_tupleU call_allU call_sumU call_isiA ix_U sl_U pi_seqU pe_dx pe_dx0 pe_mx pe_mx0 Dx Mx)
def topS (i : Nat) : Stmt := PySem.Challenge.pw_surewire_k53_turned_bits_dropped.main.body.getD i (.Pass ⟨0, 0, 0, 0⟩)
structure Txt (K : PySem.W.Frag) (mg : Str → Option Value) (ca : String → Addr) : Prop where
  g_Net : mg "Net" = some (.ref (ca "Net"))
  g_NoBits : mg "NoBits" = some (.ref (ca "NoBits"))
  g_NoCode : mg "NoCode" = some (.ref (ca "NoCode"))
  g_NoNumber : mg "NoNumber" = some (.ref (ca "NoNumber"))
  g_NoPacket : mg "NoPacket" = some (.ref (ca "NoPacket"))
  g_NoPlace : mg "NoPlace" = some (.ref (ca "NoPlace"))
  g_NoTable : mg "NoTable" = some (.ref (ca "NoTable"))
  g_Packet : mg "Packet" = some (.ref (ca "Packet"))
  g_Thing : mg "Thing" = some (.ref (ca "Thing"))
  g_WireError : mg "WireError" = some (.ref (ca "WireError"))
  e_NoBits : PySem.W.excIn K (ca "NoBits") [.type "ValueError", .type "Exception", .type "BaseException", .type "object"] "ValueError.__new__" = true
  k_NoBits : PySem.W.keepIn K (.ref (ca "NoBits")) = true
  b_NoBits : PySem.W.subIn K (.ref (ca "NoBits")) (.type "BaseException") = some true
  t_NoBits : PySem.W.typeIn K (.ref (ca "NoBits")) = some (.type "type")
  e_NoCode : PySem.W.excIn K (ca "NoCode") [.type "ValueError", .type "Exception", .type "BaseException", .type "object"] "ValueError.__new__" = true
  k_NoCode : PySem.W.keepIn K (.ref (ca "NoCode")) = true
  b_NoCode : PySem.W.subIn K (.ref (ca "NoCode")) (.type "BaseException") = some true
  t_NoCode : PySem.W.typeIn K (.ref (ca "NoCode")) = some (.type "type")
  e_NoNumber : PySem.W.excIn K (ca "NoNumber") [.type "ValueError", .type "Exception", .type "BaseException", .type "object"] "ValueError.__new__" = true
  k_NoNumber : PySem.W.keepIn K (.ref (ca "NoNumber")) = true
  b_NoNumber : PySem.W.subIn K (.ref (ca "NoNumber")) (.type "BaseException") = some true
  t_NoNumber : PySem.W.typeIn K (.ref (ca "NoNumber")) = some (.type "type")
  e_NoPacket : PySem.W.excIn K (ca "NoPacket") [.type "ValueError", .type "Exception", .type "BaseException", .type "object"] "ValueError.__new__" = true
  k_NoPacket : PySem.W.keepIn K (.ref (ca "NoPacket")) = true
  b_NoPacket : PySem.W.subIn K (.ref (ca "NoPacket")) (.type "BaseException") = some true
  t_NoPacket : PySem.W.typeIn K (.ref (ca "NoPacket")) = some (.type "type")
  e_NoPlace : PySem.W.excIn K (ca "NoPlace") [.type "ValueError", .type "Exception", .type "BaseException", .type "object"] "ValueError.__new__" = true
  k_NoPlace : PySem.W.keepIn K (.ref (ca "NoPlace")) = true
  b_NoPlace : PySem.W.subIn K (.ref (ca "NoPlace")) (.type "BaseException") = some true
  t_NoPlace : PySem.W.typeIn K (.ref (ca "NoPlace")) = some (.type "type")
  e_NoTable : PySem.W.excIn K (ca "NoTable") [.type "ValueError", .type "Exception", .type "BaseException", .type "object"] "ValueError.__new__" = true
  k_NoTable : PySem.W.keepIn K (.ref (ca "NoTable")) = true
  b_NoTable : PySem.W.subIn K (.ref (ca "NoTable")) (.type "BaseException") = some true
  t_NoTable : PySem.W.typeIn K (.ref (ca "NoTable")) = some (.type "type")
  mm_NoPacket : AllC (fun C => PySem.W.exmOne K (.ref (ca C)) (.ref (ca "NoPacket")) = some true) cts_NoPacket
  mm_WireError : AllC (fun C => PySem.W.exmOne K (.ref (ca C)) (.ref (ca "WireError")) = some true) cts_WireError
  cl_Net : Cls K (ca "Net")
  mk_Net : PySem.W.makesIn K (ca "Net") = true
  kc_Net : PySem.W.keepIn K (.ref (ca "Net")) = true
  n_Net_code : PySem.W.findIn K (.ref (ca "Net")) "code" = some none
  n_Net_oldest : PySem.W.findIn K (.ref (ca "Net")) "oldest" = some none
  n_Net_roads : PySem.W.findIn K (.ref (ca "Net")) "roads" = some none
  n_Net_ways : PySem.W.findIn K (.ref (ca "Net")) "ways" = some none
  cl_Packet : Cls K (ca "Packet")
  mk_Packet : PySem.W.makesIn K (ca "Packet") = true
  kc_Packet : PySem.W.keepIn K (.ref (ca "Packet")) = true
  n_Packet_data : PySem.W.findIn K (.ref (ca "Packet")) "data" = some none
  n_Packet_first : PySem.W.findIn K (.ref (ca "Packet")) "first" = some none
  n_Packet_kind : PySem.W.findIn K (.ref (ca "Packet")) "kind" = some none
  n_Packet_life : PySem.W.findIn K (.ref (ca "Packet")) "life" = some none
  n_Packet_more : PySem.W.findIn K (.ref (ca "Packet")) "more" = some none
  n_Packet_name : PySem.W.findIn K (.ref (ca "Packet")) "name" = some none
  n_Packet_source : PySem.W.findIn K (.ref (ca "Packet")) "source" = some none
  n_Packet_target : PySem.W.findIn K (.ref (ca "Packet")) "target" = some none
  cl_Thing : Cls K (ca "Thing")
  mk_Thing : PySem.W.makesIn K (ca "Thing") = true
  kc_Thing : PySem.W.keepIn K (.ref (ca "Thing")) = true
  n_Thing_places : PySem.W.findIn K (.ref (ca "Thing")) "places" = some none
  n_Thing_row : PySem.W.findIn K (.ref (ca "Thing")) "row" = some none
  n_Thing_years : PySem.W.findIn K (.ref (ca "Thing")) "years" = some none
  isO : AllC (fun C => DL.InC K (ca C) ∧ btn C = false) os_
  isX : AllC (fun C => ExcC K (ca C) ∧ btn C = false) xs_
  isT : TbOk K ca tb_
  b_all : mg "all" = none
  b_bool : mg "bool" = none
  b_dict : mg "dict" = none
  b_enumerate : mg "enumerate" = none
  b_int : mg "int" = none
  b_isinstance : mg "isinstance" = none
  b_len : mg "len" = none
  b_list : mg "list" = none
  b_min : mg "min" = none
  b_range : mg "range" = none
  b_set : mg "set" = none
  b_sorted : mg "sorted" = none
  b_tuple : mg "tuple" = none
  c_BYTE : ∃ t, mg "BYTE" = some (.int 8 t)
  c_GREATEST : ∃ t, mg "GREATEST" = some (.int 131071 t)
  c_HEAD : ∃ t, mg "HEAD" = some (.int 14 t)
  c_LEAST : ∃ t, mg "LEAST" = some (.int 3 t)
  c_MANY_AT : ∃ t, mg "MANY_AT" = some (.int 10 t)
  c_MORE_AT : ∃ t, mg "MORE_AT" = some (.int 8 t)
  c_MOST_BYTE_packets : ∃ t, mg "MOST_BYTE_packets" = some (.int 255 t)
  c_MOST_BYTE_tables : ∃ t, mg "MOST_BYTE_tables" = some (.int 255 t)
  c_MOST_PLACES : ∃ t, mg "MOST_PLACES" = some (.int 12 t)
  c_MOST_TOGETHER : ∃ t, mg "MOST_TOGETHER" = some (.int 1000 t)
  c_MOST_TURNED : ∃ t, mg "MOST_TURNED" = some (.int 3 t)
  c_MOST_WORD : ∃ t, mg "MOST_WORD" = some (.int 65535 t)
  c_NOUGHT_AT : ∃ t, mg "NOUGHT_AT" = some (.int 9 t)
  c_SUM_AT : ∃ t, mg "SUM_AT" = some (.int 12 t)
  one : True
abbrev s_is_place : Stmt := topS 46
abbrev N_is_place : List Str := ["thing"]
theorem sc_is_place : FnScope N_is_place ["thing"] (defScope s_is_place) := ⟨rfl, rfl, rfl, by decide +kernel, rfl, by decide +kernel, by decide +kernel⟩
theorem ok_is_place {P : Program} {w : World} {K : PySem.W.Frag} {mg : Str → Option Value} {base : Heap} {a : Addr} {fd : FuncData} {ca : String → Addr} (T : Txt K mg ca) (F : Fun K "is_place" "is_place" s_is_place a fd)  :
    FnOk P w K mg base (L2.CX P w) 1 a fd ["thing"] (SpF K ca F_is_place) := by
  refine SM.Fn.ofF F sc_is_place rfl fun cdv A outer s H E hr => ?_
  have nd := sc_is_place.nd
  refine ⟨_, (pss_one (ps_ret (pe_and (pe_callB (call_isiA (K := K)) (by rfl) T.b_isinstance (by decide +kernel) (pa_cons (pv 0) (pa_cons (pe_bltn (v := .ty "int") (by rfl) T.b_int (by decide +kernel) rfl) pa_nil))) (pe_and (pe_not (pe_callB (call_isiA (K := K)) (by rfl) T.b_isinstance (by decide +kernel) (pa_cons (pv 0) (pa_cons (pe_bltn (v := .ty "bool") (by rfl) T.b_bool (by decide +kernel) rfl) pa_nil)))) (pe_one (pe_chain op_leU op_leU pe_int (pv 0) (pe_glob (v := .int 255) rfl T.c_MOST_BYTE_tables.choose_spec ⟨_, rfl⟩))))))), ?_⟩
  exact (ss_ret (se_and (se_cb (cs_isi T.isO T.isX T.isT) (sa_cons se_var (sa_cons se_ty sa_nil))) (se_and (se_not (se_cb (cs_isi T.isO T.isX T.isT) (sa_cons se_var (sa_cons se_ty sa_nil)))) (se_ch os_le os_le se_int se_var se_int))))
abbrev s_is_other : Stmt := topS 47
abbrev N_is_other : List Str := ["thing", "place", "table"]
theorem sc_is_other : FnScope N_is_other ["thing", "place", "table"] (defScope s_is_other) := ⟨rfl, rfl, rfl, by decide +kernel, rfl, by decide +kernel, by decide +kernel⟩
theorem ok_is_other {P : Program} {w : World} {K : PySem.W.Frag} {mg : Str → Option Value} {base : Heap} {a : Addr} {fd : FuncData} {ca : String → Addr} (T : Txt K mg ca) (F : Fun K "is_other" "is_other" s_is_other a fd) (C_is_place : Dx P w K mg base 1 "is_place" (SpF K ca F_is_place)) :
    FnOk P w K mg base (L2.CX P w) 2 a fd ["thing", "place", "table"] (SpF K ca F_is_other) := by
  refine SM.Fn.ofF F sc_is_other rfl fun cdv A outer s H E hr => ?_
  have nd := sc_is_other.nd
  refine ⟨_, (pss_one (ps_ret (pe_and (pe_dx C_is_place (takes_of rfl rfl rfl rfl) hr (by decide) rfl (pa_cons (pv 0) pa_nil)) (pe_and (pe_cmpR (op_inAll (K := K) (DL.room65 hr)) (pv 0) (pv 2) rfl) (pe_one (pe_cmpR (op_nePK (K := K) (DL.room65 hr)) (pv 0) (pv 1) (nomark _))))))), ?_⟩
  exact (ss_ret (se_and (se_call (sa_cons se_var sa_nil)) (se_and (se_op os_in se_var se_var) (se_op os_ne se_var se_var))))
abbrev s_are_ways : Stmt := topS 48
abbrev N_are_ways : List Str := ["thing", "place", "table", "target", "neighbour"]
theorem sc_are_ways : FnScope N_are_ways ["thing", "place", "table"] (defScope s_are_ways) := ⟨rfl, rfl, rfl, by decide +kernel, rfl, by decide +kernel, by decide +kernel⟩
theorem ok_are_ways {P : Program} {w : World} {K : PySem.W.Frag} {mg : Str → Option Value} {base : Heap} {a : Addr} {fd : FuncData} {ca : String → Addr} (T : Txt K mg ca) (F : Fun K "are_ways" "are_ways" s_are_ways a fd) (C_is_other : Dx P w K mg base 2 "is_other" (SpF K ca F_is_other)) :
    FnOk P w K mg base (L2.CX P w) 3 a fd ["thing", "place", "table"] (SpF K ca F_are_ways) := by
  refine SM.Fn.ofF F sc_are_ways rfl fun cdv A outer s H E hr => ?_
  have nd := sc_are_ways.nd
  refine ⟨_, (pss_cons (ps_if (pt_not (pt_val (pe_callB (call_isiA (K := K)) (by rfl) T.b_isinstance (by decide +kernel) (pa_cons (pv 0) (pa_cons (pe_bltn (v := .ty "dict") (by rfl) T.b_dict (by decide +kernel) rfl) pa_nil))))) (pss_one (ps_ret pe_bl)) pss_nil) (pss_cons (ps_lock (ps_for (passes_of rfl) rfl (pi_items (pv 0)) (pg_tup rfl (pgs_cons (pg_name (i := 3) nd rfl (by first | exact Or.inl rfl | exact Or.inr rfl)) (pgs_cons (pg_name (i := 4) nd rfl (by first | exact Or.inl rfl | exact Or.inr rfl)) pgs_nil))) (pss_one (ps_if (PW.pt (pw_or (pt_not (pt_val (pe_dx C_is_other (takes_of rfl rfl rfl rfl) hr (by decide) rfl (pa_cons (pv 3) (pa_cons (pv 1) (pa_cons (pv 2) pa_nil)))))) (pw_or1 (pt_not (pt_val (pe_dx C_is_other (takes_of rfl rfl rfl rfl) hr (by decide) rfl (pa_cons (pv 4) (pa_cons (pv 1) (pa_cons (pv 2) pa_nil))))))))) (pss_one (ps_ret pe_bl)) pss_nil)))) (pss_one (ps_ret pe_bl)))), ?_⟩
  exact (ss_seq (ss_if (st_not (st_b (se_cb (cs_isi T.isO T.isX T.isT) (sa_cons se_var (sa_cons se_ty sa_nil))))) (ss_ret se_bl) ss_next) (ss_seq (ss_lk (ss_for (sw_items se_var) (sg_tup (sgs_cons sg_name (sgs_cons sg_name sgs_nil)) rfl) (ss_if (st_or (st_not (st_b (se_call (sa_cons se_var (sa_cons se_var (sa_cons se_var sa_nil)))))) (st_not (st_b (se_call (sa_cons se_var (sa_cons se_var (sa_cons se_var sa_nil))))))) (ss_ret se_bl) ss_next))) (ss_ret se_bl)))
abbrev s_need_table : Stmt := topS 49
abbrev N_need_table : List Str := ["thing", "place", "ways"]
theorem sc_need_table : FnScope N_need_table ["thing"] (defScope s_need_table) := ⟨rfl, rfl, rfl, by decide +kernel, rfl, by decide +kernel, by decide +kernel⟩
theorem ok_need_table {P : Program} {w : World} {K : PySem.W.Frag} {mg : Str → Option Value} {base : Heap} {a : Addr} {fd : FuncData} {ca : String → Addr} (T : Txt K mg ca) (F : Fun K "need_table" "need_table" s_need_table a fd) (C_are_ways : Dx P w K mg base 3 "are_ways" (SpF K ca F_are_ways)) (C_is_place : Dx P w K mg base 1 "is_place" (SpF K ca F_is_place)) :
    FnOk P w K mg base (L2.CX P w) 4 a fd ["thing"] (SpF K ca F_need_table) := by
  refine SM.Fn.ofF F sc_need_table rfl fun cdv A outer s H E hr => ?_
  have nd := sc_need_table.nd
  refine ⟨_, (pss_cons (ps_if (PW.pt (pw_or (pt_not (pt_val (pe_callB (call_isiA (K := K)) (by rfl) T.b_isinstance (by decide +kernel) (pa_cons (pv 0) (pa_cons (pe_bltn (v := .ty "dict") (by rfl) T.b_dict (by decide +kernel) rfl) pa_nil))))) (pw_or1 (pt_not (pt_chain op_leU op_leU pe_int (pe_callB (call_lenU (K := K)) (by rfl) T.b_len (by decide +kernel) (pa_cons (pv 0) pa_nil)) (pe_glob (v := .int 12) rfl T.c_MOST_PLACES.choose_spec ⟨_, rfl⟩)))))) (pss_one (DL.ps_raiseC rfl (takes_of rfl rfl rfl rfl) (pmk_own PySem.F.excBase_ValueError T.e_NoTable T.g_NoTable T.k_NoTable (raises_own T.b_NoTable T.t_NoTable) rfl))) pss_nil) (pss_cons (ps_if (pt_not (pt_val (pe_callB (call_allU (K := K) rfl) (by rfl) T.b_all (by decide +kernel) (pa_cons (pe_lock (pe_lc (own := [("place", 1)]) (g := (gName 1)) rfl nd (pi_keys (pv 0)) (blkOk_by (own := [("place", 1)]) (N := N_need_table) (sc := defScope s_need_table) (by decide +kernel)) (fun _ _ _ _ _ => (pg_name (i := 1) nd rfl (by first | exact Or.inl rfl | exact Or.inr rfl))) (fun _ _ _ _ _ => pts_nil) (fun _ _ _ _ _ => (pe_dx0 C_is_place hr (by decide) rfl (pa_cons (pv 1) pa_nil))))) pa_nil)))) (pss_one (DL.ps_raiseC rfl (takes_of rfl rfl rfl rfl) (pmk_own PySem.F.excBase_ValueError T.e_NoTable T.g_NoTable T.k_NoTable (raises_own T.b_NoTable T.t_NoTable) rfl))) pss_nil) (pss_one (ps_lock (ps_for (passes_of rfl) rfl (pi_items (pv 0)) (pg_tup rfl (pgs_cons (pg_name (i := 1) nd rfl (by first | exact Or.inl rfl | exact Or.inr rfl)) (pgs_cons (pg_name (i := 2) nd rfl (by first | exact Or.inl rfl | exact Or.inr rfl)) pgs_nil))) (pss_one (ps_if (pt_not (pt_val (pe_dx C_are_ways (takes_of rfl rfl rfl rfl) hr (by decide) rfl (pa_cons (pv 2) (pa_cons (pv 1) (pa_cons (pv 0) pa_nil)))))) (pss_one (DL.ps_raiseC rfl (takes_of rfl rfl rfl rfl) (pmk_own PySem.F.excBase_ValueError T.e_NoTable T.g_NoTable T.k_NoTable (raises_own T.b_NoTable T.t_NoTable) rfl))) pss_nil))))))), ?_⟩
  exact (ss_seq (ss_if (st_or (st_not (st_b (se_cb (cs_isi T.isO T.isX T.isT) (sa_cons se_var (sa_cons se_ty sa_nil))))) (st_not (st_test (se_ch os_le os_le se_int (se_cb cs_len (sa_cons se_var sa_nil)) se_int)))) (ss_raise rfl) ss_next) (ss_seq (ss_if (st_not (st_b (se_cb cs_all (sa_cons (se_lk (se_lc (W2 := fun _ _ _ _ => False) (sw_keys se_var) sg_name (by decide) st_yes (se_call0 (sa_cons se_var sa_nil)))) sa_nil)))) (ss_raise rfl) ss_next) (ss_lk (ss_for (sw_items se_var) (sg_tup (sgs_cons sg_name (sgs_cons sg_name sgs_nil)) rfl) (ss_if (st_not (st_b (se_call (sa_cons se_var (sa_cons se_var (sa_cons se_var sa_nil)))))) (ss_raise rfl) ss_next)))))
abbrev s_need_code : Stmt := topS 19
abbrev N_need_code : List Str := ["code"]
theorem sc_need_code : FnScope N_need_code ["code"] (defScope s_need_code) := ⟨rfl, rfl, rfl, by decide +kernel, rfl, by decide +kernel, by decide +kernel⟩
theorem ok_need_code {P : Program} {w : World} {K : PySem.W.Frag} {mg : Str → Option Value} {base : Heap} {a : Addr} {fd : FuncData} {ca : String → Addr} (T : Txt K mg ca) (F : Fun K "need_code" "need_code" s_need_code a fd)  :
    FnOk P w K mg base (L2.CX P w) 1 a fd ["code"] (SpF K ca F_need_code) := by
  refine SM.Fn.ofF F sc_need_code rfl fun cdv A outer s H E hr => ?_
  have nd := sc_need_code.nd
  refine ⟨_, (pss_one (ps_if (PW.pt (pw_or (pt_not (pt_val (pe_callB (call_isiA (K := K)) (by rfl) T.b_isinstance (by decide +kernel) (pa_cons (pv 0) (pa_cons (pe_bltn (v := .ty "int") (by rfl) T.b_int (by decide +kernel) rfl) pa_nil))))) (pw_or (pt_val (pe_callB (call_isiA (K := K)) (by rfl) T.b_isinstance (by decide +kernel) (pa_cons (pv 0) (pa_cons (pe_bltn (v := .ty "bool") (by rfl) T.b_bool (by decide +kernel) rfl) pa_nil)))) (pw_or (pt_not (pt_chain op_leU op_leU (pe_glob (v := .int 3) rfl T.c_LEAST.choose_spec ⟨_, rfl⟩) (pv 0) (pe_glob (v := .int 131071) rfl T.c_GREATEST.choose_spec ⟨_, rfl⟩))) (pw_or1 (pt_cmpR (op_eqPK (K := K) (DL.room65 hr)) (pe_op op_modU (pv 0) pe_int) pe_int (nomark _))))))) (pss_one (DL.ps_raiseC rfl (takes_of rfl rfl rfl rfl) (pmk_own PySem.F.excBase_ValueError T.e_NoCode T.g_NoCode T.k_NoCode (raises_own T.b_NoCode T.t_NoCode) rfl))) pss_nil)), ?_⟩
  exact (ss_if (st_or (st_not (st_b (se_cb (cs_isi T.isO T.isX T.isT) (sa_cons se_var (sa_cons se_ty sa_nil))))) (st_or (st_b (se_cb (cs_isi T.isO T.isX T.isT) (sa_cons se_var (sa_cons se_ty sa_nil)))) (st_or (st_not (st_test (se_ch os_le os_le se_int se_var se_int))) (st_test (se_op os_eq (se_op os_mod se_var se_int) se_int))))) (ss_raise rfl) ss_next)
abbrev s_width : Stmt := topS 20
abbrev N_width : List Str := ["code"]
theorem sc_width : FnScope N_width ["code"] (defScope s_width) := ⟨rfl, rfl, rfl, by decide +kernel, rfl, by decide +kernel, by decide +kernel⟩
theorem ok_width {P : Program} {w : World} {K : PySem.W.Frag} {mg : Str → Option Value} {base : Heap} {a : Addr} {fd : FuncData} {ca : String → Addr} (T : Txt K mg ca) (F : Fun K "width" "width" s_width a fd) (C_need_code : Dx P w K mg base 1 "need_code" (SpF K ca F_need_code)) :
    FnOk P w K mg base (L2.CX P w) 2 a fd ["code"] (SpF K ca F_width) := by
  refine SM.Fn.ofF F sc_width rfl fun cdv A outer s H E hr => ?_
  have nd := sc_width.nd
  refine ⟨_, (pss_cons (ps_expr (pe_dx C_need_code (takes_of rfl rfl rfl rfl) hr (by decide) rfl (pa_cons (pv 0) pa_nil))) (pss_one (ps_ret (pe_op op_subU (pe_bits (pv 0)) pe_int)))), ?_⟩
  exact (ss_seq (ss_drop (se_call (sa_cons se_var sa_nil))) (ss_ret (se_op os_sub (se_bits se_var) se_int)))
abbrev s_Net___init__ : Stmt := inClass (topS 58) 0
abbrev N_Net___init__ : List Str := ["self", "table", "code", "oldest", "place", "ways", "neighbour"]
theorem sc_Net___init__ : FnScope N_Net___init__ ["self", "table", "code", "oldest"] (defScope s_Net___init__) := ⟨rfl, rfl, rfl, by decide +kernel, rfl, by decide +kernel, by decide +kernel⟩
theorem ok_Net___init__ {P : Program} {w : World} {K : PySem.W.Frag} {mg : Str → Option Value} {base : Heap} {a : Addr} {fd : FuncData} {ca : String → Addr} (T : Txt K mg ca) (F : Fun K "__init__" "Net.__init__" s_Net___init__ a fd) (C_need_table : Dx P w K mg base 4 "need_table" (SpF K ca F_need_table)) (C_width : Dx P w K mg base 2 "width" (SpF K ca F_width)) :
    FnOk P w K mg base (L2.CX P w) 5 a fd ["self", "table", "code", "oldest"] (SpF K ca F_Net___init__) := by
  refine SM.Fn.ofF F sc_Net___init__ rfl fun cdv A outer s H E hr => ?_
  have nd := sc_Net___init__.nd
  refine ⟨_, (pss_cons (ps_expr (pe_dx C_need_table (takes_of rfl rfl rfl rfl) hr (by decide) rfl (pa_cons (pv 1) pa_nil))) (pss_cons (ps_expr (pe_dx C_width (takes_of rfl rfl rfl rfl) hr (by decide) rfl (pa_cons (pv 2) pa_nil))) (pss_cons (ps_if (PW.pt (pw_or (pt_not (pt_val (pe_callB (call_isiA (K := K)) (by rfl) T.b_isinstance (by decide +kernel) (pa_cons (pv 3) (pa_cons (pe_bltn (v := .ty "int") (by rfl) T.b_int (by decide +kernel) rfl) pa_nil))))) (pw_or (pt_val (pe_callB (call_isiA (K := K)) (by rfl) T.b_isinstance (by decide +kernel) (pa_cons (pv 3) (pa_cons (pe_bltn (v := .ty "bool") (by rfl) T.b_bool (by decide +kernel) rfl) pa_nil)))) (pw_or1 (pt_cmpR op_ltU (pv 3) pe_int (nomark _)))))) (pss_one (DL.ps_raiseC rfl (takes_of rfl rfl rfl rfl) (pmk_own PySem.F.excBase_ValueError T.e_NoNumber T.g_NoNumber T.k_NoNumber (raises_own T.b_NoNumber T.t_NoNumber) rfl))) pss_nil) (pss_cons (ps_fld (pv 0) (pe_callTy (call_dictA (K := K) rfl) (by rfl) T.b_dict (by decide +kernel) (pa_cons (pe_lock (pe_lc (own := [("place", 4), ("ways", 5)]) (g := (gTup _ 2 (gCons (gName 4) (gCons (gName 5) gNil)))) rfl nd (pi_items (pv 1)) (blkOk_by (own := [("place", 4), ("ways", 5)]) (N := N_Net___init__) (sc := defScope s_Net___init__) (by decide +kernel)) (fun _ _ _ _ _ => (pg_tup rfl (pgs_cons (pg_name (i := 4) nd rfl (by first | exact Or.inl rfl | exact Or.inr rfl)) (pgs_cons (pg_name (i := 5) nd rfl (by first | exact Or.inl rfl | exact Or.inr rfl)) pgs_nil)))) (fun _ _ _ _ _ => pts_nil) (fun _ _ _ _ _ => (pe_tup (pa_cons (pv 4) (pa_cons (pe_callTy (call_dictA (K := K) rfl) (by rfl) T.b_dict (by decide +kernel) (pa_cons (pv 5) pa_nil)) pa_nil)))))) pa_nil)) rfl) (pss_cons (ps_fld (pv 0) (pv 2) rfl) (pss_cons (ps_fld (pv 0) (pv 3) rfl) (pss_cons (ps_fld (pv 0) pe_dnewT rfl) (pss_one (ps_lock (ps_for (passes_of rfl) rfl (pi_items (pv 1)) (pg_tup rfl (pgs_cons (pg_name (i := 4) nd rfl (by first | exact Or.inl rfl | exact Or.inr rfl)) (pgs_cons (pg_name (i := 5) nd rfl (by first | exact Or.inl rfl | exact Or.inr rfl)) pgs_nil))) (pss_one (ps_lock (ps_for (passes_of rfl) rfl (pi_values (pv 5)) (pg_name (i := 6) nd rfl (by first | exact Or.inl rfl | exact Or.inr rfl)) (pss_one (PS.or (ps_asg (pe_lst pa_nil) (pg_sub (pe_fld (pv 0) rfl) (pe_tup (pa_cons (pv 4) (pa_cons (pv 6) pa_nil))) set_list)) (ps_dput (DL.room65w hr) (pe_fld (pv 0) rfl) (pe_tup (pa_cons (pv 4) (pa_cons (pv 6) pa_nil))) (pe_lst pa_nil) rfl)))))))))))))))), ?_⟩
  exact (ss_seq (ss_drop (se_call (sa_cons se_var sa_nil))) (ss_seq (ss_drop (se_call (sa_cons se_var sa_nil))) (ss_seq (ss_if (st_or (st_not (st_b (se_cb (cs_isi T.isO T.isX T.isT) (sa_cons se_var (sa_cons se_ty sa_nil))))) (st_or (st_b (se_cb (cs_isi T.isO T.isX T.isT) (sa_cons se_var (sa_cons se_ty sa_nil)))) (st_test (se_op os_lt se_var se_int)))) (ss_raise rfl) ss_next) (ss_seq (ss_fl (by decide +kernel) ⟨⟨T.cl_Net, T.n_Net_ways⟩, trivial⟩ se_var (se_cb cs_dict (sa_cons (se_lk (se_lc (W2 := fun _ _ _ _ => False) (sw_items se_var) (sg_tup (sgs_cons sg_name (sgs_cons sg_name sgs_nil)) rfl) (by decide) st_yes (se_tup (sa_cons se_var (sa_cons (se_cb cs_dict (sa_cons se_var sa_nil)) sa_nil))))) sa_nil))) (ss_seq (ss_fl (by decide +kernel) ⟨⟨T.cl_Net, T.n_Net_code⟩, trivial⟩ se_var se_var) (ss_seq (ss_fl (by decide +kernel) ⟨⟨T.cl_Net, T.n_Net_oldest⟩, trivial⟩ se_var se_var) (ss_seq (ss_fl (by decide +kernel) ⟨⟨T.cl_Net, T.n_Net_roads⟩, trivial⟩ se_var se_dnewT) (ss_lk (ss_for (sw_items se_var) (sg_tup (sgs_cons sg_name (sgs_cons sg_name sgs_nil)) rfl) (ss_lk (ss_for (sw_vals se_var) sg_name (ss_put (se_fld (by decide +kernel) ⟨⟨T.cl_Net, T.n_Net_roads⟩, trivial⟩ se_var) (se_tup (sa_cons se_var (sa_cons se_var sa_nil))) (se_lst sa_nil)))))))))))))
abbrev s_l_next : Stmt := topS 61
abbrev N_l_next : List Str := ["_law_state_here", "_law_size", "_law_number", "_law_mixed"]
theorem sc_l_next : FnScope N_l_next ["_law_state_here", "_law_size"] (defScope s_l_next) := ⟨rfl, rfl, rfl, by decide +kernel, rfl, by decide +kernel, by decide +kernel⟩
theorem ok_l_next {P : Program} {w : World} {K : PySem.W.Frag} {mg : Str → Option Value} {base : Heap} {a : Addr} {fd : FuncData} {ca : String → Addr} (T : Txt K mg ca) (F : Fun K "_law_next" "_law_next" s_l_next a fd)  :
    FnOk P w K mg base (L2.CX P w) 1 a fd ["_law_state_here", "_law_size"] (SpF K ca F_l_next) := by
  refine SM.Fn.ofF F sc_l_next rfl fun cdv A outer s H E hr => ?_
  have nd := sc_l_next.nd
  refine ⟨_, (pss_cons (ps_if (PW.pt (pw_and (pt_cmpR (op_eqPK (K := K) (DL.room65 hr)) (pe_ix (ix_U (K := K)) (pv 0) pe_int (fun _ _ => rfl)) pe_int (nomark _)) (pw_and1 (pt_cmpR (op_notInAll (K := K) (DL.room65 hr)) (pe_ix (ix_U (K := K)) (pv 0) pe_int (fun _ _ => rfl)) (pe_tup (pa_cons pe_int (pa_cons (pe_un un_neg pe_int) pa_nil))) rfl)))) (pss_cons (ps_set (i := 2) nd rfl (by first | exact Or.inl rfl | exact Or.inr rfl) (pe_op op_modU (pe_ix (ix_U (K := K)) (pv 0) pe_int (fun _ _ => rfl)) (pv 1))) (pss_cons (PS.or (ps_asg (pe_op op_divU (pe_ix (ix_U (K := K)) (pv 0) pe_int (fun _ _ => rfl)) (pv 1)) (pg_sub (pv 0) pe_int set_list)) (ps_dput (DL.room65w hr) (pv 0) pe_int (pe_op op_divU (pe_ix (ix_U (K := K)) (pv 0) pe_int (fun _ _ => rfl)) (pv 1)) rfl)) (pss_one (ps_ret (pv 2))))) pss_nil) (pss_cons (ps_if (pt_cmpR (op_eqPK (K := K) (DL.room65 hr)) (pe_ix (ix_U (K := K)) (pv 0) pe_int (fun _ _ => rfl)) pe_int (nomark _)) (pss_cons (PS.or (ps_asg (pe_ix (ix_U (K := K)) (pv 0) pe_int (fun _ _ => rfl)) (pg_sub (pv 0) pe_int set_list)) (ps_dput (DL.room65w hr) (pv 0) pe_int (pe_ix (ix_U (K := K)) (pv 0) pe_int (fun _ _ => rfl)) rfl)) (pss_one (PS.or (ps_asg pe_int (pg_sub (pv 0) pe_int set_list)) (ps_dput (DL.room65w hr) (pv 0) pe_int pe_int rfl)))) pss_nil) (pss_cons (PS.or (ps_asg (pe_op op_modU (pe_op (op_addU (K := K)) (pe_op (op_mulA (K := K)) (pe_ix (ix_U (K := K)) (pv 0) pe_int (fun _ _ => rfl)) pe_int) pe_int) pe_int) (pg_sub (pv 0) pe_int set_list)) (ps_dput (DL.room65w hr) (pv 0) pe_int (pe_op op_modU (pe_op (op_addU (K := K)) (pe_op (op_mulA (K := K)) (pe_ix (ix_U (K := K)) (pv 0) pe_int (fun _ _ => rfl)) pe_int) pe_int) pe_int) rfl)) (pss_cons (ps_set (i := 3) nd rfl (by first | exact Or.inl rfl | exact Or.inr rfl) (pe_op op_modU (pe_op (op_addU (K := K)) (pe_op (op_mulA (K := K)) (pe_ix (ix_U (K := K)) (pv 0) pe_int (fun _ _ => rfl)) (pe_ix (ix_U (K := K)) (pv 0) pe_int (fun _ _ => rfl))) (pe_op (op_mulA (K := K)) pe_int (pe_ix (ix_U (K := K)) (pv 0) pe_int (fun _ _ => rfl)))) pe_int)) (pss_one (ps_ret (pe_op op_modU (pe_op op_divU (pe_op op_modU (pe_op (op_addU (K := K)) (pe_op (op_mulA (K := K)) (pv 3) (pv 3)) (pe_op (op_mulA (K := K)) pe_int (pv 3))) pe_int) pe_int) (pv 1)))))))), ?_⟩
  exact (ss_seq (ss_if (st_and (st_test (se_op os_eq (se_op os_ix se_var se_int) se_int)) (st_test (se_op os_notin (se_op os_ix se_var se_int) (se_tup (sa_cons se_int (sa_cons (se_un us_neg se_int) sa_nil)))))) (ss_seq (ss_set (se_op os_mod (se_op os_ix se_var se_int) se_var)) (ss_seq (ss_put se_var se_int (se_op os_div (se_op os_ix se_var se_int) se_var)) (ss_ret se_var))) ss_next) (ss_seq (ss_if (st_test (se_op os_eq (se_op os_ix se_var se_int) se_int)) (ss_seq (ss_put se_var se_int (se_op os_ix se_var se_int)) (ss_put se_var se_int se_int)) ss_next) (ss_seq (ss_put se_var se_int (se_op os_mod (se_op os_add (se_op os_mul (se_op os_ix se_var se_int) se_int) se_int) se_int)) (ss_seq (ss_set (se_op os_mod (se_op os_add (se_op os_mul (se_op os_ix se_var se_int) (se_op os_ix se_var se_int)) (se_op os_mul se_int (se_op os_ix se_var se_int))) se_int)) (ss_ret (se_op os_mod (se_op os_div (se_op os_mod (se_op os_add (se_op os_mul se_var se_var) (se_op os_mul se_int se_var)) se_int) se_int) se_var))))))
abbrev s_l_fields : Stmt := topS 62
abbrev N_l_fields : List Str := ["_law_state_here", "_law_places", "_law_k", "_law_many", "_law_some", "_law_data", "_law_life", "_law_name"]
theorem sc_l_fields : FnScope N_l_fields ["_law_state_here", "_law_places", "_law_k"] (defScope s_l_fields) := ⟨rfl, rfl, rfl, by decide +kernel, rfl, by decide +kernel, by decide +kernel⟩
theorem ok_l_fields {P : Program} {w : World} {K : PySem.W.Frag} {mg : Str → Option Value} {base : Heap} {a : Addr} {fd : FuncData} {ca : String → Addr} (T : Txt K mg ca) (F : Fun K "_law_fields" "_law_fields" s_l_fields a fd) (C_l_next : Dx P w K mg base 1 "_law_next" (SpF K ca F_l_next)) :
    FnOk P w K mg base (L2.CX P w) 2 a fd ["_law_state_here", "_law_places", "_law_k"] (SpF K ca F_l_fields) := by
  refine SM.Fn.ofF F sc_l_fields rfl fun cdv A outer s H E hr => ?_
  have nd := sc_l_fields.nd
  refine ⟨_, (pss_cons (ps_set (i := 3) nd rfl (by first | exact Or.inl rfl | exact Or.inr rfl) (pe_ix (ix_U (K := K)) (pe_lst (pa_cons (pe_dx C_l_next (takes_of rfl rfl rfl rfl) hr (by decide) rfl (pa_cons (pv 0) (pa_cons pe_int pa_nil))) (pa_cons (pe_dx C_l_next (takes_of rfl rfl rfl rfl) hr (by decide) rfl (pa_cons (pv 0) (pa_cons pe_int pa_nil))) pa_nil))) (pe_callTy call_intU (by rfl) T.b_int (by decide +kernel) (pa_cons (pe_and (pe_cmpR (op_eqPK (K := K) (DL.room65 hr)) (pe_dx C_l_next (takes_of rfl rfl rfl rfl) hr (by decide) rfl (pa_cons (pv 0) (pa_cons pe_int pa_nil))) pe_int (nomark _)) (pe_one (pe_cmpR (op_eqPK (K := K) (DL.room65 hr)) (pv 2) pe_int (nomark _)))) pa_nil)) (fun _ _ => rfl))) (pss_cons (ps_setLc (i := 4) (own := [("_law_k", 2)]) (g := (gName 2)) rfl nd rfl rfl (sw_true rfl rfl rfl (by decide +kernel)) (pi_range1 rfl T.b_range (pa_cons (pe_callB (call_min2U rfl) (by rfl) T.b_min (by decide +kernel) (pa_cons (pv 3) (pa_cons pe_int pa_nil))) pa_nil)) (blkOk_by (own := [("_law_k", 2)]) (N := N_l_fields) (sc := defScope s_l_fields) (by decide +kernel)) (fun _ _ _ _ _ => (pg_name (i := 2) nd rfl (by first | exact Or.inl rfl | exact Or.inr rfl))) (fun _ _ _ _ _ => pts_nil) (fun _ _ _ _ _ => (pe_dx0 C_l_next hr (by decide) rfl (pa_cons (pv 0) (pa_cons pe_int pa_nil))))) (pss_cons (ps_set (i := 5) nd rfl (by first | exact Or.inl rfl | exact Or.inr rfl) (pe_callTy (call_tupleU (K := K)) (by rfl) T.b_tuple (by decide +kernel) (pa_cons (pe_slice (sl_U (K := K)) (pe_op (op_mulA (K := K)) (pv 4) pe_int) po_none (po_some (pv 3))) pa_nil))) (pss_cons (ps_set (i := 6) nd rfl (by first | exact Or.inl rfl | exact Or.inr rfl) (pe_op (op_addU (K := K)) pe_int (pe_dx C_l_next (takes_of rfl rfl rfl rfl) hr (by decide) rfl (pa_cons (pv 0) (pa_cons pe_int pa_nil))))) (pss_cons (ps_set (i := 7) nd rfl (by first | exact Or.inl rfl | exact Or.inr rfl) (pe_dx C_l_next (takes_of rfl rfl rfl rfl) hr (by decide) rfl (pa_cons (pv 0) (pa_cons pe_int pa_nil)))) (pss_one (ps_ret (pe_tup (pa_cons (pe_dx C_l_next (takes_of rfl rfl rfl rfl) hr (by decide) rfl (pa_cons (pv 0) (pa_cons pe_int pa_nil))) (pa_cons (pe_ix (ix_U (K := K)) (pv 1) pe_int (fun _ _ => rfl)) (pa_cons (pe_dx C_l_next (takes_of rfl rfl rfl rfl) hr (by decide) rfl (pa_cons (pv 0) (pa_cons pe_int pa_nil))) (pa_cons (pv 6) (pa_cons (pv 7) (pa_cons pe_int (pa_cons (pe_cmpR (op_eqPK (K := K) (DL.room65 hr)) (pe_dx C_l_next (takes_of rfl rfl rfl rfl) hr (by decide) rfl (pa_cons (pv 0) (pa_cons pe_int pa_nil))) pe_int (nomark _)) (pa_cons (pv 5) pa_nil)))))))))))))))), ?_⟩
  exact (ss_seq (ss_set (se_op os_ix (se_lst (sa_cons (se_call (sa_cons se_var (sa_cons se_int sa_nil))) (sa_cons (se_call (sa_cons se_var (sa_cons se_int sa_nil))) sa_nil))) (se_cb cs_int (sa_cons (se_and (se_op os_eq (se_call (sa_cons se_var (sa_cons se_int sa_nil))) se_int) (se_op os_eq se_var se_int)) sa_nil)))) (ss_seq (ss_set (se_lc (W2 := fun _ _ _ _ => False) (sw_r1 (sa_cons (se_cb cs_min2 (sa_cons se_var (sa_cons se_int sa_nil))) sa_nil)) sg_name (by decide) st_yes (se_call0 (sa_cons se_var (sa_cons se_int sa_nil))))) (ss_seq (ss_set (se_cb cs_tuple (sa_cons (se_sl sls_all (se_op os_mul se_var se_int) so_none (so_some se_var)) sa_nil))) (ss_seq (ss_set (se_op os_add se_int (se_call (sa_cons se_var (sa_cons se_int sa_nil))))) (ss_seq (ss_set (se_call (sa_cons se_var (sa_cons se_int sa_nil)))) (ss_ret (se_tup (sa_cons (se_call (sa_cons se_var (sa_cons se_int sa_nil))) (sa_cons (se_op os_ix se_var se_int) (sa_cons (se_call (sa_cons se_var (sa_cons se_int sa_nil))) (sa_cons se_var (sa_cons se_var (sa_cons se_int (sa_cons (se_op os_eq (se_call (sa_cons se_var (sa_cons se_int sa_nil))) se_int) (sa_cons se_var sa_nil)))))))))))))))
abbrev s_Thing___init__ : Stmt := inClass (topS 57) 0
abbrev N_Thing___init__ : List Str := ["self", "row", "years", "places"]
theorem sc_Thing___init__ : FnScope N_Thing___init__ ["self", "row", "years", "places"] (defScope s_Thing___init__) := ⟨rfl, rfl, rfl, by decide +kernel, rfl, by decide +kernel, by decide +kernel⟩
theorem ok_Thing___init__ {P : Program} {w : World} {K : PySem.W.Frag} {mg : Str → Option Value} {base : Heap} {a : Addr} {fd : FuncData} {ca : String → Addr} (T : Txt K mg ca) (F : Fun K "__init__" "Thing.__init__" s_Thing___init__ a fd)  :
    FnOk P w K mg base (L2.CX P w) 1 a fd ["self", "row", "years", "places"] (SpF K ca F_Thing___init__) := by
  refine SM.Fn.ofF F sc_Thing___init__ rfl fun cdv A outer s H E hr => ?_
  have nd := sc_Thing___init__.nd
  refine ⟨_, (pss_cons (ps_fld (pv 0) (pv 1) rfl) (pss_cons (ps_fld (pv 0) (pv 2) rfl) (pss_one (ps_fld (pv 0) (pv 3) rfl)))), ?_⟩
  exact (ss_seq (ss_fl (by decide +kernel) ⟨⟨T.cl_Thing, T.n_Thing_row⟩, trivial⟩ se_var se_var) (ss_seq (ss_fl (by decide +kernel) ⟨⟨T.cl_Thing, T.n_Thing_years⟩, trivial⟩ se_var se_var) (ss_fl (by decide +kernel) ⟨⟨T.cl_Thing, T.n_Thing_places⟩, trivial⟩ se_var se_var)))
abbrev s_is_number_nets : Stmt := topS 53
abbrev N_is_number_nets : List Str := ["thing", "least", "most"]
theorem sc_is_number_nets : FnScope N_is_number_nets ["thing", "least", "most"] (defScope s_is_number_nets) := ⟨rfl, rfl, rfl, by decide +kernel, rfl, by decide +kernel, by decide +kernel⟩
theorem ok_is_number_nets {P : Program} {w : World} {K : PySem.W.Frag} {mg : Str → Option Value} {base : Heap} {a : Addr} {fd : FuncData} {ca : String → Addr} (T : Txt K mg ca) (F : Fun K "is_number" "is_number" s_is_number_nets a fd)  :
    FnOk P w K mg base (L2.CX P w) 1 a fd ["thing", "least", "most"] (SpF K ca F_is_number_nets) := by
  refine SM.Fn.ofF F sc_is_number_nets rfl fun cdv A outer s H E hr => ?_
  have nd := sc_is_number_nets.nd
  refine ⟨_, (pss_one (ps_ret (pe_and (pe_callB (call_isiA (K := K)) (by rfl) T.b_isinstance (by decide +kernel) (pa_cons (pv 0) (pa_cons (pe_bltn (v := .ty "int") (by rfl) T.b_int (by decide +kernel) rfl) pa_nil))) (pe_and (pe_not (pe_callB (call_isiA (K := K)) (by rfl) T.b_isinstance (by decide +kernel) (pa_cons (pv 0) (pa_cons (pe_bltn (v := .ty "bool") (by rfl) T.b_bool (by decide +kernel) rfl) pa_nil)))) (pe_one (pe_chain op_leU op_leU (pv 1) (pv 0) (pv 2))))))), ?_⟩
  exact (ss_ret (se_and (se_cb (cs_isi T.isO T.isX T.isT) (sa_cons se_var (sa_cons se_ty sa_nil))) (se_and (se_not (se_cb (cs_isi T.isO T.isX T.isT) (sa_cons se_var (sa_cons se_ty sa_nil)))) (se_ch os_le os_le se_var se_var se_var))))
abbrev s_of_two : Stmt := topS 38
abbrev N_of_two : List Str := ["row", "place"]
theorem sc_of_two : FnScope N_of_two ["row", "place"] (defScope s_of_two) := ⟨rfl, rfl, rfl, by decide +kernel, rfl, by decide +kernel, by decide +kernel⟩
theorem ok_of_two {P : Program} {w : World} {K : PySem.W.Frag} {mg : Str → Option Value} {base : Heap} {a : Addr} {fd : FuncData} {ca : String → Addr} (T : Txt K mg ca) (F : Fun K "of_two" "of_two" s_of_two a fd)  :
    FnOk P w K mg base (L2.CX P w) 1 a fd ["row", "place"] (SpF K ca F_of_two) := by
  refine SM.Fn.ofF F sc_of_two rfl fun cdv A outer s H E hr => ?_
  have nd := sc_of_two.nd
  refine ⟨_, (pss_one (ps_ret (pe_op (op_addU (K := K)) (pe_op (op_mulA (K := K)) (pe_ix (ix_U (K := K)) (pv 0) (pv 1) (fun _ _ => rfl)) pe_int) (pe_ix (ix_U (K := K)) (pv 0) (pe_op (op_addU (K := K)) (pv 1) pe_int) (fun _ _ => rfl))))), ?_⟩
  exact (ss_ret (se_op os_add (se_op os_mul (se_op os_ix se_var se_var) se_int) (se_op os_ix se_var (se_op os_add se_var se_int))))
abbrev s_sum_of : Stmt := topS 39
abbrev N_sum_of : List Str := ["head", "total", "place"]
theorem sc_sum_of : FnScope N_sum_of ["head"] (defScope s_sum_of) := ⟨rfl, rfl, rfl, by decide +kernel, rfl, by decide +kernel, by decide +kernel⟩
theorem ok_sum_of {P : Program} {w : World} {K : PySem.W.Frag} {mg : Str → Option Value} {base : Heap} {a : Addr} {fd : FuncData} {ca : String → Addr} (T : Txt K mg ca) (F : Fun K "sum_of" "sum_of" s_sum_of a fd) (C_of_two : Dx P w K mg base 1 "of_two" (SpF K ca F_of_two)) :
    FnOk P w K mg base (L2.CX P w) 2 a fd ["head"] (SpF K ca F_sum_of) := by
  refine SM.Fn.ofF F sc_sum_of rfl fun cdv A outer s H E hr => ?_
  have nd := sc_sum_of.nd
  refine ⟨_, (pss_cons (ps_set (i := 1) nd rfl (by first | exact Or.inl rfl | exact Or.inr rfl) pe_int) (pss_cons (ps_for (passes_of rfl) rfl (pi_range3 rfl T.b_range (pa_cons pe_int (pa_cons (pe_glob (v := .int 12) rfl T.c_SUM_AT.choose_spec ⟨_, rfl⟩) (pa_cons pe_int pa_nil)))) (pg_name (i := 2) nd rfl (by first | exact Or.inl rfl | exact Or.inr rfl)) (pss_one (ps_aug (i := 1) nd rfl (by first | exact Or.inl rfl | exact Or.inr rfl) (pe_dx C_of_two (takes_of rfl rfl rfl rfl) hr (by decide) rfl (pa_cons (pv 0) (pa_cons (pv 2) pa_nil))) (ip_addA (K := K))))) (pss_cons (ps_while (passes_of rfl) (pt_cmpR op_gtU (pv 1) (pe_glob (v := .int 65535) rfl T.c_MOST_WORD.choose_spec ⟨_, rfl⟩) (nomark _)) (pss_one (ps_set (i := 1) nd rfl (by first | exact Or.inl rfl | exact Or.inr rfl) (pe_op (op_addU (K := K)) (pe_op op_divU (pv 1) (pe_op (op_addU (K := K)) (pe_glob (v := .int 65535) rfl T.c_MOST_WORD.choose_spec ⟨_, rfl⟩) pe_int)) (pe_op op_modU (pv 1) (pe_op (op_addU (K := K)) (pe_glob (v := .int 65535) rfl T.c_MOST_WORD.choose_spec ⟨_, rfl⟩) pe_int)))))) (pss_one (ps_ret (pe_op op_subU (pe_glob (v := .int 65535) rfl T.c_MOST_WORD.choose_spec ⟨_, rfl⟩) (pv 1))))))), ?_⟩
  exact (ss_seq (ss_set se_int) (ss_seq (ss_for (sw_r3 (sa_cons se_int (sa_cons se_int (sa_cons se_int sa_nil)))) sg_name (ss_aug ips_add (se_call (sa_cons se_var (sa_cons se_var sa_nil))))) (ss_seq (ss_while (st_test (se_op os_gt se_var se_int)) (ss_set (se_op os_add (se_op os_div se_var (se_op os_add se_int se_int)) (se_op os_mod se_var (se_op os_add se_int se_int))))) (ss_ret (se_op os_sub se_int se_var)))))
abbrev s_two : Stmt := topS 37
abbrev N_two : List Str := ["number"]
theorem sc_two : FnScope N_two ["number"] (defScope s_two) := ⟨rfl, rfl, rfl, by decide +kernel, rfl, by decide +kernel, by decide +kernel⟩
theorem ok_two {P : Program} {w : World} {K : PySem.W.Frag} {mg : Str → Option Value} {base : Heap} {a : Addr} {fd : FuncData} {ca : String → Addr} (T : Txt K mg ca) (F : Fun K "two" "two" s_two a fd)  :
    FnOk P w K mg base (L2.CX P w) 1 a fd ["number"] (SpF K ca F_two) := by
  refine SM.Fn.ofF F sc_two rfl fun cdv A outer s H E hr => ?_
  have nd := sc_two.nd
  refine ⟨_, (pss_one (ps_ret (pe_tup (pa_cons (pe_op op_divU (pv 0) pe_int) (pa_cons (pe_op op_modU (pv 0) pe_int) pa_nil))))), ?_⟩
  exact (ss_ret (se_tup (sa_cons (se_op os_div se_var se_int) (sa_cons (se_op os_mod se_var se_int) sa_nil))))
abbrev s_packet_bytes : Stmt := topS 41
abbrev N_packet_bytes : List Str := ["packet", "head"]
theorem sc_packet_bytes : FnScope N_packet_bytes ["packet"] (defScope s_packet_bytes) := ⟨rfl, rfl, rfl, by decide +kernel, rfl, by decide +kernel, by decide +kernel⟩
theorem ok_packet_bytes {P : Program} {w : World} {K : PySem.W.Frag} {mg : Str → Option Value} {base : Heap} {a : Addr} {fd : FuncData} {ca : String → Addr} (T : Txt K mg ca) (F : Fun K "packet_bytes" "packet_bytes" s_packet_bytes a fd) (C_sum_of : Dx P w K mg base 2 "sum_of" (SpF K ca F_sum_of)) (C_two : Dx P w K mg base 1 "two" (SpF K ca F_two)) :
    FnOk P w K mg base (L2.CX P w) 3 a fd ["packet"] (SpF K ca F_packet_bytes) := by
  refine SM.Fn.ofF F sc_packet_bytes rfl fun cdv A outer s H E hr => ?_
  have nd := sc_packet_bytes.nd
  refine ⟨_, (pss_cons (ps_set (i := 1) nd rfl (by first | exact Or.inl rfl | exact Or.inr rfl) (pe_op (op_addU (K := K)) (pe_op (op_addU (K := K)) (pe_tup (pa_cons (pe_fld (pv 0) rfl) (pa_cons (pe_fld (pv 0) rfl) (pa_cons (pe_fld (pv 0) rfl) (pa_cons (pe_fld (pv 0) rfl) pa_nil))))) (pe_dx C_two (takes_of rfl rfl rfl rfl) hr (by decide) rfl (pa_cons (pe_fld (pv 0) rfl) pa_nil))) (pe_dx C_two (takes_of rfl rfl rfl rfl) hr (by decide) rfl (pa_cons (pe_fld (pv 0) rfl) pa_nil)))) (pss_cons (ps_aug (i := 1) nd rfl (by first | exact Or.inl rfl | exact Or.inr rfl) (pe_op (op_addU (K := K)) (pe_tup (pa_cons (pe_callTy call_intU (by rfl) T.b_int (by decide +kernel) (pa_cons (pe_fld (pv 0) rfl) pa_nil)) (pa_cons pe_int pa_nil))) (pe_dx C_two (takes_of rfl rfl rfl rfl) hr (by decide) rfl (pa_cons (pe_callB (call_lenU (K := K)) (by rfl) T.b_len (by decide +kernel) (pa_cons (pe_fld (pv 0) rfl) pa_nil)) pa_nil))) (ip_addA (K := K))) (pss_one (ps_ret (pe_op (op_addU (K := K)) (pe_op (op_addU (K := K)) (pv 1) (pe_dx C_two (takes_of rfl rfl rfl rfl) hr (by decide) rfl (pa_cons (pe_dx C_sum_of (takes_of rfl rfl rfl rfl) hr (by decide) rfl (pa_cons (pv 1) pa_nil)) pa_nil))) (pe_fld (pv 0) rfl)))))), ?_⟩
  exact (ss_seq (ss_set (se_op os_add (se_op os_add (se_tup (sa_cons (se_fld (by decide +kernel) ⟨⟨T.cl_Packet, T.n_Packet_kind⟩, trivial⟩ se_var) (sa_cons (se_fld (by decide +kernel) ⟨⟨T.cl_Packet, T.n_Packet_life⟩, trivial⟩ se_var) (sa_cons (se_fld (by decide +kernel) ⟨⟨T.cl_Packet, T.n_Packet_source⟩, trivial⟩ se_var) (sa_cons (se_fld (by decide +kernel) ⟨⟨T.cl_Packet, T.n_Packet_target⟩, trivial⟩ se_var) sa_nil))))) (se_call (sa_cons (se_fld (by decide +kernel) ⟨⟨T.cl_Packet, T.n_Packet_name⟩, trivial⟩ se_var) sa_nil))) (se_call (sa_cons (se_fld (by decide +kernel) ⟨⟨T.cl_Packet, T.n_Packet_first⟩, trivial⟩ se_var) sa_nil)))) (ss_seq (ss_aug ips_add (se_op os_add (se_tup (sa_cons (se_cb cs_int (sa_cons (se_fld (by decide +kernel) ⟨⟨T.cl_Packet, T.n_Packet_more⟩, trivial⟩ se_var) sa_nil)) (sa_cons se_int sa_nil))) (se_call (sa_cons (se_cb cs_len (sa_cons (se_fld (by decide +kernel) ⟨⟨T.cl_Packet, T.n_Packet_data⟩, trivial⟩ se_var) sa_nil)) sa_nil)))) (ss_ret (se_op os_add (se_op os_add se_var (se_call (sa_cons (se_call (sa_cons se_var sa_nil)) sa_nil))) (se_fld (by decide +kernel) ⟨⟨T.cl_Packet, T.n_Packet_data⟩, trivial⟩ se_var)))))
abbrev s_Net_put : Stmt := inClass (topS 58) 3
abbrev N_Net_put : List Str := ["self", "place", "packet", "neighbour"]
theorem sc_Net_put : FnScope N_Net_put ["self", "place", "packet"] (defScope s_Net_put) := ⟨rfl, rfl, rfl, by decide +kernel, rfl, by decide +kernel, by decide +kernel⟩
theorem ok_Net_put {P : Program} {w : World} {K : PySem.W.Frag} {mg : Str → Option Value} {base : Heap} {a : Addr} {fd : FuncData} {ca : String → Addr} (T : Txt K mg ca) (F : Fun K "put" "Net.put" s_Net_put a fd) (M_Thing : Mx P w K mg base 1 "Thing" (ca "Thing") (SpF K ca F_Thing___init__)) (C_is_number_nets : Dx P w K mg base 1 "is_number_nets" (SpF K ca F_is_number_nets)) (C_packet_bytes : Dx P w K mg base 3 "packet_bytes" (SpF K ca F_packet_bytes)) :
    FnOk P w K mg base (L2.CX P w) 4 a fd ["self", "place", "packet"] (SpF K ca F_Net_put) := by
  refine SM.Fn.ofF F sc_Net_put rfl fun cdv A outer s H E hr => ?_
  have nd := sc_Net_put.nd
  refine ⟨_, (pss_cons (ps_if (PW.pt (pw_or (pt_not (pt_val (pe_dx C_is_number_nets (takes_of rfl rfl rfl rfl) hr (by decide) rfl (pa_cons (pv 1) (pa_cons pe_int (pa_cons pe_int pa_nil)))))) (pw_or1 (pt_cmpR (op_notInAll (K := K) (DL.room65 hr)) (pv 1) (pe_fld (pv 0) rfl) rfl)))) (pss_one (DL.ps_raiseC rfl (takes_of rfl rfl rfl rfl) (pmk_own PySem.F.excBase_ValueError T.e_NoPlace T.g_NoPlace T.k_NoPlace (raises_own T.b_NoPlace T.t_NoPlace) rfl))) pss_nil) (pss_cons (ps_set (i := 3) nd rfl (by first | exact Or.inl rfl | exact Or.inr rfl) (pe_dget2 (DL.room65w hr) (pe_dgetO (DL.room65 hr) (pe_fld (pv 0) rfl) (pv 1) (fun _ _ => rfl)) (pe_fld (pv 2) rfl) pe_non ⟨rfl, rfl, rfl, rfl⟩)) (pss_one (ps_if (PW.pt (pw_and (pt_cmpR op_notU (pv 3) pe_non (nomark _)) (pw_and1 (pt_cmpR op_gtU (pe_fld (pv 2) rfl) pe_int (nomark _))))) (pss_one (ps_expr (pe_bm PySem.F.plainAttrs_list PySem.F.slot_list_append PySem.F.type_list_append mt_append (pe_dgetO (DL.room65 hr) (pe_fld (pv 0) rfl) (pe_tup (pa_cons (pv 1) (pa_cons (pv 3) pa_nil))) (fun _ _ => rfl)) (pa_cons (pe_mx M_Thing (takes_of rfl rfl rfl rfl) hr (by decide) rfl (pa_cons (pe_dx C_packet_bytes (takes_of rfl rfl rfl rfl) hr (by decide) rfl (pa_cons (pv 2) pa_nil)) (pa_cons pe_int (pa_cons (pe_tup pa_nil) pa_nil)))) pa_nil)))) pss_nil)))), ?_⟩
  exact (ss_seq (ss_if (st_or (st_not (st_b (se_call (sa_cons se_var (sa_cons se_int (sa_cons se_int sa_nil)))))) (st_test (se_op os_notin se_var (se_fld (by decide +kernel) ⟨⟨T.cl_Net, T.n_Net_ways⟩, trivial⟩ se_var)))) (ss_raise rfl) ss_next) (ss_seq (ss_set (se_get2 (se_op os_dget (se_fld (by decide +kernel) ⟨⟨T.cl_Net, T.n_Net_ways⟩, trivial⟩ se_var) se_var) (se_fld (by decide +kernel) ⟨⟨T.cl_Packet, T.n_Packet_target⟩, trivial⟩ se_var) se_non)) (ss_if (st_and (st_test (se_op os_isnot se_var se_non)) (st_test (se_op os_gt (se_fld (by decide +kernel) ⟨⟨T.cl_Packet, T.n_Packet_life⟩, trivial⟩ se_var) se_int))) (ss_drop (se_bl_ ms_append (se_op os_dget (se_fld (by decide +kernel) ⟨⟨T.cl_Net, T.n_Net_roads⟩, trivial⟩ se_var) (se_tup (sa_cons se_var (sa_cons se_var sa_nil)))) (sa_cons (se_make (sa_cons (se_call (sa_cons se_var sa_nil)) (sa_cons se_int (sa_cons (se_tup sa_nil) sa_nil)))) sa_nil))) ss_next)))
abbrev s_Net_road : Stmt := inClass (topS 58) 1
abbrev N_Net_road : List Str := ["self", "one", "other"]
theorem sc_Net_road : FnScope N_Net_road ["self", "one", "other"] (defScope s_Net_road) := ⟨rfl, rfl, rfl, by decide +kernel, rfl, by decide +kernel, by decide +kernel⟩
theorem ok_Net_road {P : Program} {w : World} {K : PySem.W.Frag} {mg : Str → Option Value} {base : Heap} {a : Addr} {fd : FuncData} {ca : String → Addr} (T : Txt K mg ca) (F : Fun K "road" "Net.road" s_Net_road a fd) (C_is_number_nets : Dx P w K mg base 1 "is_number_nets" (SpF K ca F_is_number_nets)) :
    FnOk P w K mg base (L2.CX P w) 2 a fd ["self", "one", "other"] (SpF K ca F_Net_road) := by
  refine SM.Fn.ofF F sc_Net_road rfl fun cdv A outer s H E hr => ?_
  have nd := sc_Net_road.nd
  refine ⟨_, (pss_cons (ps_if (PW.pt (pw_or (pt_not (pt_val (pe_dx C_is_number_nets (takes_of rfl rfl rfl rfl) hr (by decide) rfl (pa_cons (pv 1) (pa_cons pe_int (pa_cons pe_int pa_nil)))))) (pw_or (pt_not (pt_val (pe_dx C_is_number_nets (takes_of rfl rfl rfl rfl) hr (by decide) rfl (pa_cons (pv 2) (pa_cons pe_int (pa_cons pe_int pa_nil)))))) (pw_or1 (pt_cmpR (op_notInAll (K := K) (DL.room65 hr)) (pe_tup (pa_cons (pv 1) (pa_cons (pv 2) pa_nil))) (pe_fld (pv 0) rfl) rfl))))) (pss_one (DL.ps_raiseC rfl (takes_of rfl rfl rfl rfl) (pmk_own PySem.F.excBase_ValueError T.e_NoPlace T.g_NoPlace T.k_NoPlace (raises_own T.b_NoPlace T.t_NoPlace) rfl))) pss_nil) (pss_one (ps_ret (pe_dgetO (DL.room65 hr) (pe_fld (pv 0) rfl) (pe_tup (pa_cons (pv 1) (pa_cons (pv 2) pa_nil))) (fun _ _ => rfl))))), ?_⟩
  exact (ss_seq (ss_if (st_or (st_not (st_b (se_call (sa_cons se_var (sa_cons se_int (sa_cons se_int sa_nil)))))) (st_or (st_not (st_b (se_call (sa_cons se_var (sa_cons se_int (sa_cons se_int sa_nil)))))) (st_test (se_op os_notin (se_tup (sa_cons se_var (sa_cons se_var sa_nil))) (se_fld (by decide +kernel) ⟨⟨T.cl_Net, T.n_Net_roads⟩, trivial⟩ se_var))))) (ss_raise rfl) ss_next) (ss_ret (se_op os_dget (se_fld (by decide +kernel) ⟨⟨T.cl_Net, T.n_Net_roads⟩, trivial⟩ se_var) (se_tup (sa_cons se_var (sa_cons se_var sa_nil))))))
abbrev s_Net_thing : Stmt := inClass (topS 58) 2
abbrev N_Net_thing : List Str := ["self", "one", "other", "number", "row"]
theorem sc_Net_thing : FnScope N_Net_thing ["self", "one", "other", "number"] (defScope s_Net_thing) := ⟨rfl, rfl, rfl, by decide +kernel, rfl, by decide +kernel, by decide +kernel⟩
theorem ok_Net_thing {P : Program} {w : World} {K : PySem.W.Frag} {mg : Str → Option Value} {base : Heap} {a : Addr} {fd : FuncData} {ca : String → Addr} (T : Txt K mg ca) (F : Fun K "thing" "Net.thing" s_Net_thing a fd) (M_Net_road : SM.Mt P w K mg base 2 (ca "Net") "road" (SpF K ca F_Net_road)) (C_is_number_nets : Dx P w K mg base 1 "is_number_nets" (SpF K ca F_is_number_nets)) :
    FnOk P w K mg base (L2.CX P w) 3 a fd ["self", "one", "other", "number"] (SpF K ca F_Net_thing) := by
  refine SM.Fn.ofF F sc_Net_thing rfl fun cdv A outer s H E hr => ?_
  have nd := sc_Net_thing.nd
  refine ⟨_, (pss_cons (ps_set (i := 4) nd rfl (by first | exact Or.inl rfl | exact Or.inr rfl) (pe_mtX M_Net_road (takes_of rfl rfl rfl rfl) hr (by decide) T.cl_Net (pv 0) (pa_cons (pv 1) (pa_cons (pv 2) pa_nil)))) (pss_cons (ps_if (pt_not (pt_val (pe_dx C_is_number_nets (takes_of rfl rfl rfl rfl) hr (by decide) rfl (pa_cons (pv 3) (pa_cons pe_int (pa_cons (pe_op op_subU (pe_callB (call_lenU (K := K)) (by rfl) T.b_len (by decide +kernel) (pa_cons (pv 4) pa_nil)) pe_int) pa_nil)))))) (pss_one (DL.ps_raiseC rfl (takes_of rfl rfl rfl rfl) (pmk_own PySem.F.excBase_ValueError T.e_NoPlace T.g_NoPlace T.k_NoPlace (raises_own T.b_NoPlace T.t_NoPlace) rfl))) pss_nil) (pss_one (ps_ret (pe_ix (ix_U (K := K)) (pv 4) (pv 3) (fun _ _ => rfl)))))), ?_⟩
  exact (ss_seq (ss_set (meth_one (by decide +kernel) se_var (sa_cons se_var (sa_cons se_var sa_nil)))) (ss_seq (ss_if (st_not (st_b (se_call (sa_cons se_var (sa_cons se_int (sa_cons (se_op os_sub (se_cb cs_len (sa_cons se_var sa_nil)) se_int) sa_nil)))))) (ss_raise rfl) ss_next) (ss_ret (se_op os_ix se_var se_var))))
abbrev s_is_number_packets : Stmt := topS 34
abbrev N_is_number_packets : List Str := ["thing", "most"]
theorem sc_is_number_packets : FnScope N_is_number_packets ["thing", "most"] (defScope s_is_number_packets) := ⟨rfl, rfl, rfl, by decide +kernel, rfl, by decide +kernel, by decide +kernel⟩
theorem ok_is_number_packets {P : Program} {w : World} {K : PySem.W.Frag} {mg : Str → Option Value} {base : Heap} {a : Addr} {fd : FuncData} {ca : String → Addr} (T : Txt K mg ca) (F : Fun K "is_number" "is_number" s_is_number_packets a fd)  :
    FnOk P w K mg base (L2.CX P w) 1 a fd ["thing", "most"] (SpF K ca F_is_number_packets) := by
  refine SM.Fn.ofF F sc_is_number_packets rfl fun cdv A outer s H E hr => ?_
  have nd := sc_is_number_packets.nd
  refine ⟨_, (pss_one (ps_ret (pe_and (pe_callB (call_isiA (K := K)) (by rfl) T.b_isinstance (by decide +kernel) (pa_cons (pv 0) (pa_cons (pe_bltn (v := .ty "int") (by rfl) T.b_int (by decide +kernel) rfl) pa_nil))) (pe_and (pe_not (pe_callB (call_isiA (K := K)) (by rfl) T.b_isinstance (by decide +kernel) (pa_cons (pv 0) (pa_cons (pe_bltn (v := .ty "bool") (by rfl) T.b_bool (by decide +kernel) rfl) pa_nil)))) (pe_one (pe_chain op_leU op_leU pe_int (pv 0) (pv 1))))))), ?_⟩
  exact (ss_ret (se_and (se_cb (cs_isi T.isO T.isX T.isT) (sa_cons se_var (sa_cons se_ty sa_nil))) (se_and (se_not (se_cb (cs_isi T.isO T.isX T.isT) (sa_cons se_var (sa_cons se_ty sa_nil)))) (se_ch os_le os_le se_int se_var se_var))))
abbrev s_are_bytes : Stmt := topS 36
abbrev N_are_bytes : List Str := ["thing", "most", "byte"]
theorem sc_are_bytes : FnScope N_are_bytes ["thing", "most"] (defScope s_are_bytes) := ⟨rfl, rfl, rfl, by decide +kernel, rfl, by decide +kernel, by decide +kernel⟩
theorem ok_are_bytes {P : Program} {w : World} {K : PySem.W.Frag} {mg : Str → Option Value} {base : Heap} {a : Addr} {fd : FuncData} {ca : String → Addr} (T : Txt K mg ca) (F : Fun K "are_bytes" "are_bytes" s_are_bytes a fd) (C_is_number_packets : Dx P w K mg base 1 "is_number_packets" (SpF K ca F_is_number_packets)) :
    FnOk P w K mg base (L2.CX P w) 2 a fd ["thing", "most"] (SpF K ca F_are_bytes) := by
  refine SM.Fn.ofF F sc_are_bytes rfl fun cdv A outer s H E hr => ?_
  have nd := sc_are_bytes.nd
  refine ⟨_, (pss_one (ps_ret (pe_and (pe_callB (call_isiA (K := K)) (by rfl) T.b_isinstance (by decide +kernel) (pa_cons (pv 0) (pa_cons (pe_bltn (v := .ty "tuple") (by rfl) T.b_tuple (by decide +kernel) rfl) pa_nil))) (pe_and (pe_cmpR op_leU (pe_callB (call_lenU (K := K)) (by rfl) T.b_len (by decide +kernel) (pa_cons (pv 0) pa_nil)) (pv 1) (nomark _)) (pe_one (pe_callB (call_allU (K := K) rfl) (by rfl) T.b_all (by decide +kernel) (pa_cons (pe_lc (own := [("byte", 2)]) (g := (gName 2)) rfl nd (pi_seqU (K := K) (pv 0)) (blkOk_by (own := [("byte", 2)]) (N := N_are_bytes) (sc := defScope s_are_bytes) (by decide +kernel)) (fun _ _ _ _ _ => (pg_name (i := 2) nd rfl (by first | exact Or.inl rfl | exact Or.inr rfl))) (fun _ _ _ _ _ => pts_nil) (fun _ _ _ _ _ => (pe_dx0 C_is_number_packets hr (by decide) rfl (pa_cons (pv 2) (pa_cons (pe_glob (v := .int 255) rfl T.c_MOST_BYTE_packets.choose_spec ⟨_, rfl⟩) pa_nil))))) pa_nil))))))), ?_⟩
  exact (ss_ret (se_and (se_cb (cs_isi T.isO T.isX T.isT) (sa_cons se_var (sa_cons se_ty sa_nil))) (se_and (se_op os_le (se_cb cs_len (sa_cons se_var sa_nil)) se_var) (se_cb cs_all (sa_cons (se_lc (W2 := fun _ _ _ _ => False) (sw_seq se_var) sg_name (by decide) st_yes (se_call0 (sa_cons se_var (sa_cons se_int sa_nil)))) sa_nil)))))
abbrev s_Packet___init__ : Stmt := inClass (topS 40) 0
abbrev N_Packet___init__ : List Str := ["self", "source", "target", "kind", "life", "name", "first", "more", "data", "thing"]
theorem sc_Packet___init__ : FnScope N_Packet___init__ ["self", "source", "target", "kind", "life", "name", "first", "more", "data"] (defScope s_Packet___init__) := ⟨rfl, rfl, rfl, by decide +kernel, rfl, by decide +kernel, by decide +kernel⟩
theorem ok_Packet___init__ {P : Program} {w : World} {K : PySem.W.Frag} {mg : Str → Option Value} {base : Heap} {a : Addr} {fd : FuncData} {ca : String → Addr} (T : Txt K mg ca) (F : Fun K "__init__" "Packet.__init__" s_Packet___init__ a fd) (C_are_bytes : Dx P w K mg base 2 "are_bytes" (SpF K ca F_are_bytes)) (C_is_number_packets : Dx P w K mg base 1 "is_number_packets" (SpF K ca F_is_number_packets)) :
    FnOk P w K mg base (L2.CX P w) 3 a fd ["self", "source", "target", "kind", "life", "name", "first", "more", "data"] (SpF K ca F_Packet___init__) := by
  refine SM.Fn.ofF F sc_Packet___init__ rfl fun cdv A outer s H E hr => ?_
  have nd := sc_Packet___init__.nd
  refine ⟨_, (pss_cons (ps_if (pt_not (pt_val (pe_callB (call_allU (K := K) rfl) (by rfl) T.b_all (by decide +kernel) (pa_cons (pe_lc (own := [("thing", 9)]) (g := (gName 9)) rfl nd (pi_seqU (K := K) (pe_tup (pa_cons (pv 1) (pa_cons (pv 2) (pa_cons (pv 3) (pa_cons (pv 4) pa_nil)))))) (blkOk_by (own := [("thing", 9)]) (N := N_Packet___init__) (sc := defScope s_Packet___init__) (by decide +kernel)) (fun _ _ _ _ _ => (pg_name (i := 9) nd rfl (by first | exact Or.inl rfl | exact Or.inr rfl))) (fun _ _ _ _ _ => pts_nil) (fun _ _ _ _ _ => (pe_dx0 C_is_number_packets hr (by decide) rfl (pa_cons (pv 9) (pa_cons (pe_glob (v := .int 255) rfl T.c_MOST_BYTE_packets.choose_spec ⟨_, rfl⟩) pa_nil))))) pa_nil)))) (pss_one (DL.ps_raiseC rfl (takes_of rfl rfl rfl rfl) (pmk_own PySem.F.excBase_ValueError T.e_NoPacket T.g_NoPacket T.k_NoPacket (raises_own T.b_NoPacket T.t_NoPacket) rfl))) pss_nil) (pss_cons (ps_if (PW.pt (pw_or (pt_not (pt_val (pe_dx C_is_number_packets (takes_of rfl rfl rfl rfl) hr (by decide) rfl (pa_cons (pv 5) (pa_cons (pe_glob (v := .int 65535) rfl T.c_MOST_WORD.choose_spec ⟨_, rfl⟩) pa_nil))))) (pw_or (pt_not (pt_val (pe_dx C_is_number_packets (takes_of rfl rfl rfl rfl) hr (by decide) rfl (pa_cons (pv 6) (pa_cons (pe_glob (v := .int 1000) rfl T.c_MOST_TOGETHER.choose_spec ⟨_, rfl⟩) pa_nil))))) (pw_or1 (pt_not (pt_val (pe_callB (call_isiA (K := K)) (by rfl) T.b_isinstance (by decide +kernel) (pa_cons (pv 7) (pa_cons (pe_bltn (v := .ty "bool") (by rfl) T.b_bool (by decide +kernel) rfl) pa_nil))))))))) (pss_one (DL.ps_raiseC rfl (takes_of rfl rfl rfl rfl) (pmk_own PySem.F.excBase_ValueError T.e_NoPacket T.g_NoPacket T.k_NoPacket (raises_own T.b_NoPacket T.t_NoPacket) rfl))) pss_nil) (pss_cons (ps_if (pt_not (pt_val (pe_dx C_are_bytes (takes_of rfl rfl rfl rfl) hr (by decide) rfl (pa_cons (pv 8) (pa_cons (pe_op op_subU (pe_glob (v := .int 1000) rfl T.c_MOST_TOGETHER.choose_spec ⟨_, rfl⟩) (pv 6)) pa_nil))))) (pss_one (DL.ps_raiseC rfl (takes_of rfl rfl rfl rfl) (pmk_own PySem.F.excBase_ValueError T.e_NoPacket T.g_NoPacket T.k_NoPacket (raises_own T.b_NoPacket T.t_NoPacket) rfl))) pss_nil) (pss_cons (ps_fld (pv 0) (pv 1) rfl) (pss_cons (ps_fld (pv 0) (pv 2) rfl) (pss_cons (ps_fld (pv 0) (pv 3) rfl) (pss_cons (ps_fld (pv 0) (pv 4) rfl) (pss_cons (ps_fld (pv 0) (pv 5) rfl) (pss_cons (ps_fld (pv 0) (pv 6) rfl) (pss_cons (ps_fld (pv 0) (pv 7) rfl) (pss_one (ps_fld (pv 0) (pv 8) rfl)))))))))))), ?_⟩
  exact (ss_seq (ss_if (st_not (st_b (se_cb cs_all (sa_cons (se_lc (W2 := fun _ _ _ _ => False) (sw_seq (se_tup (sa_cons se_var (sa_cons se_var (sa_cons se_var (sa_cons se_var sa_nil)))))) sg_name (by decide) st_yes (se_call0 (sa_cons se_var (sa_cons se_int sa_nil)))) sa_nil)))) (ss_raise rfl) ss_next) (ss_seq (ss_if (st_or (st_not (st_b (se_call (sa_cons se_var (sa_cons se_int sa_nil))))) (st_or (st_not (st_b (se_call (sa_cons se_var (sa_cons se_int sa_nil))))) (st_not (st_b (se_cb (cs_isi T.isO T.isX T.isT) (sa_cons se_var (sa_cons se_ty sa_nil))))))) (ss_raise rfl) ss_next) (ss_seq (ss_if (st_not (st_b (se_call (sa_cons se_var (sa_cons (se_op os_sub se_int se_var) sa_nil))))) (ss_raise rfl) ss_next) (ss_seq (ss_fl (by decide +kernel) ⟨⟨T.cl_Packet, T.n_Packet_source⟩, trivial⟩ se_var se_var) (ss_seq (ss_fl (by decide +kernel) ⟨⟨T.cl_Packet, T.n_Packet_target⟩, trivial⟩ se_var se_var) (ss_seq (ss_fl (by decide +kernel) ⟨⟨T.cl_Packet, T.n_Packet_kind⟩, trivial⟩ se_var se_var) (ss_seq (ss_fl (by decide +kernel) ⟨⟨T.cl_Packet, T.n_Packet_life⟩, trivial⟩ se_var se_var) (ss_seq (ss_fl (by decide +kernel) ⟨⟨T.cl_Packet, T.n_Packet_name⟩, trivial⟩ se_var se_var) (ss_seq (ss_fl (by decide +kernel) ⟨⟨T.cl_Packet, T.n_Packet_first⟩, trivial⟩ se_var se_var) (ss_seq (ss_fl (by decide +kernel) ⟨⟨T.cl_Packet, T.n_Packet_more⟩, trivial⟩ se_var se_var) (ss_fl (by decide +kernel) ⟨⟨T.cl_Packet, T.n_Packet_data⟩, trivial⟩ se_var se_var)))))))))))
abbrev s_Packet_told : Stmt := inClass (topS 40) 1
abbrev N_Packet_told : List Str := ["self", "ends"]
theorem sc_Packet_told : FnScope N_Packet_told ["self"] (defScope s_Packet_told) := ⟨rfl, rfl, rfl, by decide +kernel, rfl, by decide +kernel, by decide +kernel⟩
theorem ok_Packet_told {P : Program} {w : World} {K : PySem.W.Frag} {mg : Str → Option Value} {base : Heap} {a : Addr} {fd : FuncData} {ca : String → Addr} (T : Txt K mg ca) (F : Fun K "told" "Packet.told" s_Packet_told a fd)  :
    FnOk P w K mg base (L2.CX P w) 1 a fd ["self"] (SpF K ca F_Packet_told) := by
  refine SM.Fn.ofF F sc_Packet_told rfl fun cdv A outer s H E hr => ?_
  have nd := sc_Packet_told.nd
  refine ⟨_, (pss_cons (ps_set (i := 1) nd rfl (by first | exact Or.inl rfl | exact Or.inr rfl) (pe_tup (pa_cons (pe_fld (pv 0) rfl) (pa_cons (pe_fld (pv 0) rfl) (pa_cons (pe_fld (pv 0) rfl) (pa_cons (pe_fld (pv 0) rfl) pa_nil)))))) (pss_one (ps_ret (pe_op (op_addU (K := K)) (pv 1) (pe_tup (pa_cons (pe_fld (pv 0) rfl) (pa_cons (pe_fld (pv 0) rfl) (pa_cons (pe_fld (pv 0) rfl) (pa_cons (pe_fld (pv 0) rfl) pa_nil))))))))), ?_⟩
  exact (ss_seq (ss_set (se_tup (sa_cons (se_fld (by decide +kernel) ⟨⟨T.cl_Packet, T.n_Packet_source⟩, trivial⟩ se_var) (sa_cons (se_fld (by decide +kernel) ⟨⟨T.cl_Packet, T.n_Packet_target⟩, trivial⟩ se_var) (sa_cons (se_fld (by decide +kernel) ⟨⟨T.cl_Packet, T.n_Packet_kind⟩, trivial⟩ se_var) (sa_cons (se_fld (by decide +kernel) ⟨⟨T.cl_Packet, T.n_Packet_life⟩, trivial⟩ se_var) sa_nil)))))) (ss_ret (se_op os_add se_var (se_tup (sa_cons (se_fld (by decide +kernel) ⟨⟨T.cl_Packet, T.n_Packet_name⟩, trivial⟩ se_var) (sa_cons (se_fld (by decide +kernel) ⟨⟨T.cl_Packet, T.n_Packet_first⟩, trivial⟩ se_var) (sa_cons (se_fld (by decide +kernel) ⟨⟨T.cl_Packet, T.n_Packet_more⟩, trivial⟩ se_var) (sa_cons (se_fld (by decide +kernel) ⟨⟨T.cl_Packet, T.n_Packet_data⟩, trivial⟩ se_var) sa_nil))))))))
abbrev s_spread : Stmt := topS 12
abbrev N_spread : List Str := ["number", "many", "place"]
theorem sc_spread : FnScope N_spread ["number", "many"] (defScope s_spread) := ⟨rfl, rfl, rfl, by decide +kernel, rfl, by decide +kernel, by decide +kernel⟩
theorem ok_spread {P : Program} {w : World} {K : PySem.W.Frag} {mg : Str → Option Value} {base : Heap} {a : Addr} {fd : FuncData} {ca : String → Addr} (T : Txt K mg ca) (F : Fun K "spread" "spread" s_spread a fd)  :
    FnOk P w K mg base (L2.CX P w) 1 a fd ["number", "many"] (SpF K ca F_spread) := by
  refine SM.Fn.ofF F sc_spread rfl fun cdv A outer s H E hr => ?_
  have nd := sc_spread.nd
  refine ⟨_, (pss_one (ps_ret (pe_lc (own := [("place", 2)]) (g := (gName 2)) rfl nd (pi_range1 rfl T.b_range (pa_cons (pv 1) pa_nil)) (blkOk_by (own := [("place", 2)]) (N := N_spread) (sc := defScope s_spread) (by decide +kernel)) (fun _ _ _ _ _ => (pg_name (i := 2) nd rfl (by first | exact Or.inl rfl | exact Or.inr rfl))) (fun _ _ _ _ _ => pts_nil) (fun _ _ _ _ _ => (pe_op op_andU (pe_op op_shrU (pv 0) (pe_op op_subU (pe_op op_subU (pv 1) pe_int) (pv 2))) pe_int))))), ?_⟩
  exact (ss_ret (se_lc (W2 := fun _ _ _ _ => False) (sw_r1 (sa_cons se_var sa_nil)) sg_name (by decide) st_yes (se_op os_and (se_op os_shr se_var (se_op os_sub (se_op os_sub se_var se_int) se_var)) se_int)))
abbrev s_bits_by : Stmt := topS 14
abbrev N_bits_by : List Str := ["number", "many"]
theorem sc_bits_by : FnScope N_bits_by ["number", "many"] (defScope s_bits_by) := ⟨rfl, rfl, rfl, by decide +kernel, rfl, by decide +kernel, by decide +kernel⟩
theorem ok_bits_by {P : Program} {w : World} {K : PySem.W.Frag} {mg : Str → Option Value} {base : Heap} {a : Addr} {fd : FuncData} {ca : String → Addr} (T : Txt K mg ca) (F : Fun K "bits_by" "bits_by" s_bits_by a fd) (C_spread : Dx P w K mg base 1 "spread" (SpF K ca F_spread)) :
    FnOk P w K mg base (L2.CX P w) 2 a fd ["number", "many"] (SpF K ca F_bits_by) := by
  refine SM.Fn.ofF F sc_bits_by rfl fun cdv A outer s H E hr => ?_
  have nd := sc_bits_by.nd
  refine ⟨_, (pss_cons (ps_if (PW.pt (pw_or (pt_not (pt_val (pe_callB (call_isiA (K := K)) (by rfl) T.b_isinstance (by decide +kernel) (pa_cons (pv 0) (pa_cons (pe_bltn (v := .ty "int") (by rfl) T.b_int (by decide +kernel) rfl) pa_nil))))) (pw_or (pt_val (pe_callB (call_isiA (K := K)) (by rfl) T.b_isinstance (by decide +kernel) (pa_cons (pv 0) (pa_cons (pe_bltn (v := .ty "bool") (by rfl) T.b_bool (by decide +kernel) rfl) pa_nil)))) (pw_or (pt_cmpR op_ltU (pv 0) pe_int (nomark _)) (pw_or1 (pt_cmpR op_gtU (pe_op op_shrU (pv 0) (pv 1)) pe_int (nomark _))))))) (pss_one (DL.ps_raiseC rfl (takes_of rfl rfl rfl rfl) (pmk_own PySem.F.excBase_ValueError T.e_NoNumber T.g_NoNumber T.k_NoNumber (raises_own T.b_NoNumber T.t_NoNumber) rfl))) pss_nil) (pss_one (ps_ret (pe_callTy (call_tupleU (K := K)) (by rfl) T.b_tuple (by decide +kernel) (pa_cons (pe_dx C_spread (takes_of rfl rfl rfl rfl) hr (by decide) rfl (pa_cons (pv 0) (pa_cons (pv 1) pa_nil))) pa_nil))))), ?_⟩
  exact (ss_seq (ss_if (st_or (st_not (st_b (se_cb (cs_isi T.isO T.isX T.isT) (sa_cons se_var (sa_cons se_ty sa_nil))))) (st_or (st_b (se_cb (cs_isi T.isO T.isX T.isT) (sa_cons se_var (sa_cons se_ty sa_nil)))) (st_or (st_test (se_op os_lt se_var se_int)) (st_test (se_op os_gt (se_op os_shr se_var se_var) se_int))))) (ss_raise rfl) ss_next) (ss_ret (se_cb cs_tuple (sa_cons (se_call (sa_cons se_var (sa_cons se_var sa_nil))) sa_nil))))
abbrev s_divided : Stmt := topS 21
abbrev N_divided : List Str := ["number", "code", "many"]
theorem sc_divided : FnScope N_divided ["number", "code"] (defScope s_divided) := ⟨rfl, rfl, rfl, by decide +kernel, rfl, by decide +kernel, by decide +kernel⟩
theorem ok_divided {P : Program} {w : World} {K : PySem.W.Frag} {mg : Str → Option Value} {base : Heap} {a : Addr} {fd : FuncData} {ca : String → Addr} (T : Txt K mg ca) (F : Fun K "divided" "divided" s_divided a fd)  :
    FnOk P w K mg base (L2.CX P w) 1 a fd ["number", "code"] (SpF K ca F_divided) := by
  refine SM.Fn.ofF F sc_divided rfl fun cdv A outer s H E hr => ?_
  have nd := sc_divided.nd
  refine ⟨_, (pss_cons (ps_set (i := 2) nd rfl (by first | exact Or.inl rfl | exact Or.inr rfl) (pe_bits (pv 1))) (pss_cons (ps_while (passes_of rfl) (pt_cmpR op_geU (pe_bits (pv 0)) (pv 2) (nomark _)) (pss_one (ps_set (i := 0) nd rfl (by first | exact Or.inl rfl | exact Or.inr rfl) (pe_op op_xorU (pv 0) (pe_op op_shlU (pv 1) (pe_op op_subU (pe_bits (pv 0)) (pv 2))))))) (pss_one (ps_ret (pv 0))))), ?_⟩
  exact (ss_seq (ss_set (se_bits se_var)) (ss_seq (ss_while (st_test (se_op os_ge (se_bits se_var) se_var)) (ss_set (se_op os_xor se_var (se_op os_shl se_var (se_op os_sub (se_bits se_var) se_var))))) (ss_ret se_var)))
abbrev s_is_whole : Stmt := topS 10
abbrev N_is_whole : List Str := ["thing", "least", "most"]
theorem sc_is_whole : FnScope N_is_whole ["thing", "least", "most"] (defScope s_is_whole) := ⟨rfl, rfl, rfl, by decide +kernel, rfl, by decide +kernel, by decide +kernel⟩
theorem ok_is_whole {P : Program} {w : World} {K : PySem.W.Frag} {mg : Str → Option Value} {base : Heap} {a : Addr} {fd : FuncData} {ca : String → Addr} (T : Txt K mg ca) (F : Fun K "is_whole" "is_whole" s_is_whole a fd)  :
    FnOk P w K mg base (L2.CX P w) 1 a fd ["thing", "least", "most"] (SpF K ca F_is_whole) := by
  refine SM.Fn.ofF F sc_is_whole rfl fun cdv A outer s H E hr => ?_
  have nd := sc_is_whole.nd
  refine ⟨_, (pss_one (ps_ret (pe_and (pe_callB (call_isiA (K := K)) (by rfl) T.b_isinstance (by decide +kernel) (pa_cons (pv 0) (pa_cons (pe_bltn (v := .ty "int") (by rfl) T.b_int (by decide +kernel) rfl) pa_nil))) (pe_and (pe_not (pe_callB (call_isiA (K := K)) (by rfl) T.b_isinstance (by decide +kernel) (pa_cons (pv 0) (pa_cons (pe_bltn (v := .ty "bool") (by rfl) T.b_bool (by decide +kernel) rfl) pa_nil)))) (pe_one (pe_chain op_leU op_leU (pv 1) (pv 0) (pv 2))))))), ?_⟩
  exact (ss_ret (se_and (se_cb (cs_isi T.isO T.isX T.isT) (sa_cons se_var (sa_cons se_ty sa_nil))) (se_and (se_not (se_cb (cs_isi T.isO T.isX T.isT) (sa_cons se_var (sa_cons se_ty sa_nil)))) (se_ch os_le os_le se_var se_var se_var))))
abbrev s_is_bits : Stmt := topS 11
abbrev N_is_bits : List Str := ["thing", "bit"]
theorem sc_is_bits : FnScope N_is_bits ["thing"] (defScope s_is_bits) := ⟨rfl, rfl, rfl, by decide +kernel, rfl, by decide +kernel, by decide +kernel⟩
theorem ok_is_bits {P : Program} {w : World} {K : PySem.W.Frag} {mg : Str → Option Value} {base : Heap} {a : Addr} {fd : FuncData} {ca : String → Addr} (T : Txt K mg ca) (F : Fun K "is_bits" "is_bits" s_is_bits a fd) (C_is_whole : Dx P w K mg base 1 "is_whole" (SpF K ca F_is_whole)) :
    FnOk P w K mg base (L2.CX P w) 2 a fd ["thing"] (SpF K ca F_is_bits) := by
  refine SM.Fn.ofF F sc_is_bits rfl fun cdv A outer s H E hr => ?_
  have nd := sc_is_bits.nd
  refine ⟨_, (pss_one (ps_ret (pe_and (pe_callB (call_isiA (K := K)) (by rfl) T.b_isinstance (by decide +kernel) (pa_cons (pv 0) (pa_cons (pe_bltn (v := .ty "tuple") (by rfl) T.b_tuple (by decide +kernel) rfl) pa_nil))) (pe_one (pe_callB (call_allU (K := K) rfl) (by rfl) T.b_all (by decide +kernel) (pa_cons (pe_lc (own := [("bit", 1)]) (g := (gName 1)) rfl nd (pi_seqU (K := K) (pv 0)) (blkOk_by (own := [("bit", 1)]) (N := N_is_bits) (sc := defScope s_is_bits) (by decide +kernel)) (fun _ _ _ _ _ => (pg_name (i := 1) nd rfl (by first | exact Or.inl rfl | exact Or.inr rfl))) (fun _ _ _ _ _ => pts_nil) (fun _ _ _ _ _ => (pe_dx0 C_is_whole hr (by decide) rfl (pa_cons (pv 1) (pa_cons pe_int (pa_cons pe_int pa_nil)))))) pa_nil)))))), ?_⟩
  exact (ss_ret (se_and (se_cb (cs_isi T.isO T.isX T.isT) (sa_cons se_var (sa_cons se_ty sa_nil))) (se_cb cs_all (sa_cons (se_lc (W2 := fun _ _ _ _ => False) (sw_seq se_var) sg_name (by decide) st_yes (se_call0 (sa_cons se_var (sa_cons se_int (sa_cons se_int sa_nil))))) sa_nil))))
abbrev s_gathered : Stmt := topS 13
abbrev N_gathered : List Str := ["bits", "number", "bit"]
theorem sc_gathered : FnScope N_gathered ["bits"] (defScope s_gathered) := ⟨rfl, rfl, rfl, by decide +kernel, rfl, by decide +kernel, by decide +kernel⟩
theorem ok_gathered {P : Program} {w : World} {K : PySem.W.Frag} {mg : Str → Option Value} {base : Heap} {a : Addr} {fd : FuncData} {ca : String → Addr} (T : Txt K mg ca) (F : Fun K "gathered" "gathered" s_gathered a fd)  :
    FnOk P w K mg base (L2.CX P w) 1 a fd ["bits"] (SpF K ca F_gathered) := by
  refine SM.Fn.ofF F sc_gathered rfl fun cdv A outer s H E hr => ?_
  have nd := sc_gathered.nd
  refine ⟨_, (pss_cons (ps_set (i := 1) nd rfl (by first | exact Or.inl rfl | exact Or.inr rfl) pe_int) (pss_cons (ps_for (passes_of rfl) rfl (pi_seqU (K := K) (pv 0)) (pg_name (i := 2) nd rfl (by first | exact Or.inl rfl | exact Or.inr rfl)) (pss_one (ps_set (i := 1) nd rfl (by first | exact Or.inl rfl | exact Or.inr rfl) (pe_op op_orU (pe_op op_shlU (pv 1) pe_int) (pv 2))))) (pss_one (ps_ret (pv 1))))), ?_⟩
  exact (ss_seq (ss_set se_int) (ss_seq (ss_for (sw_seq se_var) sg_name (ss_set (se_op os_or (se_op os_shl se_var se_int) se_var))) (ss_ret se_var)))
abbrev s_number_of : Stmt := topS 15
abbrev N_number_of : List Str := ["bits"]
theorem sc_number_of : FnScope N_number_of ["bits"] (defScope s_number_of) := ⟨rfl, rfl, rfl, by decide +kernel, rfl, by decide +kernel, by decide +kernel⟩
theorem ok_number_of {P : Program} {w : World} {K : PySem.W.Frag} {mg : Str → Option Value} {base : Heap} {a : Addr} {fd : FuncData} {ca : String → Addr} (T : Txt K mg ca) (F : Fun K "number_of" "number_of" s_number_of a fd) (C_gathered : Dx P w K mg base 1 "gathered" (SpF K ca F_gathered)) (C_is_bits : Dx P w K mg base 2 "is_bits" (SpF K ca F_is_bits)) :
    FnOk P w K mg base (L2.CX P w) 3 a fd ["bits"] (SpF K ca F_number_of) := by
  refine SM.Fn.ofF F sc_number_of rfl fun cdv A outer s H E hr => ?_
  have nd := sc_number_of.nd
  refine ⟨_, (pss_cons (ps_if (pt_not (pt_val (pe_dx C_is_bits (takes_of rfl rfl rfl rfl) hr (by decide) rfl (pa_cons (pv 0) pa_nil)))) (pss_one (DL.ps_raiseC rfl (takes_of rfl rfl rfl rfl) (pmk_own PySem.F.excBase_ValueError T.e_NoBits T.g_NoBits T.k_NoBits (raises_own T.b_NoBits T.t_NoBits) rfl))) pss_nil) (pss_one (ps_ret (pe_dx C_gathered (takes_of rfl rfl rfl rfl) hr (by decide) rfl (pa_cons (pv 0) pa_nil))))), ?_⟩
  exact (ss_seq (ss_if (st_not (st_b (se_call (sa_cons se_var sa_nil)))) (ss_raise rfl) ss_next) (ss_ret (se_call (sa_cons se_var sa_nil))))
abbrev s_number_by : Stmt := topS 22
abbrev N_number_by : List Str := ["bits"]
theorem sc_number_by : FnScope N_number_by ["bits"] (defScope s_number_by) := ⟨rfl, rfl, rfl, by decide +kernel, rfl, by decide +kernel, by decide +kernel⟩
theorem ok_number_by {P : Program} {w : World} {K : PySem.W.Frag} {mg : Str → Option Value} {base : Heap} {a : Addr} {fd : FuncData} {ca : String → Addr} (T : Txt K mg ca) (F : Fun K "number_by" "number_by" s_number_by a fd) (C_is_bits : Dx P w K mg base 2 "is_bits" (SpF K ca F_is_bits)) (C_number_of : Dx P w K mg base 3 "number_of" (SpF K ca F_number_of)) :
    FnOk P w K mg base (L2.CX P w) 4 a fd ["bits"] (SpF K ca F_number_by) := by
  refine SM.Fn.ofF F sc_number_by rfl fun cdv A outer s H E hr => ?_
  have nd := sc_number_by.nd
  refine ⟨_, (pss_cons (ps_if (pt_not (pt_val (pe_dx C_is_bits (takes_of rfl rfl rfl rfl) hr (by decide) rfl (pa_cons (pv 0) pa_nil)))) (pss_one (DL.ps_raiseC rfl (takes_of rfl rfl rfl rfl) (pmk_own PySem.F.excBase_ValueError T.e_NoBits T.g_NoBits T.k_NoBits (raises_own T.b_NoBits T.t_NoBits) rfl))) pss_nil) (pss_one (ps_ret (pe_dx C_number_of (takes_of rfl rfl rfl rfl) hr (by decide) rfl (pa_cons (pv 0) pa_nil))))), ?_⟩
  exact (ss_seq (ss_if (st_not (st_b (se_call (sa_cons se_var sa_nil)))) (ss_raise rfl) ss_next) (ss_ret (se_call (sa_cons se_var sa_nil))))
abbrev s_coded : Stmt := topS 23
abbrev N_coded : List Str := ["bits", "code", "many"]
theorem sc_coded : FnScope N_coded ["bits", "code"] (defScope s_coded) := ⟨rfl, rfl, rfl, by decide +kernel, rfl, by decide +kernel, by decide +kernel⟩
theorem ok_coded {P : Program} {w : World} {K : PySem.W.Frag} {mg : Str → Option Value} {base : Heap} {a : Addr} {fd : FuncData} {ca : String → Addr} (T : Txt K mg ca) (F : Fun K "coded" "coded" s_coded a fd) (C_bits_by : Dx P w K mg base 2 "bits_by" (SpF K ca F_bits_by)) (C_divided : Dx P w K mg base 1 "divided" (SpF K ca F_divided)) (C_need_code : Dx P w K mg base 1 "need_code" (SpF K ca F_need_code)) (C_number_by : Dx P w K mg base 4 "number_by" (SpF K ca F_number_by)) (C_width : Dx P w K mg base 2 "width" (SpF K ca F_width)) :
    FnOk P w K mg base (L2.CX P w) 5 a fd ["bits", "code"] (SpF K ca F_coded) := by
  refine SM.Fn.ofF F sc_coded rfl fun cdv A outer s H E hr => ?_
  have nd := sc_coded.nd
  refine ⟨_, (pss_cons (ps_expr (pe_dx C_need_code (takes_of rfl rfl rfl rfl) hr (by decide) rfl (pa_cons (pv 1) pa_nil))) (pss_cons (ps_set (i := 2) nd rfl (by first | exact Or.inl rfl | exact Or.inr rfl) (pe_dx C_width (takes_of rfl rfl rfl rfl) hr (by decide) rfl (pa_cons (pv 1) pa_nil))) (pss_one (ps_ret (pe_op (op_addU (K := K)) (pv 0) (pe_dx C_bits_by (takes_of rfl rfl rfl rfl) hr (by decide) rfl (pa_cons (pe_dx C_divided (takes_of rfl rfl rfl rfl) hr (by decide) rfl (pa_cons (pe_op op_shlU (pe_dx C_number_by (takes_of rfl rfl rfl rfl) hr (by decide) rfl (pa_cons (pv 0) pa_nil)) (pv 2)) (pa_cons (pv 1) pa_nil))) (pa_cons (pv 2) pa_nil)))))))), ?_⟩
  exact (ss_seq (ss_drop (se_call (sa_cons se_var sa_nil))) (ss_seq (ss_set (se_call (sa_cons se_var sa_nil))) (ss_ret (se_op os_add se_var (se_call (sa_cons (se_call (sa_cons (se_op os_shl (se_call (sa_cons se_var sa_nil)) se_var) (sa_cons se_var sa_nil))) (sa_cons se_var sa_nil)))))))
abbrev s_coded_row : Stmt := topS 55
abbrev N_coded_row : List Str := ["row", "code", "found", "byte"]
theorem sc_coded_row : FnScope N_coded_row ["row", "code"] (defScope s_coded_row) := ⟨rfl, rfl, rfl, by decide +kernel, rfl, by decide +kernel, by decide +kernel⟩
theorem ok_coded_row {P : Program} {w : World} {K : PySem.W.Frag} {mg : Str → Option Value} {base : Heap} {a : Addr} {fd : FuncData} {ca : String → Addr} (T : Txt K mg ca) (F : Fun K "coded_row" "coded_row" s_coded_row a fd) (C_bits_by : Dx P w K mg base 2 "bits_by" (SpF K ca F_bits_by)) (C_coded : Dx P w K mg base 5 "coded" (SpF K ca F_coded)) :
    FnOk P w K mg base (L2.CX P w) 6 a fd ["row", "code"] (SpF K ca F_coded_row) := by
  refine SM.Fn.ofF F sc_coded_row rfl fun cdv A outer s H E hr => ?_
  have nd := sc_coded_row.nd
  refine ⟨_, (pss_cons (ps_set (i := 2) nd rfl (by first | exact Or.inl rfl | exact Or.inr rfl) (pe_lst pa_nil)) (pss_cons (ps_for (passes_of rfl) rfl (pi_seqU (K := K) (pv 0)) (pg_name (i := 3) nd rfl (by first | exact Or.inl rfl | exact Or.inr rfl)) (pss_one (ps_expr (pe_bm PySem.F.plainAttrs_list PySem.F.slot_list_extend PySem.F.type_list_extend (L2.MtR.or mt_extend mt_extT) (pv 2) (pa_cons (pe_dx C_bits_by (takes_of rfl rfl rfl rfl) hr (by decide) rfl (pa_cons (pv 3) (pa_cons (pe_glob (v := .int 8) rfl T.c_BYTE.choose_spec ⟨_, rfl⟩) pa_nil))) pa_nil))))) (pss_one (ps_ret (pe_dx C_coded (takes_of rfl rfl rfl rfl) hr (by decide) rfl (pa_cons (pe_callTy (call_tupleU (K := K)) (by rfl) T.b_tuple (by decide +kernel) (pa_cons (pv 2) pa_nil)) (pa_cons (pv 1) pa_nil))))))), ?_⟩
  exact (ss_seq (ss_set (se_lst sa_nil)) (ss_seq (ss_for (sw_seq se_var) sg_name (ss_drop (se_bl_ ms_extend se_var (sa_cons (se_call (sa_cons se_var (sa_cons se_int sa_nil))) sa_nil)))) (ss_ret (se_call (sa_cons (se_cb cs_tuple (sa_cons se_var sa_nil)) (sa_cons se_var sa_nil))))))
abbrev s_Thing_row_bits : Stmt := inClass (topS 57) 1
abbrev N_Thing_row_bits : List Str := ["self", "code", "found", "place"]
theorem sc_Thing_row_bits : FnScope N_Thing_row_bits ["self", "code"] (defScope s_Thing_row_bits) := ⟨rfl, rfl, rfl, by decide +kernel, rfl, by decide +kernel, by decide +kernel⟩
theorem ok_Thing_row_bits {P : Program} {w : World} {K : PySem.W.Frag} {mg : Str → Option Value} {base : Heap} {a : Addr} {fd : FuncData} {ca : String → Addr} (T : Txt K mg ca) (F : Fun K "row_bits" "Thing.row_bits" s_Thing_row_bits a fd) (C_coded_row : Dx P w K mg base 6 "coded_row" (SpF K ca F_coded_row)) :
    FnOk P w K mg base (L2.CX P w) 7 a fd ["self", "code"] (SpF K ca F_Thing_row_bits) := by
  refine SM.Fn.ofF F sc_Thing_row_bits rfl fun cdv A outer s H E hr => ?_
  have nd := sc_Thing_row_bits.nd
  refine ⟨_, (pss_cons (ps_set (i := 2) nd rfl (by first | exact Or.inl rfl | exact Or.inr rfl) (pe_callTy (call_listU (K := K)) (by rfl) T.b_list (by decide +kernel) (pa_cons (pe_dx C_coded_row (takes_of rfl rfl rfl rfl) hr (by decide) rfl (pa_cons (pe_fld (pv 0) rfl) (pa_cons (pv 1) pa_nil))) pa_nil))) (pss_cons (ps_for (passes_of rfl) rfl (pi_seqU (K := K) (pe_fld (pv 0) rfl)) (pg_name (i := 3) nd rfl (by first | exact Or.inl rfl | exact Or.inr rfl)) (pss_one (PS.or (ps_asg (pe_op op_subU pe_int (pe_ix (ix_U (K := K)) (pv 2) (pe_op op_subU (pe_un un_neg pe_int) (pv 3)) (fun _ _ => rfl))) (pg_sub (pv 2) (pe_op op_subU (pe_un un_neg pe_int) (pv 3)) set_list)) (ps_dput (DL.room65w hr) (pv 2) (pe_op op_subU (pe_un un_neg pe_int) (pv 3)) (pe_op op_subU pe_int (pe_ix (ix_U (K := K)) (pv 2) (pe_op op_subU (pe_un un_neg pe_int) (pv 3)) (fun _ _ => rfl))) rfl)))) (pss_one (ps_ret (pe_callTy (call_tupleU (K := K)) (by rfl) T.b_tuple (by decide +kernel) (pa_cons (pv 2) pa_nil)))))), ?_⟩
  exact (ss_seq (ss_set (se_cb cs_list (sa_cons (se_call (sa_cons (se_fld (by decide +kernel) ⟨⟨T.cl_Thing, T.n_Thing_row⟩, trivial⟩ se_var) (sa_cons se_var sa_nil))) sa_nil))) (ss_seq (ss_for (sw_seq (se_fld (by decide +kernel) ⟨⟨T.cl_Thing, T.n_Thing_places⟩, trivial⟩ se_var)) sg_name (ss_put se_var (se_op os_sub (se_un us_neg se_int) se_var) (se_op os_sub se_int (se_op os_ix se_var (se_op os_sub (se_un us_neg se_int) se_var))))) (ss_ret (se_cb cs_tuple (sa_cons se_var sa_nil)))))
abbrev s_is_right : Stmt := topS 24
abbrev N_is_right : List Str := ["bits", "code"]
theorem sc_is_right : FnScope N_is_right ["bits", "code"] (defScope s_is_right) := ⟨rfl, rfl, rfl, by decide +kernel, rfl, by decide +kernel, by decide +kernel⟩
theorem ok_is_right {P : Program} {w : World} {K : PySem.W.Frag} {mg : Str → Option Value} {base : Heap} {a : Addr} {fd : FuncData} {ca : String → Addr} (T : Txt K mg ca) (F : Fun K "is_right" "is_right" s_is_right a fd) (C_divided : Dx P w K mg base 1 "divided" (SpF K ca F_divided)) (C_need_code : Dx P w K mg base 1 "need_code" (SpF K ca F_need_code)) (C_number_by : Dx P w K mg base 4 "number_by" (SpF K ca F_number_by)) :
    FnOk P w K mg base (L2.CX P w) 5 a fd ["bits", "code"] (SpF K ca F_is_right) := by
  refine SM.Fn.ofF F sc_is_right rfl fun cdv A outer s H E hr => ?_
  have nd := sc_is_right.nd
  refine ⟨_, (pss_cons (ps_expr (pe_dx C_need_code (takes_of rfl rfl rfl rfl) hr (by decide) rfl (pa_cons (pv 1) pa_nil))) (pss_one (ps_ret (pe_cmpR (op_eqPK (K := K) (DL.room65 hr)) (pe_dx C_divided (takes_of rfl rfl rfl rfl) hr (by decide) rfl (pa_cons (pe_dx C_number_by (takes_of rfl rfl rfl rfl) hr (by decide) rfl (pa_cons (pv 0) pa_nil)) (pa_cons (pv 1) pa_nil))) pe_int (nomark _))))), ?_⟩
  exact (ss_seq (ss_drop (se_call (sa_cons se_var sa_nil))) (ss_ret (se_op os_eq (se_call (sa_cons (se_call (sa_cons se_var sa_nil)) (sa_cons se_var sa_nil))) se_int)))
abbrev s_packet_by : Stmt := topS 42
abbrev N_packet_by : List Str := ["thing", "name", "first"]
theorem sc_packet_by : FnScope N_packet_by ["thing"] (defScope s_packet_by) := ⟨rfl, rfl, rfl, by decide +kernel, rfl, by decide +kernel, by decide +kernel⟩
theorem ok_packet_by {P : Program} {w : World} {K : PySem.W.Frag} {mg : Str → Option Value} {base : Heap} {a : Addr} {fd : FuncData} {ca : String → Addr} (T : Txt K mg ca) (F : Fun K "packet_by" "packet_by" s_packet_by a fd) (M_Packet : Mx P w K mg base 3 "Packet" (ca "Packet") (SpF K ca F_Packet___init__)) (C_are_bytes : Dx P w K mg base 2 "are_bytes" (SpF K ca F_are_bytes)) (C_of_two : Dx P w K mg base 1 "of_two" (SpF K ca F_of_two)) (C_sum_of : Dx P w K mg base 2 "sum_of" (SpF K ca F_sum_of)) :
    FnOk P w K mg base (L2.CX P w) 5 a fd ["thing"] (SpF K ca F_packet_by) := by
  refine SM.Fn.ofF F sc_packet_by rfl fun cdv A outer s H E hr => ?_
  have nd := sc_packet_by.nd
  refine ⟨_, (pss_cons (ps_if (PW.pt (pw_or (pt_not (pt_val (pe_dx C_are_bytes (takes_of rfl rfl rfl rfl) hr (by decide) rfl (pa_cons (pv 0) (pa_cons (pe_op (op_addU (K := K)) (pe_glob (v := .int 14) rfl T.c_HEAD.choose_spec ⟨_, rfl⟩) (pe_glob (v := .int 1000) rfl T.c_MOST_TOGETHER.choose_spec ⟨_, rfl⟩)) pa_nil))))) (pw_or1 (pt_cmpR op_ltU (pe_callB (call_lenU (K := K)) (by rfl) T.b_len (by decide +kernel) (pa_cons (pv 0) pa_nil)) (pe_glob (v := .int 14) rfl T.c_HEAD.choose_spec ⟨_, rfl⟩) (nomark _))))) (pss_one (DL.ps_raiseC rfl (takes_of rfl rfl rfl rfl) (pmk_own PySem.F.excBase_ValueError T.e_NoPacket T.g_NoPacket T.k_NoPacket (raises_own T.b_NoPacket T.t_NoPacket) rfl))) pss_nil) (pss_cons (ps_if (PW.pt (pw_or (pt_cmpR op_gtU (pe_ix (ix_U (K := K)) (pv 0) (pe_glob (v := .int 8) rfl T.c_MORE_AT.choose_spec ⟨_, rfl⟩) (fun _ _ => rfl)) pe_int (nomark _)) (pw_or (pt_cmpR (op_nePK (K := K) (DL.room65 hr)) (pe_ix (ix_U (K := K)) (pv 0) (pe_glob (v := .int 9) rfl T.c_NOUGHT_AT.choose_spec ⟨_, rfl⟩) (fun _ _ => rfl)) pe_int (nomark _)) (pw_or1 (pt_cmpR (op_nePK (K := K) (DL.room65 hr)) (pe_dx C_of_two (takes_of rfl rfl rfl rfl) hr (by decide) rfl (pa_cons (pv 0) (pa_cons (pe_glob (v := .int 10) rfl T.c_MANY_AT.choose_spec ⟨_, rfl⟩) pa_nil))) (pe_op op_subU (pe_callB (call_lenU (K := K)) (by rfl) T.b_len (by decide +kernel) (pa_cons (pv 0) pa_nil)) (pe_glob (v := .int 14) rfl T.c_HEAD.choose_spec ⟨_, rfl⟩)) (nomark _)))))) (pss_one (DL.ps_raiseC rfl (takes_of rfl rfl rfl rfl) (pmk_own PySem.F.excBase_ValueError T.e_NoPacket T.g_NoPacket T.k_NoPacket (raises_own T.b_NoPacket T.t_NoPacket) rfl))) pss_nil) (pss_cons (ps_if (pt_cmpR (op_nePK (K := K) (DL.room65 hr)) (pe_dx C_of_two (takes_of rfl rfl rfl rfl) hr (by decide) rfl (pa_cons (pv 0) (pa_cons (pe_glob (v := .int 12) rfl T.c_SUM_AT.choose_spec ⟨_, rfl⟩) pa_nil))) (pe_dx C_sum_of (takes_of rfl rfl rfl rfl) hr (by decide) rfl (pa_cons (pv 0) pa_nil)) (nomark _)) (pss_one (DL.ps_raiseC rfl (takes_of rfl rfl rfl rfl) (pmk_own PySem.F.excBase_ValueError T.e_NoPacket T.g_NoPacket T.k_NoPacket (raises_own T.b_NoPacket T.t_NoPacket) rfl))) pss_nil) (pss_cons (ps_par (i := 1) (j := 2) rfl nd rfl rfl (by decide) rfl rfl (pa_cons (pe_dx C_of_two (takes_of rfl rfl rfl rfl) hr (by decide) rfl (pa_cons (pv 0) (pa_cons pe_int pa_nil))) (pa_cons (pe_dx C_of_two (takes_of rfl rfl rfl rfl) hr (by decide) rfl (pa_cons (pv 0) (pa_cons pe_int pa_nil))) pa_nil)) (by rfl)) (pss_one (ps_ret (pe_mx M_Packet (takes_of rfl rfl rfl rfl) hr (by decide) rfl (pa_cons (pe_ix (ix_U (K := K)) (pv 0) pe_int (fun _ _ => rfl)) (pa_cons (pe_ix (ix_U (K := K)) (pv 0) pe_int (fun _ _ => rfl)) (pa_cons (pe_ix (ix_U (K := K)) (pv 0) pe_int (fun _ _ => rfl)) (pa_cons (pe_ix (ix_U (K := K)) (pv 0) pe_int (fun _ _ => rfl)) (pa_cons (pv 1) (pa_cons (pv 2) (pa_cons (pe_cmpR (op_eqPK (K := K) (DL.room65 hr)) (pe_ix (ix_U (K := K)) (pv 0) (pe_glob (v := .int 8) rfl T.c_MORE_AT.choose_spec ⟨_, rfl⟩) (fun _ _ => rfl)) pe_int (nomark _)) (pa_cons (pe_slice (sl_U (K := K)) (pv 0) (po_some (pe_glob (v := .int 14) rfl T.c_HEAD.choose_spec ⟨_, rfl⟩)) po_none) pa_nil))))))))))))))), ?_⟩
  exact (ss_seq (ss_if (st_or (st_not (st_b (se_call (sa_cons se_var (sa_cons (se_op os_add se_int se_int) sa_nil))))) (st_test (se_op os_lt (se_cb cs_len (sa_cons se_var sa_nil)) se_int))) (ss_raise rfl) ss_next) (ss_seq (ss_if (st_or (st_test (se_op os_gt (se_op os_ix se_var se_int) se_int)) (st_or (st_test (se_op os_ne (se_op os_ix se_var se_int) se_int)) (st_test (se_op os_ne (se_call (sa_cons se_var (sa_cons se_int sa_nil))) (se_op os_sub (se_cb cs_len (sa_cons se_var sa_nil)) se_int))))) (ss_raise rfl) ss_next) (ss_seq (ss_if (st_test (se_op os_ne (se_call (sa_cons se_var (sa_cons se_int sa_nil))) (se_call (sa_cons se_var sa_nil)))) (ss_raise rfl) ss_next) (ss_seq (ss_par (sa_cons (se_call (sa_cons se_var (sa_cons se_int sa_nil))) (sa_cons (se_call (sa_cons se_var (sa_cons se_int sa_nil))) sa_nil))) (ss_ret (se_make (sa_cons (se_op os_ix se_var se_int) (sa_cons (se_op os_ix se_var se_int) (sa_cons (se_op os_ix se_var se_int) (sa_cons (se_op os_ix se_var se_int) (sa_cons se_var (sa_cons se_var (sa_cons (se_op os_eq (se_op os_ix se_var se_int) se_int) (sa_cons (se_sl sls_all se_var (so_some se_int) so_none) sa_nil))))))))))))))
abbrev s_row_by : Stmt := topS 56
abbrev N_row_by : List Str := ["bits", "at"]
theorem sc_row_by : FnScope N_row_by ["bits"] (defScope s_row_by) := ⟨rfl, rfl, rfl, by decide +kernel, rfl, by decide +kernel, by decide +kernel⟩
theorem ok_row_by {P : Program} {w : World} {K : PySem.W.Frag} {mg : Str → Option Value} {base : Heap} {a : Addr} {fd : FuncData} {ca : String → Addr} (T : Txt K mg ca) (F : Fun K "row_by" "row_by" s_row_by a fd) (C_number_of : Dx P w K mg base 3 "number_of" (SpF K ca F_number_of)) :
    FnOk P w K mg base (L2.CX P w) 4 a fd ["bits"] (SpF K ca F_row_by) := by
  refine SM.Fn.ofF F sc_row_by rfl fun cdv A outer s H E hr => ?_
  have nd := sc_row_by.nd
  refine ⟨_, (pss_one (ps_ret (pe_callTy (call_tupleU (K := K)) (by rfl) T.b_tuple (by decide +kernel) (pa_cons (pe_lc (own := [("at", 1)]) (g := (gName 1)) rfl nd (pi_range3 rfl T.b_range (pa_cons pe_int (pa_cons (pe_callB (call_lenU (K := K)) (by rfl) T.b_len (by decide +kernel) (pa_cons (pv 0) pa_nil)) (pa_cons (pe_glob (v := .int 8) rfl T.c_BYTE.choose_spec ⟨_, rfl⟩) pa_nil)))) (blkOk_by (own := [("at", 1)]) (N := N_row_by) (sc := defScope s_row_by) (by decide +kernel)) (fun _ _ _ _ _ => (pg_name (i := 1) nd rfl (by first | exact Or.inl rfl | exact Or.inr rfl))) (fun _ _ _ _ _ => pts_nil) (fun _ _ _ _ _ => (pe_dx0 C_number_of hr (by decide) rfl (pa_cons (pe_slice (sl_U (K := K)) (pv 0) (po_some (pv 1)) (po_some (pe_op (op_addU (K := K)) (pv 1) (pe_glob (v := .int 8) rfl T.c_BYTE.choose_spec ⟨_, rfl⟩)))) pa_nil)))) pa_nil)))), ?_⟩
  exact (ss_ret (se_cb cs_tuple (sa_cons (se_lc (W2 := fun _ _ _ _ => False) (sw_r3 (sa_cons se_int (sa_cons (se_cb cs_len (sa_cons se_var sa_nil)) (sa_cons se_int sa_nil)))) sg_name (by decide) st_yes (se_call0 (sa_cons (se_sl sls_all se_var (so_some se_var) (so_some (se_op os_add se_var se_int))) sa_nil))) sa_nil)))
abbrev s_Thing_read_packet : Stmt := inClass (topS 57) 3
abbrev N_Thing_read_packet : List Str := ["self", "code", "row", "bits", "found"]
theorem sc_Thing_read_packet : FnScope N_Thing_read_packet ["self", "code"] (defScope s_Thing_read_packet) := ⟨rfl, rfl, rfl, by decide +kernel, rfl, by decide +kernel, by decide +kernel⟩
theorem ok_Thing_read_packet {P : Program} {w : World} {K : PySem.W.Frag} {mg : Str → Option Value} {base : Heap} {a : Addr} {fd : FuncData} {ca : String → Addr} (T : Txt K mg ca) (F : Fun K "read_packet" "Thing.read_packet" s_Thing_read_packet a fd) (M_Thing_row_bits : SM.Mt P w K mg base 7 (ca "Thing") "row_bits" (SpF K ca F_Thing_row_bits)) (C_is_right : Dx P w K mg base 5 "is_right" (SpF K ca F_is_right)) (C_packet_by : Dx P w K mg base 5 "packet_by" (SpF K ca F_packet_by)) (C_row_by : Dx P w K mg base 4 "row_by" (SpF K ca F_row_by)) (C_width : Dx P w K mg base 2 "width" (SpF K ca F_width)) :
    FnOk P w K mg base (L2.CX P w) 8 a fd ["self", "code"] (SpF K ca F_Thing_read_packet) := by
  refine SM.Fn.ofF F sc_Thing_read_packet rfl fun cdv A outer s H E hr => ?_
  have nd := sc_Thing_read_packet.nd
  refine ⟨_, (pss_cons (ps_set (i := 2) nd rfl (by first | exact Or.inl rfl | exact Or.inr rfl) (pe_fld (pv 0) rfl)) (pss_cons (ps_if (pt_cmpR (op_nePK (K := K) (DL.room65 hr)) (pe_fld (pv 0) rfl) (pe_tup pa_nil) (nomark _)) (pss_cons (ps_set (i := 3) nd rfl (by first | exact Or.inl rfl | exact Or.inr rfl) (pe_mtX M_Thing_row_bits (takes_of rfl rfl rfl rfl) hr (by decide) T.cl_Thing (pv 0) (pa_cons (pv 1) pa_nil))) (pss_cons (ps_if (pt_not (pt_val (pe_dx C_is_right (takes_of rfl rfl rfl rfl) hr (by decide) rfl (pa_cons (pv 3) (pa_cons (pv 1) pa_nil))))) (pss_one (ps_ret pe_non)) pss_nil) (pss_one (ps_set (i := 2) nd rfl (by first | exact Or.inl rfl | exact Or.inr rfl) (pe_dx C_row_by (takes_of rfl rfl rfl rfl) hr (by decide) rfl (pa_cons (pe_slice (sl_U (K := K)) (pv 3) po_none (po_some (pe_op op_subU (pe_callB (call_lenU (K := K)) (by rfl) T.b_len (by decide +kernel) (pa_cons (pv 3) pa_nil)) (pe_dx C_width (takes_of rfl rfl rfl rfl) hr (by decide) rfl (pa_cons (pv 1) pa_nil))))) pa_nil)))))) pss_nil) (pss_cons (DL.ps_tryO rfl rfl ⟨rfl, by decide, Or.inl T.g_NoPacket⟩ (fun W pn xe tk ps => (pss_one (ps_set (i := 4) nd rfl (by first | exact Or.inl rfl | exact Or.inr rfl) (pe_dx C_packet_by tk hr (by decide) rfl (pa_cons (pv 2) pa_nil))))) (fun a oe cls d pn _ _ => (pss_one (ps_set (i := 4) nd rfl (by first | exact Or.inl rfl | exact Or.inr rfl) pe_non)))) (pss_one (ps_ret (pv 4)))))), ?_⟩
  exact (ss_seq (ss_set (se_fld (by decide +kernel) ⟨⟨T.cl_Thing, T.n_Thing_row⟩, trivial⟩ se_var)) (ss_seq (ss_if (st_test (se_op os_ne (se_fld (by decide +kernel) ⟨⟨T.cl_Thing, T.n_Thing_places⟩, trivial⟩ se_var) (se_tup sa_nil))) (ss_seq (ss_set (meth_one (by decide +kernel) se_var (sa_cons se_var sa_nil))) (ss_seq (ss_if (st_not (st_b (se_call (sa_cons se_var (sa_cons se_var sa_nil))))) (ss_ret se_non) ss_next) (ss_set (se_call (sa_cons (se_sl sls_all se_var so_none (so_some (se_op os_sub (se_cb cs_len (sa_cons se_var sa_nil)) (se_call (sa_cons se_var sa_nil))))) sa_nil))))) ss_next) (ss_seq (ss_tryO T.mm_NoPacket (fun W2 => (ss_set (se_call (sa_cons se_var sa_nil)))) (ss_set se_non)) (ss_ret se_var))))
abbrev s_Net_bring : Stmt := inClass (topS 58) 4
abbrev N_Net_bring : List Str := ["self", "one", "other", "number", "packet", "source", "target", "kind", "life", "name", "first", "more", "data"]
theorem sc_Net_bring : FnScope N_Net_bring ["self", "one", "other", "number"] (defScope s_Net_bring) := ⟨rfl, rfl, rfl, by decide +kernel, rfl, by decide +kernel, by decide +kernel⟩
theorem ok_Net_bring {P : Program} {w : World} {K : PySem.W.Frag} {mg : Str → Option Value} {base : Heap} {a : Addr} {fd : FuncData} {ca : String → Addr} (T : Txt K mg ca) (F : Fun K "bring" "Net.bring" s_Net_bring a fd) (M_Net_put : SM.Mt P w K mg base 4 (ca "Net") "put" (SpF K ca F_Net_put)) (M_Net_road : SM.Mt P w K mg base 2 (ca "Net") "road" (SpF K ca F_Net_road)) (M_Net_thing : SM.Mt P w K mg base 3 (ca "Net") "thing" (SpF K ca F_Net_thing)) (M_Packet : Mx P w K mg base 3 "Packet" (ca "Packet") (SpF K ca F_Packet___init__)) (M_Packet_told : SM.Mt P w K mg base 1 (ca "Packet") "told" (SpF K ca F_Packet_told)) (M_Thing_read_packet : SM.Mt P w K mg base 8 (ca "Thing") "read_packet" (SpF K ca F_Thing_read_packet)) :
    FnOk P w K mg base (L2.CX P w) 9 a fd ["self", "one", "other", "number"] (SpF K ca F_Net_bring) := by
  refine SM.Fn.ofF F sc_Net_bring rfl fun cdv A outer s H E hr => ?_
  have nd := sc_Net_bring.nd
  refine ⟨_, (pss_cons (ps_set (i := 4) nd rfl (by first | exact Or.inl rfl | exact Or.inr rfl) (pe_mtX M_Thing_read_packet (takes_of rfl rfl rfl rfl) hr (by decide) T.cl_Thing (pe_mtX M_Net_thing (takes_of rfl rfl rfl rfl) hr (by decide) T.cl_Net (pv 0) (pa_cons (pv 1) (pa_cons (pv 2) (pa_cons (pv 3) pa_nil)))) (pa_cons (pe_fld (pv 0) rfl) pa_nil))) (pss_cons (ps_expr (PE.or (pe_dpop1 (pe_mtX M_Net_road (takes_of rfl rfl rfl rfl) hr (by decide) T.cl_Net (pv 0) (pa_cons (pv 1) (pa_cons (pv 2) pa_nil))) (pv 3) ⟨rfl, rfl, rfl, rfl⟩) (pe_bm PySem.F.plainAttrs_list PySem.F.slot_list_pop PySem.F.type_list_pop mt_popAt (pe_mtX M_Net_road (takes_of rfl rfl rfl rfl) hr (by decide) T.cl_Net (pv 0) (pa_cons (pv 1) (pa_cons (pv 2) pa_nil))) (pa_cons (pv 3) pa_nil)))) (pss_cons (ps_if (PW.pt (pw_or (pt_cmpR op_isU (pv 4) pe_non (nomark _)) (pw_or1 (pt_cmpR (op_eqPK (K := K) (DL.room65 hr)) (pe_fld (pv 4) rfl) (pv 2) (nomark _))))) (pss_one (ps_ret (pv 4))) pss_nil) (pss_cons (ps_if (pt_cmpR op_gtU (pe_fld (pv 4) rfl) pe_int (nomark _)) (pss_cons (ps_asg (pe_mtX0 M_Packet_told (takes_of rfl rfl rfl rfl) hr (by decide) T.cl_Packet (pv 4)) (pg_tup rfl (pgs_cons (pg_name (i := 5) nd rfl (by first | exact Or.inl rfl | exact Or.inr rfl)) (pgs_cons (pg_name (i := 6) nd rfl (by first | exact Or.inl rfl | exact Or.inr rfl)) (pgs_cons (pg_name (i := 7) nd rfl (by first | exact Or.inl rfl | exact Or.inr rfl)) (pgs_cons (pg_name (i := 8) nd rfl (by first | exact Or.inl rfl | exact Or.inr rfl)) (pgs_cons (pg_name (i := 9) nd rfl (by first | exact Or.inl rfl | exact Or.inr rfl)) (pgs_cons (pg_name (i := 10) nd rfl (by first | exact Or.inl rfl | exact Or.inr rfl)) (pgs_cons (pg_name (i := 11) nd rfl (by first | exact Or.inl rfl | exact Or.inr rfl)) (pgs_cons (pg_name (i := 12) nd rfl (by first | exact Or.inl rfl | exact Or.inr rfl)) pgs_nil)))))))))) (pss_one (ps_expr (pe_mtX M_Net_put (takes_of rfl rfl rfl rfl) hr (by decide) T.cl_Net (pv 0) (pa_cons (pv 2) (pa_cons (pe_mx M_Packet (takes_of rfl rfl rfl rfl) hr (by decide) rfl (pa_cons (pv 5) (pa_cons (pv 6) (pa_cons (pv 7) (pa_cons (pe_op op_subU (pv 8) pe_int) (pa_cons (pv 9) (pa_cons (pv 10) (pa_cons (pv 11) (pa_cons (pv 12) pa_nil))))))))) pa_nil)))))) pss_nil) (pss_one (ps_ret pe_non)))))), ?_⟩
  exact (ss_seq (ss_set (meth_one (by decide +kernel) (meth_one (by decide +kernel) se_var (sa_cons se_var (sa_cons se_var (sa_cons se_var sa_nil)))) (sa_cons (se_fld (by decide +kernel) ⟨⟨T.cl_Net, T.n_Net_code⟩, trivial⟩ se_var) sa_nil))) (ss_seq (ss_drop (se_pop1 (meth_one (by decide +kernel) se_var (sa_cons se_var (sa_cons se_var sa_nil))) se_var)) (ss_seq (ss_if (st_or (st_test (se_op os_is se_var se_non)) (st_test (se_op os_eq (se_fld (by decide +kernel) ⟨⟨T.cl_Packet, T.n_Packet_target⟩, trivial⟩ se_var) se_var))) (ss_ret se_var) ss_next) (ss_seq (ss_if (st_test (se_op os_gt (se_fld (by decide +kernel) ⟨⟨T.cl_Packet, T.n_Packet_life⟩, trivial⟩ se_var) se_int)) (ss_seq (ss_asg (meth_one (by decide +kernel) se_var sa_nil) (sg_tup (sgs_cons sg_name (sgs_cons sg_name (sgs_cons sg_name (sgs_cons sg_name (sgs_cons sg_name (sgs_cons sg_name (sgs_cons sg_name (sgs_cons sg_name sgs_nil)))))))) rfl)) (ss_drop (meth_one (by decide +kernel) se_var (sa_cons se_var (sa_cons (se_make (sa_cons se_var (sa_cons se_var (sa_cons se_var (sa_cons (se_op os_sub se_var se_int) (sa_cons se_var (sa_cons se_var (sa_cons se_var (sa_cons se_var sa_nil))))))))) sa_nil))))) ss_next) (ss_ret se_non)))))
abbrev s_Net_double : Stmt := inClass (topS 58) 6
abbrev N_Net_double : List Str := ["self", "one", "other", "number", "thing"]
theorem sc_Net_double : FnScope N_Net_double ["self", "one", "other", "number"] (defScope s_Net_double) := ⟨rfl, rfl, rfl, by decide +kernel, rfl, by decide +kernel, by decide +kernel⟩
theorem ok_Net_double {P : Program} {w : World} {K : PySem.W.Frag} {mg : Str → Option Value} {base : Heap} {a : Addr} {fd : FuncData} {ca : String → Addr} (T : Txt K mg ca) (F : Fun K "double" "Net.double" s_Net_double a fd) (M_Net_road : SM.Mt P w K mg base 2 (ca "Net") "road" (SpF K ca F_Net_road)) (M_Net_thing : SM.Mt P w K mg base 3 (ca "Net") "thing" (SpF K ca F_Net_thing)) (M_Thing : Mx P w K mg base 1 "Thing" (ca "Thing") (SpF K ca F_Thing___init__)) :
    FnOk P w K mg base (L2.CX P w) 4 a fd ["self", "one", "other", "number"] (SpF K ca F_Net_double) := by
  refine SM.Fn.ofF F sc_Net_double rfl fun cdv A outer s H E hr => ?_
  have nd := sc_Net_double.nd
  refine ⟨_, (pss_cons (ps_set (i := 4) nd rfl (by first | exact Or.inl rfl | exact Or.inr rfl) (pe_mtX M_Net_thing (takes_of rfl rfl rfl rfl) hr (by decide) T.cl_Net (pv 0) (pa_cons (pv 1) (pa_cons (pv 2) (pa_cons (pv 3) pa_nil))))) (pss_one (ps_expr (pe_bm PySem.F.plainAttrs_list PySem.F.slot_list_append PySem.F.type_list_append mt_append (pe_mtX M_Net_road (takes_of rfl rfl rfl rfl) hr (by decide) T.cl_Net (pv 0) (pa_cons (pv 1) (pa_cons (pv 2) pa_nil))) (pa_cons (pe_mx M_Thing (takes_of rfl rfl rfl rfl) hr (by decide) rfl (pa_cons (pe_fld (pv 4) rfl) (pa_cons (pe_fld (pv 4) rfl) (pa_cons (pe_fld (pv 4) rfl) pa_nil)))) pa_nil))))), ?_⟩
  exact (ss_seq (ss_set (meth_one (by decide +kernel) se_var (sa_cons se_var (sa_cons se_var (sa_cons se_var sa_nil))))) (ss_drop (se_bl_ ms_append (meth_one (by decide +kernel) se_var (sa_cons se_var (sa_cons se_var sa_nil))) (sa_cons (se_make (sa_cons (se_fld (by decide +kernel) ⟨⟨T.cl_Thing, T.n_Thing_row⟩, trivial⟩ se_var) (sa_cons (se_fld (by decide +kernel) ⟨⟨T.cl_Thing, T.n_Thing_years⟩, trivial⟩ se_var) (sa_cons (se_fld (by decide +kernel) ⟨⟨T.cl_Thing, T.n_Thing_places⟩, trivial⟩ se_var) sa_nil)))) sa_nil))))
abbrev s_Net_lying : Stmt := inClass (topS 58) 9
abbrev N_Net_lying : List Str := ["self", "road"]
theorem sc_Net_lying : FnScope N_Net_lying ["self"] (defScope s_Net_lying) := ⟨rfl, rfl, rfl, by decide +kernel, rfl, by decide +kernel, by decide +kernel⟩
theorem ok_Net_lying {P : Program} {w : World} {K : PySem.W.Frag} {mg : Str → Option Value} {base : Heap} {a : Addr} {fd : FuncData} {ca : String → Addr} (T : Txt K mg ca) (F : Fun K "lying" "Net.lying" s_Net_lying a fd)  :
    FnOk P w K mg base (L2.CX P w) 1 a fd ["self"] (SpF K ca F_Net_lying) := by
  refine SM.Fn.ofF F sc_Net_lying rfl fun cdv A outer s H E hr => ?_
  have nd := sc_Net_lying.nd
  refine ⟨_, (pss_one (ps_ret (pe_callB (call_sortedA (K := K)) (by rfl) T.b_sorted (by decide +kernel) (pa_cons (pe_lock (pe_lc (own := [("road", 1)]) (g := (gName 1)) rfl nd (pi_keys (pe_fld (pv 0) rfl)) (blkOk_by (own := [("road", 1)]) (N := N_Net_lying) (sc := defScope s_Net_lying) (by decide +kernel)) (fun _ _ _ _ _ => (pg_name (i := 1) nd rfl (by first | exact Or.inl rfl | exact Or.inr rfl))) (fun _ _ _ _ _ => (pts_one (pt_cmpR (op_nePK (K := K) (DL.room65 hr)) (pe_dgetO (DL.room65 hr) (pe_fldK (K := K) rfl (pv 0) rfl) (pv 1) (fun _ _ => rfl)) (pe_lst pa_nil) (nomark _)))) (fun _ _ _ _ _ => (pv 1)))) pa_nil)))), ?_⟩
  exact (ss_ret (se_cb cs_sorted (sa_cons (se_lk (se_lc (W2 := fun _ _ _ _ => False) (sw_keys (se_fld (by decide +kernel) ⟨⟨T.cl_Net, T.n_Net_roads⟩, trivial⟩ se_var)) sg_name (by decide) (st_test (se_op os_ne (se_op os_dget (se_fld (by decide +kernel) ⟨⟨T.cl_Net, T.n_Net_roads⟩, trivial⟩ se_var) se_var) (se_lst sa_nil))) se_var)) sa_nil)))
abbrev s_Net_things : Stmt := inClass (topS 58) 10
abbrev N_Net_things : List Str := ["self", "one", "other", "thing"]
theorem sc_Net_things : FnScope N_Net_things ["self", "one", "other"] (defScope s_Net_things) := ⟨rfl, rfl, rfl, by decide +kernel, rfl, by decide +kernel, by decide +kernel⟩
theorem ok_Net_things {P : Program} {w : World} {K : PySem.W.Frag} {mg : Str → Option Value} {base : Heap} {a : Addr} {fd : FuncData} {ca : String → Addr} (T : Txt K mg ca) (F : Fun K "things" "Net.things" s_Net_things a fd) (M_Net_road : SM.Mt P w K mg base 2 (ca "Net") "road" (SpF K ca F_Net_road)) (M_Thing_row_bits : SM.Mt P w K mg base 7 (ca "Thing") "row_bits" (SpF K ca F_Thing_row_bits)) :
    FnOk P w K mg base (L2.CX P w) 8 a fd ["self", "one", "other"] (SpF K ca F_Net_things) := by
  refine SM.Fn.ofF F sc_Net_things rfl fun cdv A outer s H E hr => ?_
  have nd := sc_Net_things.nd
  refine ⟨_, (pss_one (ps_ret (pe_lc (own := [("thing", 3)]) (g := (gName 3)) rfl nd (pi_seqU (K := K) (pe_mtX M_Net_road (takes_of rfl rfl rfl rfl) hr (by decide) T.cl_Net (pv 0) (pa_cons (pv 1) (pa_cons (pv 2) pa_nil)))) (blkOk_by (own := [("thing", 3)]) (N := N_Net_things) (sc := defScope s_Net_things) (by decide +kernel)) (fun _ _ _ _ _ => (pg_name (i := 3) nd rfl (by first | exact Or.inl rfl | exact Or.inr rfl))) (fun _ _ _ _ _ => pts_nil) (fun _ _ _ _ _ => (pe_tup (pa_cons (pe_fldK (K := K) rfl (pv 3) rfl) (pa_cons (pe_mtN M_Thing_row_bits hr (by decide) T.cl_Thing (pv 3) (pa_cons (pe_fldK (K := K) rfl (pv 0) rfl) pa_nil)) pa_nil))))))), ?_⟩
  exact (ss_ret (se_lc (W2 := fun _ _ _ _ => False) (sw_seq (meth_one (by decide +kernel) se_var (sa_cons se_var (sa_cons se_var sa_nil)))) sg_name (by decide) st_yes (se_tup (sa_cons (se_fld (by decide +kernel) ⟨⟨T.cl_Thing, T.n_Thing_years⟩, trivial⟩ se_var) (sa_cons (meth0_one (by decide +kernel) se_var (sa_cons (se_fld (by decide +kernel) ⟨⟨T.cl_Net, T.n_Net_code⟩, trivial⟩ se_var) sa_nil)) sa_nil)))))
abbrev s_l_bits : Stmt := topS 64
abbrev N_l_bits : List Str := ["_law_state_here", "_law_many", "_law_off", "_law_found", "_law_k", "_law_place"]
theorem sc_l_bits : FnScope N_l_bits ["_law_state_here", "_law_many"] (defScope s_l_bits) := ⟨rfl, rfl, rfl, by decide +kernel, rfl, by decide +kernel, by decide +kernel⟩
theorem ok_l_bits {P : Program} {w : World} {K : PySem.W.Frag} {mg : Str → Option Value} {base : Heap} {a : Addr} {fd : FuncData} {ca : String → Addr} (T : Txt K mg ca) (F : Fun K "_law_bits" "_law_bits" s_l_bits a fd) (C_l_next : Dx P w K mg base 1 "_law_next" (SpF K ca F_l_next)) :
    FnOk P w K mg base (L2.CX P w) 2 a fd ["_law_state_here", "_law_many"] (SpF K ca F_l_bits) := by
  refine SM.Fn.ofF F sc_l_bits rfl fun cdv A outer s H E hr => ?_
  have nd := sc_l_bits.nd
  refine ⟨_, (pss_cons (ps_set (i := 2) nd rfl (by first | exact Or.inl rfl | exact Or.inr rfl) (pe_dx C_l_next (takes_of rfl rfl rfl rfl) hr (by decide) rfl (pa_cons (pv 0) (pa_cons (pv 1) pa_nil)))) (pss_cons (ps_set (i := 3) nd rfl (by first | exact Or.inl rfl | exact Or.inr rfl) (pe_lst pa_nil)) (pss_cons (ps_for (passes_of rfl) rfl (pi_range1 rfl T.b_range (pa_cons (pe_op (op_addU (K := K)) pe_int (pe_dx C_l_next (takes_of rfl rfl rfl rfl) hr (by decide) rfl (pa_cons (pv 0) (pa_cons pe_int pa_nil)))) pa_nil)) (pg_name (i := 4) nd rfl (by first | exact Or.inl rfl | exact Or.inr rfl)) (pss_cons (ps_set (i := 5) nd rfl (by first | exact Or.inl rfl | exact Or.inr rfl) (pe_ix (ix_U (K := K)) (pe_lst (pa_cons (pv 2) (pa_cons (pe_dx C_l_next (takes_of rfl rfl rfl rfl) hr (by decide) rfl (pa_cons (pv 0) (pa_cons (pv 1) pa_nil))) (pa_cons (pe_op op_modU (pe_op (op_addU (K := K)) (pv 2) (pe_dx C_l_next (takes_of rfl rfl rfl rfl) hr (by decide) rfl (pa_cons (pv 0) (pa_cons pe_int pa_nil)))) (pv 1)) (pa_cons (pe_op op_subU (pe_op op_subU (pv 1) pe_int) (pv 4)) pa_nil))))) (pe_dx C_l_next (takes_of rfl rfl rfl rfl) hr (by decide) rfl (pa_cons (pv 0) (pa_cons pe_int pa_nil))) (fun _ _ => rfl))) (pss_one (ps_if (pt_cmpR (op_notInAll (K := K) (DL.room65 hr)) (pv 5) (pv 3) rfl) (pss_one (ps_expr (pe_bm PySem.F.plainAttrs_list PySem.F.slot_list_append PySem.F.type_list_append mt_append (pv 3) (pa_cons (pv 5) pa_nil)))) pss_nil)))) (pss_one (ps_ret (pv 3)))))), ?_⟩
  exact (ss_seq (ss_set (se_call (sa_cons se_var (sa_cons se_var sa_nil)))) (ss_seq (ss_set (se_lst sa_nil)) (ss_seq (ss_for (sw_r1 (sa_cons (se_op os_add se_int (se_call (sa_cons se_var (sa_cons se_int sa_nil)))) sa_nil)) sg_name (ss_seq (ss_set (se_op os_ix (se_lst (sa_cons se_var (sa_cons (se_call (sa_cons se_var (sa_cons se_var sa_nil))) (sa_cons (se_op os_mod (se_op os_add se_var (se_call (sa_cons se_var (sa_cons se_int sa_nil)))) se_var) (sa_cons (se_op os_sub (se_op os_sub se_var se_int) se_var) sa_nil))))) (se_call (sa_cons se_var (sa_cons se_int sa_nil))))) (ss_if (st_test (se_op os_notin se_var se_var)) (ss_drop (se_bl_ ms_append se_var (sa_cons se_var sa_nil))) ss_next))) (ss_ret se_var))))
abbrev s_Thing_how_many : Stmt := inClass (topS 57) 2
abbrev N_Thing_how_many : List Str := ["self", "code"]
theorem sc_Thing_how_many : FnScope N_Thing_how_many ["self", "code"] (defScope s_Thing_how_many) := ⟨rfl, rfl, rfl, by decide +kernel, rfl, by decide +kernel, by decide +kernel⟩
theorem ok_Thing_how_many {P : Program} {w : World} {K : PySem.W.Frag} {mg : Str → Option Value} {base : Heap} {a : Addr} {fd : FuncData} {ca : String → Addr} (T : Txt K mg ca) (F : Fun K "how_many" "Thing.how_many" s_Thing_how_many a fd) (C_width : Dx P w K mg base 2 "width" (SpF K ca F_width)) :
    FnOk P w K mg base (L2.CX P w) 3 a fd ["self", "code"] (SpF K ca F_Thing_how_many) := by
  refine SM.Fn.ofF F sc_Thing_how_many rfl fun cdv A outer s H E hr => ?_
  have nd := sc_Thing_how_many.nd
  refine ⟨_, (pss_one (ps_ret (pe_op (op_addU (K := K)) (pe_op (op_mulA (K := K)) (pe_callB (call_lenU (K := K)) (by rfl) T.b_len (by decide +kernel) (pa_cons (pe_fld (pv 0) rfl) pa_nil)) (pe_glob (v := .int 8) rfl T.c_BYTE.choose_spec ⟨_, rfl⟩)) (pe_dx C_width (takes_of rfl rfl rfl rfl) hr (by decide) rfl (pa_cons (pv 1) pa_nil))))), ?_⟩
  exact (ss_ret (se_op os_add (se_op os_mul (se_cb cs_len (sa_cons (se_fld (by decide +kernel) ⟨⟨T.cl_Thing, T.n_Thing_row⟩, trivial⟩ se_var) sa_nil)) se_int) (se_call (sa_cons se_var sa_nil))))
abbrev s_Net_turn : Stmt := inClass (topS 58) 7
abbrev N_Net_turn : List Str := ["self", "one", "other", "number", "places", "thing", "place"]
theorem sc_Net_turn : FnScope N_Net_turn ["self", "one", "other", "number", "places"] (defScope s_Net_turn) := ⟨rfl, rfl, rfl, by decide +kernel, rfl, by decide +kernel, by decide +kernel⟩
theorem ok_Net_turn {P : Program} {w : World} {K : PySem.W.Frag} {mg : Str → Option Value} {base : Heap} {a : Addr} {fd : FuncData} {ca : String → Addr} (T : Txt K mg ca) (F : Fun K "turn" "Net.turn" s_Net_turn a fd) (M_Net_thing : SM.Mt P w K mg base 3 (ca "Net") "thing" (SpF K ca F_Net_thing)) (M_Thing_how_many : SM.Mt P w K mg base 3 (ca "Thing") "how_many" (SpF K ca F_Thing_how_many)) (C_is_number_nets : Dx P w K mg base 1 "is_number_nets" (SpF K ca F_is_number_nets)) :
    FnOk P w K mg base (L2.CX P w) 4 a fd ["self", "one", "other", "number", "places"] (SpF K ca F_Net_turn) := by
  refine SM.Fn.ofF F sc_Net_turn rfl fun cdv A outer s H E hr => ?_
  have nd := sc_Net_turn.nd
  refine ⟨_, (pss_cons (ps_set (i := 5) nd rfl (by first | exact Or.inl rfl | exact Or.inr rfl) (pe_mtX M_Net_thing (takes_of rfl rfl rfl rfl) hr (by decide) T.cl_Net (pv 0) (pa_cons (pv 1) (pa_cons (pv 2) (pa_cons (pv 3) pa_nil))))) (pss_cons (ps_if (PW.pt (pw_or (pt_not (pt_val (pe_callB (call_isiA (K := K)) (by rfl) T.b_isinstance (by decide +kernel) (pa_cons (pv 4) (pa_cons (pe_bltn (v := .ty "list") (by rfl) T.b_list (by decide +kernel) rfl) pa_nil))))) (pw_or (pt_not (pt_chain op_leU op_leU pe_int (pe_callB (call_lenU (K := K)) (by rfl) T.b_len (by decide +kernel) (pa_cons (pv 4) pa_nil)) (pe_glob (v := .int 3) rfl T.c_MOST_TURNED.choose_spec ⟨_, rfl⟩))) (pw_or1 (pt_cmpR (op_nePK (K := K) (DL.room65 hr)) (pe_fld (pv 5) rfl) (pe_tup pa_nil) (nomark _)))))) (pss_one (DL.ps_raiseC rfl (takes_of rfl rfl rfl rfl) (pmk_own PySem.F.excBase_ValueError T.e_NoPlace T.g_NoPlace T.k_NoPlace (raises_own T.b_NoPlace T.t_NoPlace) rfl))) pss_nil) (pss_cons (ps_if (pt_not (pt_val (pe_callB (call_allU (K := K) rfl) (by rfl) T.b_all (by decide +kernel) (pa_cons (pe_lc (own := [("place", 6)]) (g := (gName 6)) rfl nd (pi_seqU (K := K) (pv 4)) (blkOk_by (own := [("place", 6)]) (N := N_Net_turn) (sc := defScope s_Net_turn) (by decide +kernel)) (fun _ _ _ _ _ => (pg_name (i := 6) nd rfl (by first | exact Or.inl rfl | exact Or.inr rfl))) (fun _ _ _ _ _ => pts_nil) (fun _ _ _ _ _ => (pe_dx0 C_is_number_nets hr (by decide) rfl (pa_cons (pv 6) (pa_cons pe_int (pa_cons (pe_op op_subU (pe_mtN M_Thing_how_many hr (by decide) T.cl_Thing (pv 5) (pa_cons (pe_fldK (K := K) rfl (pv 0) rfl) pa_nil)) pe_int) pa_nil)))))) pa_nil)))) (pss_one (DL.ps_raiseC rfl (takes_of rfl rfl rfl rfl) (pmk_own PySem.F.excBase_ValueError T.e_NoPlace T.g_NoPlace T.k_NoPlace (raises_own T.b_NoPlace T.t_NoPlace) rfl))) pss_nil) (pss_cons (ps_if (pt_cmpR op_ltU (pe_lenSetG rfl T.b_len rfl T.b_set (pv 4)) (pe_callB (call_lenU (K := K)) (by rfl) T.b_len (by decide +kernel) (pa_cons (pv 4) pa_nil)) (nomark _)) (pss_one (DL.ps_raiseC rfl (takes_of rfl rfl rfl rfl) (pmk_own PySem.F.excBase_ValueError T.e_NoPlace T.g_NoPlace T.k_NoPlace (raises_own T.b_NoPlace T.t_NoPlace) rfl))) pss_nil) (pss_one (ps_fld (pv 5) (pe_callTy (call_tupleU (K := K)) (by rfl) T.b_tuple (by decide +kernel) (pa_cons (pv 4) pa_nil)) rfl)))))), ?_⟩
  exact (ss_seq (ss_set (meth_one (by decide +kernel) se_var (sa_cons se_var (sa_cons se_var (sa_cons se_var sa_nil))))) (ss_seq (ss_if (st_or (st_not (st_b (se_cb (cs_isi T.isO T.isX T.isT) (sa_cons se_var (sa_cons se_ty sa_nil))))) (st_or (st_not (st_test (se_ch os_le os_le se_int (se_cb cs_len (sa_cons se_var sa_nil)) se_int))) (st_test (se_op os_ne (se_fld (by decide +kernel) ⟨⟨T.cl_Thing, T.n_Thing_places⟩, trivial⟩ se_var) (se_tup sa_nil))))) (ss_raise rfl) ss_next) (ss_seq (ss_if (st_not (st_b (se_cb cs_all (sa_cons (se_lc (W2 := fun _ _ _ _ => False) (sw_seq se_var) sg_name (by decide) st_yes (se_call0 (sa_cons se_var (sa_cons se_int (sa_cons (se_op os_sub (meth0_one (by decide +kernel) se_var (sa_cons (se_fld (by decide +kernel) ⟨⟨T.cl_Net, T.n_Net_code⟩, trivial⟩ se_var) sa_nil)) se_int) sa_nil))))) sa_nil)))) (ss_raise rfl) ss_next) (ss_seq (ss_if (st_test (se_op os_lt (se_lenSet se_var) (se_cb cs_len (sa_cons se_var sa_nil)))) (ss_raise rfl) ss_next) (ss_fl (by decide +kernel) ⟨⟨T.cl_Thing, T.n_Thing_places⟩, trivial⟩ se_var (se_cb cs_tuple (sa_cons se_var sa_nil)))))))
abbrev s_l_turn : Stmt := topS 63
abbrev N_l_turn : List Str := ["_law_net", "_law_places", "_law_at", "_law_bits_here", "_law_error", "e"]
theorem sc_l_turn : FnScope N_l_turn ["_law_net", "_law_places", "_law_at", "_law_bits_here"] (defScope s_l_turn) := ⟨rfl, rfl, rfl, by decide +kernel, rfl, by decide +kernel, by decide +kernel⟩
theorem ok_l_turn {P : Program} {w : World} {K : PySem.W.Frag} {mg : Str → Option Value} {base : Heap} {a : Addr} {fd : FuncData} {ca : String → Addr} (T : Txt K mg ca) (F : Fun K "_law_turn" "_law_turn" s_l_turn a fd) (M_Net_turn : SM.Mt P w K mg base 4 (ca "Net") "turn" (SpF K ca F_Net_turn)) :
    FnOk P w K mg base (L2.CX P w) 5 a fd ["_law_net", "_law_places", "_law_at", "_law_bits_here"] (SpF K ca F_l_turn) := by
  refine SM.Fn.ofF F sc_l_turn rfl fun cdv A outer s H E hr => ?_
  have nd := sc_l_turn.nd
  refine ⟨_, (pss_cons (ps_set (i := 4) nd rfl (by first | exact Or.inl rfl | exact Or.inr rfl) pe_non) (pss_cons (DL.ps_tryK (i := 5) (j := 4) rfl rfl rfl nd rfl rfl ⟨rfl, by decide, Or.inl T.g_WireError⟩ (fun W pn xe tk ps => (pss_one (ps_expr (pe_mtX M_Net_turn tk hr (by decide) T.cl_Net (pv 0) (pa_cons (pe_ix (ix_U (K := K)) (pv 1) pe_int (fun _ _ => rfl)) (pa_cons (pe_ix (ix_U (K := K)) (pv 1) pe_int (fun _ _ => rfl)) (pa_cons (pv 2) (pa_cons (pv 3) pa_nil)))))))) (fun a oe pn => pss_one (ps_set (i := 4) nd rfl (by first | exact Or.inl rfl | exact Or.inr rfl) (pv 5))) (Nat.le_of_ble_eq_true rfl)) (pss_one (ps_ret (pe_or (pe_cmpR op_isU (pv 4) pe_non (nomark _)) (pe_one (pe_not (pe_callB (call_isiA (K := K)) (by rfl) T.b_isinstance (by decide +kernel) (pa_cons (pv 4) (pa_cons (pe_glob (v := .ref (ca "NoPlace")) rfl T.g_NoPlace rfl) pa_nil)))))))))), ?_⟩
  exact (ss_seq (ss_set se_non) (ss_seq (ss_tryK T.mm_WireError fun W2 => (ss_drop (meth_one (by decide +kernel) se_var (sa_cons (se_op os_ix se_var se_int) (sa_cons (se_op os_ix se_var se_int) (sa_cons se_var (sa_cons se_var sa_nil))))))) (ss_ret (se_or (se_op os_is se_var se_non) (se_not (se_cb (cs_isi T.isO T.isX T.isT) (sa_cons se_var (sa_cons (se_nm rfl) sa_nil))))))))
abbrev s_l_right : Stmt := topS 65
abbrev N_l_right : List Str := ["_law_state_here", "_law_net", "_law_places", "_law_fields_here", "_law_source", "_law_target", "_law_kind", "_law_life", "_law_name", "_law_first", "_law_more", "_law_data", "_law_turned", "_law_many", "_law_k", "_law_at", "_law_bits_here", "_law_found"]
theorem sc_l_right : FnScope N_l_right ["_law_state_here", "_law_net", "_law_places", "_law_fields_here"] (defScope s_l_right) := ⟨rfl, rfl, rfl, by decide +kernel, rfl, by decide +kernel, by decide +kernel⟩
theorem ok_l_right {P : Program} {w : World} {K : PySem.W.Frag} {mg : Str → Option Value} {base : Heap} {a : Addr} {fd : FuncData} {ca : String → Addr} (T : Txt K mg ca) (F : Fun K "_law_right" "_law_right" s_l_right a fd) (M_Net_bring : SM.Mt P w K mg base 9 (ca "Net") "bring" (SpF K ca F_Net_bring)) (M_Net_double : SM.Mt P w K mg base 4 (ca "Net") "double" (SpF K ca F_Net_double)) (M_Net_lying : SM.Mt P w K mg base 1 (ca "Net") "lying" (SpF K ca F_Net_lying)) (M_Net_put : SM.Mt P w K mg base 4 (ca "Net") "put" (SpF K ca F_Net_put)) (M_Net_things : SM.Mt P w K mg base 8 (ca "Net") "things" (SpF K ca F_Net_things)) (M_Packet : Mx P w K mg base 3 "Packet" (ca "Packet") (SpF K ca F_Packet___init__)) (M_Packet_told : SM.Mt P w K mg base 1 (ca "Packet") "told" (SpF K ca F_Packet_told)) (C_l_bits : Dx P w K mg base 2 "_law_bits" (SpF K ca F_l_bits)) (C_l_next : Dx P w K mg base 1 "_law_next" (SpF K ca F_l_next)) (C_l_turn : Dx P w K mg base 5 "_law_turn" (SpF K ca F_l_turn)) :
    FnOk P w K mg base (L2.CX P w) 10 a fd ["_law_state_here", "_law_net", "_law_places", "_law_fields_here"] (SpF K ca F_l_right) := by
  refine SM.Fn.ofF F sc_l_right rfl fun cdv A outer s H E hr => ?_
  have nd := sc_l_right.nd
  refine ⟨_, (pss_cons (ps_asg (pv 3) (pg_tup rfl (pgs_cons (pg_name (i := 4) nd rfl (by first | exact Or.inl rfl | exact Or.inr rfl)) (pgs_cons (pg_name (i := 5) nd rfl (by first | exact Or.inl rfl | exact Or.inr rfl)) (pgs_cons (pg_name (i := 6) nd rfl (by first | exact Or.inl rfl | exact Or.inr rfl)) (pgs_cons (pg_name (i := 7) nd rfl (by first | exact Or.inl rfl | exact Or.inr rfl)) (pgs_cons (pg_name (i := 8) nd rfl (by first | exact Or.inl rfl | exact Or.inr rfl)) (pgs_cons (pg_name (i := 9) nd rfl (by first | exact Or.inl rfl | exact Or.inr rfl)) (pgs_cons (pg_name (i := 10) nd rfl (by first | exact Or.inl rfl | exact Or.inr rfl)) (pgs_cons (pg_name (i := 11) nd rfl (by first | exact Or.inl rfl | exact Or.inr rfl)) pgs_nil)))))))))) (pss_cons (ps_expr (pe_mtX M_Net_put (takes_of rfl rfl rfl rfl) hr (by decide) T.cl_Net (pv 1) (pa_cons (pe_ix (ix_U (K := K)) (pv 2) pe_int (fun _ _ => rfl)) (pa_cons (pe_mx M_Packet (takes_of rfl rfl rfl rfl) hr (by decide) rfl (pa_cons (pv 4) (pa_cons (pv 5) (pa_cons (pv 6) (pa_cons (pv 7) (pa_cons (pv 8) (pa_cons (pv 9) (pa_cons (pv 10) (pa_cons (pv 11) pa_nil))))))))) pa_nil)))) (pss_cons (ps_set (i := 12) nd rfl (by first | exact Or.inl rfl | exact Or.inr rfl) (pe_lst (pa_cons pe_bl pa_nil))) (pss_cons (ps_set (i := 13) nd rfl (by first | exact Or.inl rfl | exact Or.inr rfl) (pe_callB (call_lenU (K := K)) (by rfl) T.b_len (by decide +kernel) (pa_cons (pe_ix (ix_U (K := K)) (pe_ix (ix_U (K := K)) (pe_mtX M_Net_things (takes_of rfl rfl rfl rfl) hr (by decide) T.cl_Net (pv 1) (pa_cons (pe_ix (ix_U (K := K)) (pv 2) pe_int (fun _ _ => rfl)) (pa_cons (pe_ix (ix_U (K := K)) (pv 2) pe_int (fun _ _ => rfl)) pa_nil))) pe_int (fun _ _ => rfl)) pe_int (fun _ _ => rfl)) pa_nil))) (pss_cons (ps_for (passes_of rfl) rfl (pi_range1 rfl T.b_range (pa_cons (pe_op (op_addU (K := K)) pe_int (pe_dx C_l_next (takes_of rfl rfl rfl rfl) hr (by decide) rfl (pa_cons (pv 0) (pa_cons pe_int pa_nil)))) pa_nil)) (pg_name (i := 14) nd rfl (by first | exact Or.inl rfl | exact Or.inr rfl)) (pss_cons (ps_set (i := 15) nd rfl (by first | exact Or.inl rfl | exact Or.inr rfl) (pe_dx C_l_next (takes_of rfl rfl rfl rfl) hr (by decide) rfl (pa_cons (pv 0) (pa_cons (pe_callB (call_lenU (K := K)) (by rfl) T.b_len (by decide +kernel) (pa_cons (pv 12) pa_nil)) pa_nil)))) (pss_cons (ps_set (i := 16) nd rfl (by first | exact Or.inl rfl | exact Or.inr rfl) (pe_dx C_l_bits (takes_of rfl rfl rfl rfl) hr (by decide) rfl (pa_cons (pv 0) (pa_cons (pv 13) pa_nil)))) (pss_cons (ps_if (pt_cmpR (op_eqPK (K := K) (DL.room65 hr)) (pe_dx C_l_turn (takes_of rfl rfl rfl rfl) hr (by decide) rfl (pa_cons (pv 1) (pa_cons (pv 2) (pa_cons (pv 15) (pa_cons (pv 16) pa_nil))))) (pe_ix (ix_U (K := K)) (pv 12) (pv 15) (fun _ _ => rfl)) (nomark _)) (pss_one (ps_ret pe_bl)) pss_nil) (pss_one (ps_if (pt_cmpR (op_eqPK (K := K) (DL.room65 hr)) (pe_dx C_l_next (takes_of rfl rfl rfl rfl) hr (by decide) rfl (pa_cons (pv 0) (pa_cons pe_int pa_nil))) pe_int (nomark _)) (pss_cons (ps_expr (pe_mtX M_Net_double (takes_of rfl rfl rfl rfl) hr (by decide) T.cl_Net (pv 1) (pa_cons (pe_ix (ix_U (K := K)) (pv 2) pe_int (fun _ _ => rfl)) (pa_cons (pe_ix (ix_U (K := K)) (pv 2) pe_int (fun _ _ => rfl)) (pa_cons (pv 15) pa_nil))))) (pss_cons (PS.or (ps_asg pe_bl (pg_sub (pv 12) (pv 15) set_list)) (ps_dput (DL.room65w hr) (pv 12) (pv 15) pe_bl rfl)) (pss_one (ps_expr (pe_bm PySem.F.plainAttrs_list PySem.F.slot_list_append PySem.F.type_list_append mt_append (pv 12) (pa_cons pe_bl pa_nil)))))) (pss_cons (PS.or (ps_asg pe_bl (pg_sub (pv 12) (pv 15) set_list)) (ps_dput (DL.room65w hr) (pv 12) (pv 15) pe_bl rfl)) (pss_cons (ps_expr (pe_mtX M_Net_put (takes_of rfl rfl rfl rfl) hr (by decide) T.cl_Net (pv 1) (pa_cons (pe_ix (ix_U (K := K)) (pv 2) pe_int (fun _ _ => rfl)) (pa_cons (pe_mx M_Packet (takes_of rfl rfl rfl rfl) hr (by decide) rfl (pa_cons (pv 4) (pa_cons (pv 5) (pa_cons (pv 6) (pa_cons (pv 7) (pa_cons (pv 8) (pa_cons (pv 9) (pa_cons (pv 10) (pa_cons (pv 11) pa_nil))))))))) pa_nil)))) (pss_one (ps_expr (pe_bm PySem.F.plainAttrs_list PySem.F.slot_list_append PySem.F.type_list_append mt_append (pv 12) (pa_cons pe_bl pa_nil)))))))))))) (pss_cons (ps_while (passes_of rfl) (pt_cmpR (op_nePK (K := K) (DL.room65 hr)) (pv 12) (pe_lst pa_nil) (nomark _)) (pss_cons (ps_set (i := 15) nd rfl (by first | exact Or.inl rfl | exact Or.inr rfl) (pe_dx C_l_next (takes_of rfl rfl rfl rfl) hr (by decide) rfl (pa_cons (pv 0) (pa_cons (pe_callB (call_lenU (K := K)) (by rfl) T.b_len (by decide +kernel) (pa_cons (pv 12) pa_nil)) pa_nil)))) (pss_cons (ps_set (i := 17) nd rfl (by first | exact Or.inl rfl | exact Or.inr rfl) (pe_mtX M_Net_bring (takes_of rfl rfl rfl rfl) hr (by decide) T.cl_Net (pv 1) (pa_cons (pe_ix (ix_U (K := K)) (pv 2) pe_int (fun _ _ => rfl)) (pa_cons (pe_ix (ix_U (K := K)) (pv 2) pe_int (fun _ _ => rfl)) (pa_cons (pv 15) pa_nil))))) (pss_one (ps_if (pt_val (PE.or (pe_dpop1 (pv 12) (pv 15) ⟨rfl, rfl, rfl, rfl⟩) (pe_bm PySem.F.plainAttrs_list PySem.F.slot_list_pop PySem.F.type_list_pop mt_popAt (pv 12) (pa_cons (pv 15) pa_nil)))) (pss_one (ps_if (pt_cmpR op_notU (pv 17) pe_non (nomark _)) (pss_one (ps_ret pe_bl)) pss_nil)) (pss_one (ps_if (PW.pt (pw_or (pt_not (pt_val (pe_callB (call_isiA (K := K)) (by rfl) T.b_isinstance (by decide +kernel) (pa_cons (pv 17) (pa_cons (pe_glob (v := .ref (ca "Packet")) rfl T.g_Packet rfl) pa_nil))))) (pw_or1 (pt_cmpR (op_nePK (K := K) (DL.room65 hr)) (pe_mtX0 M_Packet_told (takes_of rfl rfl rfl rfl) hr (by decide) T.cl_Packet (pv 17)) (pv 3) (nomark _))))) (pss_one (ps_ret pe_bl)) pss_nil))))))) (pss_one (ps_ret (pe_cmpR (op_eqPK (K := K) (DL.room65 hr)) (pe_mtX0 M_Net_lying (takes_of rfl rfl rfl rfl) hr (by decide) T.cl_Net (pv 1)) (pe_lst pa_nil) (nomark _)))))))))), ?_⟩
  exact (ss_seq (ss_asg se_var (sg_tup (sgs_cons sg_name (sgs_cons sg_name (sgs_cons sg_name (sgs_cons sg_name (sgs_cons sg_name (sgs_cons sg_name (sgs_cons sg_name (sgs_cons sg_name sgs_nil)))))))) rfl)) (ss_seq (ss_drop (meth_one (by decide +kernel) se_var (sa_cons (se_op os_ix se_var se_int) (sa_cons (se_make (sa_cons se_var (sa_cons se_var (sa_cons se_var (sa_cons se_var (sa_cons se_var (sa_cons se_var (sa_cons se_var (sa_cons se_var sa_nil))))))))) sa_nil)))) (ss_seq (ss_set (se_lst (sa_cons se_bl sa_nil))) (ss_seq (ss_set (se_cb cs_len (sa_cons (se_op os_ix (se_op os_ix (meth_one (by decide +kernel) se_var (sa_cons (se_op os_ix se_var se_int) (sa_cons (se_op os_ix se_var se_int) sa_nil))) se_int) se_int) sa_nil))) (ss_seq (ss_for (sw_r1 (sa_cons (se_op os_add se_int (se_call (sa_cons se_var (sa_cons se_int sa_nil)))) sa_nil)) sg_name (ss_seq (ss_set (se_call (sa_cons se_var (sa_cons (se_cb cs_len (sa_cons se_var sa_nil)) sa_nil)))) (ss_seq (ss_set (se_call (sa_cons se_var (sa_cons se_var sa_nil)))) (ss_seq (ss_if (st_test (se_op os_eq (se_call (sa_cons se_var (sa_cons se_var (sa_cons se_var (sa_cons se_var sa_nil))))) (se_op os_ix se_var se_var))) (ss_ret se_bl) ss_next) (ss_if (st_test (se_op os_eq (se_call (sa_cons se_var (sa_cons se_int sa_nil))) se_int)) (ss_seq (ss_drop (meth_one (by decide +kernel) se_var (sa_cons (se_op os_ix se_var se_int) (sa_cons (se_op os_ix se_var se_int) (sa_cons se_var sa_nil))))) (ss_seq (ss_put se_var se_var se_bl) (ss_drop (se_bl_ ms_append se_var (sa_cons se_bl sa_nil))))) (ss_seq (ss_put se_var se_var se_bl) (ss_seq (ss_drop (meth_one (by decide +kernel) se_var (sa_cons (se_op os_ix se_var se_int) (sa_cons (se_make (sa_cons se_var (sa_cons se_var (sa_cons se_var (sa_cons se_var (sa_cons se_var (sa_cons se_var (sa_cons se_var (sa_cons se_var sa_nil))))))))) sa_nil)))) (ss_drop (se_bl_ ms_append se_var (sa_cons se_bl sa_nil)))))))))) (ss_seq (ss_while (st_test (se_op os_ne se_var (se_lst sa_nil))) (ss_seq (ss_set (se_call (sa_cons se_var (sa_cons (se_cb cs_len (sa_cons se_var sa_nil)) sa_nil)))) (ss_seq (ss_set (meth_one (by decide +kernel) se_var (sa_cons (se_op os_ix se_var se_int) (sa_cons (se_op os_ix se_var se_int) (sa_cons se_var sa_nil))))) (ss_if (st_b (se_pop1 se_var se_var)) (ss_if (st_test (se_op os_isnot se_var se_non)) (ss_ret se_bl) ss_next) (ss_if (st_or (st_not (st_b (se_cb (cs_isi T.isO T.isX T.isT) (sa_cons se_var (sa_cons (se_nm rfl) sa_nil))))) (st_test (se_op os_ne (meth_one (by decide +kernel) se_var sa_nil) se_var))) (ss_ret se_bl) ss_next))))) (ss_ret (se_op os_eq (meth_one (by decide +kernel) se_var sa_nil) (se_lst sa_nil)))))))))
abbrev s_l_state : Stmt := topS 60
abbrev N_l_state : List Str := ["_law_cell", "_law_k", "_law_seed"]
theorem sc_l_state : FnScope N_l_state ["_law_cell", "_law_k"] (defScope s_l_state) := ⟨rfl, rfl, rfl, by decide +kernel, rfl, by decide +kernel, by decide +kernel⟩
theorem ok_l_state {P : Program} {w : World} {K : PySem.W.Frag} {mg : Str → Option Value} {base : Heap} {a : Addr} {fd : FuncData} {ca : String → Addr} (T : Txt K mg ca) (F : Fun K "_law_state" "_law_state" s_l_state a fd)  :
    FnOk P w K mg base (L2.CX P w) 1 a fd ["_law_cell", "_law_k"] (SpF K ca F_l_state) := by
  refine SM.Fn.ofF F sc_l_state rfl fun cdv A outer s H E hr => ?_
  have nd := sc_l_state.nd
  refine ⟨_, (pss_cons (ps_set (i := 2) nd rfl (by first | exact Or.inl rfl | exact Or.inr rfl) (pe_op op_modU (pe_op (op_mulA (K := K)) (pe_op (op_addU (K := K)) (pe_op (op_addU (K := K)) (pv 0) (pe_op (op_mulA (K := K)) pe_int (pv 1))) pe_int) pe_int) pe_int)) (pss_cons (ps_if (pt_cmpR op_geU (pv 0) (pe_op op_powU pe_int pe_int) (nomark _)) (pss_one (ps_ret (pe_lst (pa_cons (pv 0) (pa_cons pe_int (pa_cons (pv 2) pa_nil)))))) pss_nil) (pss_one (ps_ret (pe_lst (pa_cons (pv 2) (pa_cons pe_int (pa_cons (pv 2) pa_nil)))))))), ?_⟩
  exact (ss_seq (ss_set (se_op os_mod (se_op os_mul (se_op os_add (se_op os_add se_var (se_op os_mul se_int se_var)) se_int) se_int) se_int)) (ss_seq (ss_if (st_test (se_op os_ge se_var (se_op os_pow se_int se_int))) (ss_ret (se_lst (sa_cons se_var (sa_cons se_int (sa_cons se_var sa_nil))))) ss_next) (ss_ret (se_lst (sa_cons se_var (sa_cons se_int (sa_cons se_var sa_nil)))))))
abbrev s_law : Stmt := topS 66
abbrev N_law : List Str := ["_law_script", "_law_k", "_law_cell", "_law_state_here", "_law_off", "_law_places", "_law_table", "_law_net"]
theorem sc_law : FnScope N_law ["_law_script"] (defScope s_law) := ⟨rfl, rfl, rfl, by decide +kernel, rfl, by decide +kernel, by decide +kernel⟩
theorem ok_law {P : Program} {w : World} {K : PySem.W.Frag} {mg : Str → Option Value} {base : Heap} {a : Addr} {fd : FuncData} {ca : String → Addr} (T : Txt K mg ca) (F : Fun K "law" "law" s_law a fd) (M_Net : Mx P w K mg base 5 "Net" (ca "Net") (SpF K ca F_Net___init__)) (C_l_fields : Dx P w K mg base 2 "_law_fields" (SpF K ca F_l_fields)) (C_l_next : Dx P w K mg base 1 "_law_next" (SpF K ca F_l_next)) (C_l_right : Dx P w K mg base 10 "_law_right" (SpF K ca F_l_right)) (C_l_state : Dx P w K mg base 1 "_law_state" (SpF K ca F_l_state)) :
    FnOk P w K mg base CX0 11 a fd ["_law_script"] (SpF K ca F_law) := by
  refine SM.Fn.ofF0 F sc_law rfl fun cdv A outer s H E hr => ?_
  have nd := sc_law.nd
  refine ⟨_, (pss_cons (ps_for PassesOwn.never rfl (pi_enumA (by rfl) T.b_enumerate (pa_cons (pe_orT (pe_slice (sl_U (K := K)) (pv 0) po_none (po_some pe_int)) (pe_one (pe_lst (pa_cons pe_int pa_nil)))) pa_nil)) (pg_tup rfl (pgs_cons (pg_name (i := 1) nd rfl (by first | exact Or.inl rfl | exact Or.inr rfl)) (pgs_cons (pg_name (i := 2) nd rfl (by first | exact Or.inl rfl | exact Or.inr rfl)) pgs_nil))) (pss_cons (ps_set (i := 3) nd rfl (by first | exact Or.inl rfl | exact Or.inr rfl) (pe_dx0 C_l_state hr (by decide) rfl (pa_cons (pv 2) (pa_cons (pv 1) pa_nil)))) (pss_cons (ps_set (i := 4) nd rfl (by first | exact Or.inl rfl | exact Or.inr rfl) (pe_dx0 C_l_next hr (by decide) rfl (pa_cons (pv 3) (pa_cons pe_int pa_nil)))) (pss_cons (ps_set (i := 5) nd rfl (by first | exact Or.inl rfl | exact Or.inr rfl) (pe_lst (pa_cons (pv 4) (pa_cons (pe_op op_modU (pe_op (op_addU (K := K)) (pe_op (op_addU (K := K)) (pv 4) pe_int) (pe_dx0 C_l_next hr (by decide) rfl (pa_cons (pv 3) (pa_cons pe_int pa_nil)))) pe_int) pa_nil)))) (pss_cons (ps_set (i := 6) nd rfl (by first | exact Or.inl rfl | exact Or.inr rfl) (pe_disp (pps_cons (pe_ix (ix_U (K := K)) (pv 5) pe_int (fun _ _ => rfl)) (pe_disp (pps_cons (pe_ix (ix_U (K := K)) (pv 5) pe_int (fun _ _ => rfl)) (pe_ix (ix_U (K := K)) (pv 5) pe_int (fun _ _ => rfl)) pps_nil) rfl rfl (by intro z; cases z) (by decide)) (pps_cons (pe_ix (ix_U (K := K)) (pv 5) pe_int (fun _ _ => rfl)) pe_dnewK pps_nil)) rfl rfl (by intro z; cases z) (by decide))) (pss_cons (ps_set (i := 7) nd rfl (by first | exact Or.inl rfl | exact Or.inr rfl) (pe_mx0 M_Net hr (by decide) rfl (pa_cons (pv 6) (pa_cons pe_int (pa_cons (pe_dx0 C_l_next hr (by decide) rfl (pa_cons (pv 3) (pa_cons pe_int pa_nil))) pa_nil))))) (pss_one (ps_if (pt_not (pt_val (pe_dx0 C_l_right hr (by decide) rfl (pa_cons (pv 3) (pa_cons (pv 7) (pa_cons (pv 5) (pa_cons (pe_dx0 C_l_fields hr (by decide) rfl (pa_cons (pv 3) (pa_cons (pv 5) (pa_cons (pv 1) pa_nil)))) pa_nil))))))) (pss_one (ps_ret pe_bl)) pss_nil)))))))) (pss_one (ps_ret pe_bl))), ?_⟩
  exact (ss_seq (ss_for (sw_enumA (se_orL (se_sl sls_all se_var so_none (so_some se_int)) (se_lst (sa_cons se_int sa_nil)))) (sg_tup (sgs_cons sg_name (sgs_cons sg_name sgs_nil)) rfl) (ss_seq (ss_set (se_call0 (sa_cons se_var (sa_cons se_var sa_nil)))) (ss_seq (ss_set (se_call0 (sa_cons se_var (sa_cons se_int sa_nil)))) (ss_seq (ss_set (se_lst (sa_cons se_var (sa_cons (se_op os_mod (se_op os_add (se_op os_add se_var se_int) (se_call0 (sa_cons se_var (sa_cons se_int sa_nil)))) se_int) sa_nil)))) (ss_seq (ss_set (se_disp (sd_cons (se_op os_ix se_var se_int) (se_disp (sd_cons (se_op os_ix se_var se_int) (se_op os_ix se_var se_int) sd_nil)) (sd_cons (se_op os_ix se_var se_int) se_dnewK sd_nil)))) (ss_seq (ss_set (se_make0 (sa_cons se_var (sa_cons se_int (sa_cons (se_call0 (sa_cons se_var (sa_cons se_int sa_nil))) sa_nil))))) (ss_if (st_not (st_b (se_call0 (sa_cons se_var (sa_cons se_var (sa_cons se_var (sa_cons (se_call0 (sa_cons se_var (sa_cons se_var (sa_cons se_var sa_nil)))) sa_nil))))))) (ss_ret se_bl) ss_next))))))) (ss_ret se_bl))
def spLaw (K : PySem.W.Frag) : Sp := fun vs H Q _ => ∃ (a : Addr) (ns : List Int), vs = [.ref a] ∧ SqL K H a (ns.map V.int) ∧ ns.length ≤ 63 ∧ ∀ H1, Q (.bl true) H1
theorem law_imp {K : PySem.W.Frag} {ca : String → Addr} : ∀ (vs : List V) (H : Hp) (Q : VK) (E : XK), spLaw K vs H Q E → SpF K ca F_law vs H Q E := fun vs H Q E ⟨a, ns, e, h, hl, k⟩ => by
  subst e
  obtain ⟨A, hA⟩ := law_true ns hl
  refine ⟨H, [], [], [.scr (ns.map D.int)], ⟨DL.Ex.refl H, rfl, List.nodup_nil, fun a h => by simp at h, fun i o a h => by simp at h⟩, .cons (.scr h RepL.of_ints) .nil, ?_⟩
  rw [hA]
  intro v F' m' H' _ _ r
  cases r
  exact k H'
theorem all_mk {l : PySem.W.OpenLaw} {w : World} {K : PySem.W.Frag} {h : Heap} {mg : Str → Option Value} {fa f0 f1 f2 f3 f4 f5 f6 f7 f8 f9 f10 f11 f12 f13 f14 f15 f16 f17 f18 f19 f20 f21 f22 f23 f24 f25 f26 f27 f28 f29 f30 f31 f32 f33 f34 f35 f36 f37 f38 f39 f40 f41 f42 f43 f44 f45 f46 f47 : Addr} (X : K.In h) (G : h.Ns mainGlobals mg) (hfa : mg "law" = some (.ref fa))
    {od0 an0 od1 an1 od2 an2 od3 an3 od4 an4 od5 an5 od6 an6 od7 an7 od8 an8 od9 an9 od10 an10 od11 an11 od12 an12 od13 an13 od14 an14 od15 an15 od16 an16 od17 an17 od18 an18 od19 an19 od20 an20 od21 an21 od22 an22 od23 an23 od24 an24 od25 an25 od26 an26 od27 an27 od28 an28 od29 an29 od30 an30 od31 an31 od32 an32 od33 an33 od34 an34 od35 an35 od36 an36 od37 an37 od38 an38 od39 an39 od40 an40 od41 an41 od42 an42 od43 an43 od44 an44 od45 an45 od46 an46 od47 an47 : Option Addr} {sl0 sl1 sl2 sl3 sl4 sl5 sl6 sl7 sl8 sl9 sl10 sl11 sl12 sl13 sl14 sl15 sl16 sl17 sl18 sl19 sl20 sl21 sl22 sl23 sl24 sl25 sl26 sl27 sl28 sl29 sl30 sl31 sl32 sl33 sl34 sl35 sl36 sl37 sl38 sl39 sl40 sl41 sl42 sl43 sl44 sl45 sl46 sl47 : Array (Option Value)} {oc0 kV0 dc0 pm0 cd0 ct0 oc1 kV1 dc1 pm1 cd1 ct1 oc2 kV2 dc2 pm2 cd2 ct2 oc3 kV3 dc3 pm3 cd3 ct3 oc4 kV4 dc4 pm4 cd4 ct4 oc5 kV5 dc5 pm5 cd5 ct5 oc6 kV6 dc6 pm6 cd6 ct6 oc7 kV7 dc7 pm7 cd7 ct7 oc8 kV8 dc8 pm8 cd8 ct8 oc9 kV9 dc9 pm9 cd9 ct9 oc10 kV10 dc10 pm10 cd10 ct10 oc11 kV11 dc11 pm11 cd11 ct11 oc12 kV12 dc12 pm12 cd12 ct12 oc13 kV13 dc13 pm13 cd13 ct13 oc14 kV14 dc14 pm14 cd14 ct14 oc15 kV15 dc15 pm15 cd15 ct15 oc16 kV16 dc16 pm16 cd16 ct16 oc17 kV17 dc17 pm17 cd17 ct17 oc18 kV18 dc18 pm18 cd18 ct18 oc19 kV19 dc19 pm19 cd19 ct19 oc20 kV20 dc20 pm20 cd20 ct20 oc21 kV21 dc21 pm21 cd21 ct21 oc22 kV22 dc22 pm22 cd22 ct22 oc23 kV23 dc23 pm23 cd23 ct23 oc24 kV24 dc24 pm24 cd24 ct24 oc25 kV25 dc25 pm25 cd25 ct25 oc26 kV26 dc26 pm26 cd26 ct26 oc27 kV27 dc27 pm27 cd27 ct27 oc28 kV28 dc28 pm28 cd28 ct28 oc29 kV29 dc29 pm29 cd29 ct29 oc30 kV30 dc30 pm30 cd30 ct30 oc31 kV31 dc31 pm31 cd31 ct31 oc32 kV32 dc32 pm32 cd32 ct32 oc33 kV33 dc33 pm33 cd33 ct33 oc34 kV34 dc34 pm34 cd34 ct34 oc35 kV35 dc35 pm35 cd35 ct35 oc36 kV36 dc36 pm36 cd36 ct36 oc37 kV37 dc37 pm37 cd37 ct37 oc38 kV38 dc38 pm38 cd38 ct38 oc39 kV39 dc39 pm39 cd39 ct39 oc40 kV40 dc40 pm40 cd40 ct40 oc41 kV41 dc41 pm41 cd41 ct41 oc42 kV42 dc42 pm42 cd42 ct42 oc43 kV43 dc43 pm43 cd43 ct43 oc44 kV44 dc44 pm44 cd44 ct44 oc45 kV45 dc45 pm45 cd45 ct45 oc46 kV46 dc46 pm46 cd46 ct46 oc47 kV47 dc47 pm47 cd47 ct47 : Value}
    {ca_Net : Addr} (g_Net : PySem.W.nsIn K mainGlobals "Net" = some (some (.ref ca_Net))) {ca_NoBits : Addr} (g_NoBits : PySem.W.nsIn K mainGlobals "NoBits" = some (some (.ref ca_NoBits))) {ca_NoCode : Addr} (g_NoCode : PySem.W.nsIn K mainGlobals "NoCode" = some (some (.ref ca_NoCode))) {ca_NoNumber : Addr} (g_NoNumber : PySem.W.nsIn K mainGlobals "NoNumber" = some (some (.ref ca_NoNumber))) {ca_NoPacket : Addr} (g_NoPacket : PySem.W.nsIn K mainGlobals "NoPacket" = some (some (.ref ca_NoPacket))) {ca_NoPlace : Addr} (g_NoPlace : PySem.W.nsIn K mainGlobals "NoPlace" = some (some (.ref ca_NoPlace))) {ca_NoTable : Addr} (g_NoTable : PySem.W.nsIn K mainGlobals "NoTable" = some (some (.ref ca_NoTable))) {ca_Packet : Addr} (g_Packet : PySem.W.nsIn K mainGlobals "Packet" = some (some (.ref ca_Packet))) {ca_Thing : Addr} (g_Thing : PySem.W.nsIn K mainGlobals "Thing" = some (some (.ref ca_Thing))) {ca_WireError : Addr} (g_WireError : PySem.W.nsIn K mainGlobals "WireError" = some (some (.ref ca_WireError)))
    (a0 : PySem.W.nsIn K mainGlobals "is_place" = some (some (.ref f0))) (l0 : K.lookup f0 = some ⟨oc0, od0, .func (PySem.W.fnOf "is_place" "is_place" (defArgs s_is_place) (defBody s_is_place) (defScope s_is_place) .none kV0 dc0 pm0 an0 cd0 ct0), sl0⟩) (c0 : PySem.W.codeIn K cd0 "is_place" = true) (k0 : PySem.W.keepIn K (.ref f0) = true)
    (a1 : PySem.W.nsIn K mainGlobals "is_other" = some (some (.ref f1))) (l1 : K.lookup f1 = some ⟨oc1, od1, .func (PySem.W.fnOf "is_other" "is_other" (defArgs s_is_other) (defBody s_is_other) (defScope s_is_other) .none kV1 dc1 pm1 an1 cd1 ct1), sl1⟩) (c1 : PySem.W.codeIn K cd1 "is_other" = true) (k1 : PySem.W.keepIn K (.ref f1) = true)
    (a2 : PySem.W.nsIn K mainGlobals "are_ways" = some (some (.ref f2))) (l2 : K.lookup f2 = some ⟨oc2, od2, .func (PySem.W.fnOf "are_ways" "are_ways" (defArgs s_are_ways) (defBody s_are_ways) (defScope s_are_ways) .none kV2 dc2 pm2 an2 cd2 ct2), sl2⟩) (c2 : PySem.W.codeIn K cd2 "are_ways" = true) (k2 : PySem.W.keepIn K (.ref f2) = true)
    (a3 : PySem.W.nsIn K mainGlobals "need_table" = some (some (.ref f3))) (l3 : K.lookup f3 = some ⟨oc3, od3, .func (PySem.W.fnOf "need_table" "need_table" (defArgs s_need_table) (defBody s_need_table) (defScope s_need_table) .none kV3 dc3 pm3 an3 cd3 ct3), sl3⟩) (c3 : PySem.W.codeIn K cd3 "need_table" = true) (k3 : PySem.W.keepIn K (.ref f3) = true)
    (a4 : PySem.W.nsIn K mainGlobals "need_code" = some (some (.ref f4))) (l4 : K.lookup f4 = some ⟨oc4, od4, .func (PySem.W.fnOf "need_code" "need_code" (defArgs s_need_code) (defBody s_need_code) (defScope s_need_code) .none kV4 dc4 pm4 an4 cd4 ct4), sl4⟩) (c4 : PySem.W.codeIn K cd4 "need_code" = true) (k4 : PySem.W.keepIn K (.ref f4) = true)
    (a5 : PySem.W.nsIn K mainGlobals "width" = some (some (.ref f5))) (l5 : K.lookup f5 = some ⟨oc5, od5, .func (PySem.W.fnOf "width" "width" (defArgs s_width) (defBody s_width) (defScope s_width) .none kV5 dc5 pm5 an5 cd5 ct5), sl5⟩) (c5 : PySem.W.codeIn K cd5 "width" = true) (k5 : PySem.W.keepIn K (.ref f5) = true)
    (a6 : PySem.W.findIn K (.ref ca_Net) "__init__" = some (some (.ref f6))) (i6 : PySem.W.isFn K (.ref f6) = true) (l6 : K.lookup f6 = some ⟨oc6, od6, .func (PySem.W.fnOf "__init__" "Net.__init__" (defArgs s_Net___init__) (defBody s_Net___init__) (defScope s_Net___init__) .none kV6 dc6 pm6 an6 cd6 ct6), sl6⟩) (c6 : PySem.W.codeIn K cd6 "Net.__init__" = true) (k6 : PySem.W.keepIn K (.ref f6) = true)
    (a7 : PySem.W.nsIn K mainGlobals "_law_next" = some (some (.ref f7))) (l7 : K.lookup f7 = some ⟨oc7, od7, .func (PySem.W.fnOf "_law_next" "_law_next" (defArgs s_l_next) (defBody s_l_next) (defScope s_l_next) .none kV7 dc7 pm7 an7 cd7 ct7), sl7⟩) (c7 : PySem.W.codeIn K cd7 "_law_next" = true) (k7 : PySem.W.keepIn K (.ref f7) = true)
    (a8 : PySem.W.nsIn K mainGlobals "_law_fields" = some (some (.ref f8))) (l8 : K.lookup f8 = some ⟨oc8, od8, .func (PySem.W.fnOf "_law_fields" "_law_fields" (defArgs s_l_fields) (defBody s_l_fields) (defScope s_l_fields) .none kV8 dc8 pm8 an8 cd8 ct8), sl8⟩) (c8 : PySem.W.codeIn K cd8 "_law_fields" = true) (k8 : PySem.W.keepIn K (.ref f8) = true)
    (a9 : PySem.W.findIn K (.ref ca_Thing) "__init__" = some (some (.ref f9))) (i9 : PySem.W.isFn K (.ref f9) = true) (l9 : K.lookup f9 = some ⟨oc9, od9, .func (PySem.W.fnOf "__init__" "Thing.__init__" (defArgs s_Thing___init__) (defBody s_Thing___init__) (defScope s_Thing___init__) .none kV9 dc9 pm9 an9 cd9 ct9), sl9⟩) (c9 : PySem.W.codeIn K cd9 "Thing.__init__" = true) (k9 : PySem.W.keepIn K (.ref f9) = true)
    (a10 : PySem.W.nsIn K mainGlobals "is_number_nets" = some (some (.ref f10))) (l10 : K.lookup f10 = some ⟨oc10, od10, .func (PySem.W.fnOf "is_number" "is_number" (defArgs s_is_number_nets) (defBody s_is_number_nets) (defScope s_is_number_nets) .none kV10 dc10 pm10 an10 cd10 ct10), sl10⟩) (c10 : PySem.W.codeIn K cd10 "is_number" = true) (k10 : PySem.W.keepIn K (.ref f10) = true)
    (a11 : PySem.W.nsIn K mainGlobals "of_two" = some (some (.ref f11))) (l11 : K.lookup f11 = some ⟨oc11, od11, .func (PySem.W.fnOf "of_two" "of_two" (defArgs s_of_two) (defBody s_of_two) (defScope s_of_two) .none kV11 dc11 pm11 an11 cd11 ct11), sl11⟩) (c11 : PySem.W.codeIn K cd11 "of_two" = true) (k11 : PySem.W.keepIn K (.ref f11) = true)
    (a12 : PySem.W.nsIn K mainGlobals "sum_of" = some (some (.ref f12))) (l12 : K.lookup f12 = some ⟨oc12, od12, .func (PySem.W.fnOf "sum_of" "sum_of" (defArgs s_sum_of) (defBody s_sum_of) (defScope s_sum_of) .none kV12 dc12 pm12 an12 cd12 ct12), sl12⟩) (c12 : PySem.W.codeIn K cd12 "sum_of" = true) (k12 : PySem.W.keepIn K (.ref f12) = true)
    (a13 : PySem.W.nsIn K mainGlobals "two" = some (some (.ref f13))) (l13 : K.lookup f13 = some ⟨oc13, od13, .func (PySem.W.fnOf "two" "two" (defArgs s_two) (defBody s_two) (defScope s_two) .none kV13 dc13 pm13 an13 cd13 ct13), sl13⟩) (c13 : PySem.W.codeIn K cd13 "two" = true) (k13 : PySem.W.keepIn K (.ref f13) = true)
    (a14 : PySem.W.nsIn K mainGlobals "packet_bytes" = some (some (.ref f14))) (l14 : K.lookup f14 = some ⟨oc14, od14, .func (PySem.W.fnOf "packet_bytes" "packet_bytes" (defArgs s_packet_bytes) (defBody s_packet_bytes) (defScope s_packet_bytes) .none kV14 dc14 pm14 an14 cd14 ct14), sl14⟩) (c14 : PySem.W.codeIn K cd14 "packet_bytes" = true) (k14 : PySem.W.keepIn K (.ref f14) = true)
    (a15 : PySem.W.findIn K (.ref ca_Net) "put" = some (some (.ref f15))) (i15 : PySem.W.isFn K (.ref f15) = true) (l15 : K.lookup f15 = some ⟨oc15, od15, .func (PySem.W.fnOf "put" "Net.put" (defArgs s_Net_put) (defBody s_Net_put) (defScope s_Net_put) .none kV15 dc15 pm15 an15 cd15 ct15), sl15⟩) (c15 : PySem.W.codeIn K cd15 "Net.put" = true) (k15 : PySem.W.keepIn K (.ref f15) = true)
    (a16 : PySem.W.findIn K (.ref ca_Net) "road" = some (some (.ref f16))) (i16 : PySem.W.isFn K (.ref f16) = true) (l16 : K.lookup f16 = some ⟨oc16, od16, .func (PySem.W.fnOf "road" "Net.road" (defArgs s_Net_road) (defBody s_Net_road) (defScope s_Net_road) .none kV16 dc16 pm16 an16 cd16 ct16), sl16⟩) (c16 : PySem.W.codeIn K cd16 "Net.road" = true) (k16 : PySem.W.keepIn K (.ref f16) = true)
    (a17 : PySem.W.findIn K (.ref ca_Net) "thing" = some (some (.ref f17))) (i17 : PySem.W.isFn K (.ref f17) = true) (l17 : K.lookup f17 = some ⟨oc17, od17, .func (PySem.W.fnOf "thing" "Net.thing" (defArgs s_Net_thing) (defBody s_Net_thing) (defScope s_Net_thing) .none kV17 dc17 pm17 an17 cd17 ct17), sl17⟩) (c17 : PySem.W.codeIn K cd17 "Net.thing" = true) (k17 : PySem.W.keepIn K (.ref f17) = true)
    (a18 : PySem.W.nsIn K mainGlobals "is_number_packets" = some (some (.ref f18))) (l18 : K.lookup f18 = some ⟨oc18, od18, .func (PySem.W.fnOf "is_number" "is_number" (defArgs s_is_number_packets) (defBody s_is_number_packets) (defScope s_is_number_packets) .none kV18 dc18 pm18 an18 cd18 ct18), sl18⟩) (c18 : PySem.W.codeIn K cd18 "is_number" = true) (k18 : PySem.W.keepIn K (.ref f18) = true)
    (a19 : PySem.W.nsIn K mainGlobals "are_bytes" = some (some (.ref f19))) (l19 : K.lookup f19 = some ⟨oc19, od19, .func (PySem.W.fnOf "are_bytes" "are_bytes" (defArgs s_are_bytes) (defBody s_are_bytes) (defScope s_are_bytes) .none kV19 dc19 pm19 an19 cd19 ct19), sl19⟩) (c19 : PySem.W.codeIn K cd19 "are_bytes" = true) (k19 : PySem.W.keepIn K (.ref f19) = true)
    (a20 : PySem.W.findIn K (.ref ca_Packet) "__init__" = some (some (.ref f20))) (i20 : PySem.W.isFn K (.ref f20) = true) (l20 : K.lookup f20 = some ⟨oc20, od20, .func (PySem.W.fnOf "__init__" "Packet.__init__" (defArgs s_Packet___init__) (defBody s_Packet___init__) (defScope s_Packet___init__) .none kV20 dc20 pm20 an20 cd20 ct20), sl20⟩) (c20 : PySem.W.codeIn K cd20 "Packet.__init__" = true) (k20 : PySem.W.keepIn K (.ref f20) = true)
    (a21 : PySem.W.findIn K (.ref ca_Packet) "told" = some (some (.ref f21))) (i21 : PySem.W.isFn K (.ref f21) = true) (l21 : K.lookup f21 = some ⟨oc21, od21, .func (PySem.W.fnOf "told" "Packet.told" (defArgs s_Packet_told) (defBody s_Packet_told) (defScope s_Packet_told) .none kV21 dc21 pm21 an21 cd21 ct21), sl21⟩) (c21 : PySem.W.codeIn K cd21 "Packet.told" = true) (k21 : PySem.W.keepIn K (.ref f21) = true)
    (a22 : PySem.W.nsIn K mainGlobals "spread" = some (some (.ref f22))) (l22 : K.lookup f22 = some ⟨oc22, od22, .func (PySem.W.fnOf "spread" "spread" (defArgs s_spread) (defBody s_spread) (defScope s_spread) .none kV22 dc22 pm22 an22 cd22 ct22), sl22⟩) (c22 : PySem.W.codeIn K cd22 "spread" = true) (k22 : PySem.W.keepIn K (.ref f22) = true)
    (a23 : PySem.W.nsIn K mainGlobals "bits_by" = some (some (.ref f23))) (l23 : K.lookup f23 = some ⟨oc23, od23, .func (PySem.W.fnOf "bits_by" "bits_by" (defArgs s_bits_by) (defBody s_bits_by) (defScope s_bits_by) .none kV23 dc23 pm23 an23 cd23 ct23), sl23⟩) (c23 : PySem.W.codeIn K cd23 "bits_by" = true) (k23 : PySem.W.keepIn K (.ref f23) = true)
    (a24 : PySem.W.nsIn K mainGlobals "divided" = some (some (.ref f24))) (l24 : K.lookup f24 = some ⟨oc24, od24, .func (PySem.W.fnOf "divided" "divided" (defArgs s_divided) (defBody s_divided) (defScope s_divided) .none kV24 dc24 pm24 an24 cd24 ct24), sl24⟩) (c24 : PySem.W.codeIn K cd24 "divided" = true) (k24 : PySem.W.keepIn K (.ref f24) = true)
    (a25 : PySem.W.nsIn K mainGlobals "is_whole" = some (some (.ref f25))) (l25 : K.lookup f25 = some ⟨oc25, od25, .func (PySem.W.fnOf "is_whole" "is_whole" (defArgs s_is_whole) (defBody s_is_whole) (defScope s_is_whole) .none kV25 dc25 pm25 an25 cd25 ct25), sl25⟩) (c25 : PySem.W.codeIn K cd25 "is_whole" = true) (k25 : PySem.W.keepIn K (.ref f25) = true)
    (a26 : PySem.W.nsIn K mainGlobals "is_bits" = some (some (.ref f26))) (l26 : K.lookup f26 = some ⟨oc26, od26, .func (PySem.W.fnOf "is_bits" "is_bits" (defArgs s_is_bits) (defBody s_is_bits) (defScope s_is_bits) .none kV26 dc26 pm26 an26 cd26 ct26), sl26⟩) (c26 : PySem.W.codeIn K cd26 "is_bits" = true) (k26 : PySem.W.keepIn K (.ref f26) = true)
    (a27 : PySem.W.nsIn K mainGlobals "gathered" = some (some (.ref f27))) (l27 : K.lookup f27 = some ⟨oc27, od27, .func (PySem.W.fnOf "gathered" "gathered" (defArgs s_gathered) (defBody s_gathered) (defScope s_gathered) .none kV27 dc27 pm27 an27 cd27 ct27), sl27⟩) (c27 : PySem.W.codeIn K cd27 "gathered" = true) (k27 : PySem.W.keepIn K (.ref f27) = true)
    (a28 : PySem.W.nsIn K mainGlobals "number_of" = some (some (.ref f28))) (l28 : K.lookup f28 = some ⟨oc28, od28, .func (PySem.W.fnOf "number_of" "number_of" (defArgs s_number_of) (defBody s_number_of) (defScope s_number_of) .none kV28 dc28 pm28 an28 cd28 ct28), sl28⟩) (c28 : PySem.W.codeIn K cd28 "number_of" = true) (k28 : PySem.W.keepIn K (.ref f28) = true)
    (a29 : PySem.W.nsIn K mainGlobals "number_by" = some (some (.ref f29))) (l29 : K.lookup f29 = some ⟨oc29, od29, .func (PySem.W.fnOf "number_by" "number_by" (defArgs s_number_by) (defBody s_number_by) (defScope s_number_by) .none kV29 dc29 pm29 an29 cd29 ct29), sl29⟩) (c29 : PySem.W.codeIn K cd29 "number_by" = true) (k29 : PySem.W.keepIn K (.ref f29) = true)
    (a30 : PySem.W.nsIn K mainGlobals "coded" = some (some (.ref f30))) (l30 : K.lookup f30 = some ⟨oc30, od30, .func (PySem.W.fnOf "coded" "coded" (defArgs s_coded) (defBody s_coded) (defScope s_coded) .none kV30 dc30 pm30 an30 cd30 ct30), sl30⟩) (c30 : PySem.W.codeIn K cd30 "coded" = true) (k30 : PySem.W.keepIn K (.ref f30) = true)
    (a31 : PySem.W.nsIn K mainGlobals "coded_row" = some (some (.ref f31))) (l31 : K.lookup f31 = some ⟨oc31, od31, .func (PySem.W.fnOf "coded_row" "coded_row" (defArgs s_coded_row) (defBody s_coded_row) (defScope s_coded_row) .none kV31 dc31 pm31 an31 cd31 ct31), sl31⟩) (c31 : PySem.W.codeIn K cd31 "coded_row" = true) (k31 : PySem.W.keepIn K (.ref f31) = true)
    (a32 : PySem.W.findIn K (.ref ca_Thing) "row_bits" = some (some (.ref f32))) (i32 : PySem.W.isFn K (.ref f32) = true) (l32 : K.lookup f32 = some ⟨oc32, od32, .func (PySem.W.fnOf "row_bits" "Thing.row_bits" (defArgs s_Thing_row_bits) (defBody s_Thing_row_bits) (defScope s_Thing_row_bits) .none kV32 dc32 pm32 an32 cd32 ct32), sl32⟩) (c32 : PySem.W.codeIn K cd32 "Thing.row_bits" = true) (k32 : PySem.W.keepIn K (.ref f32) = true)
    (a33 : PySem.W.nsIn K mainGlobals "is_right" = some (some (.ref f33))) (l33 : K.lookup f33 = some ⟨oc33, od33, .func (PySem.W.fnOf "is_right" "is_right" (defArgs s_is_right) (defBody s_is_right) (defScope s_is_right) .none kV33 dc33 pm33 an33 cd33 ct33), sl33⟩) (c33 : PySem.W.codeIn K cd33 "is_right" = true) (k33 : PySem.W.keepIn K (.ref f33) = true)
    (a34 : PySem.W.nsIn K mainGlobals "packet_by" = some (some (.ref f34))) (l34 : K.lookup f34 = some ⟨oc34, od34, .func (PySem.W.fnOf "packet_by" "packet_by" (defArgs s_packet_by) (defBody s_packet_by) (defScope s_packet_by) .none kV34 dc34 pm34 an34 cd34 ct34), sl34⟩) (c34 : PySem.W.codeIn K cd34 "packet_by" = true) (k34 : PySem.W.keepIn K (.ref f34) = true)
    (a35 : PySem.W.nsIn K mainGlobals "row_by" = some (some (.ref f35))) (l35 : K.lookup f35 = some ⟨oc35, od35, .func (PySem.W.fnOf "row_by" "row_by" (defArgs s_row_by) (defBody s_row_by) (defScope s_row_by) .none kV35 dc35 pm35 an35 cd35 ct35), sl35⟩) (c35 : PySem.W.codeIn K cd35 "row_by" = true) (k35 : PySem.W.keepIn K (.ref f35) = true)
    (a36 : PySem.W.findIn K (.ref ca_Thing) "read_packet" = some (some (.ref f36))) (i36 : PySem.W.isFn K (.ref f36) = true) (l36 : K.lookup f36 = some ⟨oc36, od36, .func (PySem.W.fnOf "read_packet" "Thing.read_packet" (defArgs s_Thing_read_packet) (defBody s_Thing_read_packet) (defScope s_Thing_read_packet) .none kV36 dc36 pm36 an36 cd36 ct36), sl36⟩) (c36 : PySem.W.codeIn K cd36 "Thing.read_packet" = true) (k36 : PySem.W.keepIn K (.ref f36) = true)
    (a37 : PySem.W.findIn K (.ref ca_Net) "bring" = some (some (.ref f37))) (i37 : PySem.W.isFn K (.ref f37) = true) (l37 : K.lookup f37 = some ⟨oc37, od37, .func (PySem.W.fnOf "bring" "Net.bring" (defArgs s_Net_bring) (defBody s_Net_bring) (defScope s_Net_bring) .none kV37 dc37 pm37 an37 cd37 ct37), sl37⟩) (c37 : PySem.W.codeIn K cd37 "Net.bring" = true) (k37 : PySem.W.keepIn K (.ref f37) = true)
    (a38 : PySem.W.findIn K (.ref ca_Net) "double" = some (some (.ref f38))) (i38 : PySem.W.isFn K (.ref f38) = true) (l38 : K.lookup f38 = some ⟨oc38, od38, .func (PySem.W.fnOf "double" "Net.double" (defArgs s_Net_double) (defBody s_Net_double) (defScope s_Net_double) .none kV38 dc38 pm38 an38 cd38 ct38), sl38⟩) (c38 : PySem.W.codeIn K cd38 "Net.double" = true) (k38 : PySem.W.keepIn K (.ref f38) = true)
    (a39 : PySem.W.findIn K (.ref ca_Net) "lying" = some (some (.ref f39))) (i39 : PySem.W.isFn K (.ref f39) = true) (l39 : K.lookup f39 = some ⟨oc39, od39, .func (PySem.W.fnOf "lying" "Net.lying" (defArgs s_Net_lying) (defBody s_Net_lying) (defScope s_Net_lying) .none kV39 dc39 pm39 an39 cd39 ct39), sl39⟩) (c39 : PySem.W.codeIn K cd39 "Net.lying" = true) (k39 : PySem.W.keepIn K (.ref f39) = true)
    (a40 : PySem.W.findIn K (.ref ca_Net) "things" = some (some (.ref f40))) (i40 : PySem.W.isFn K (.ref f40) = true) (l40 : K.lookup f40 = some ⟨oc40, od40, .func (PySem.W.fnOf "things" "Net.things" (defArgs s_Net_things) (defBody s_Net_things) (defScope s_Net_things) .none kV40 dc40 pm40 an40 cd40 ct40), sl40⟩) (c40 : PySem.W.codeIn K cd40 "Net.things" = true) (k40 : PySem.W.keepIn K (.ref f40) = true)
    (a41 : PySem.W.nsIn K mainGlobals "_law_bits" = some (some (.ref f41))) (l41 : K.lookup f41 = some ⟨oc41, od41, .func (PySem.W.fnOf "_law_bits" "_law_bits" (defArgs s_l_bits) (defBody s_l_bits) (defScope s_l_bits) .none kV41 dc41 pm41 an41 cd41 ct41), sl41⟩) (c41 : PySem.W.codeIn K cd41 "_law_bits" = true) (k41 : PySem.W.keepIn K (.ref f41) = true)
    (a42 : PySem.W.findIn K (.ref ca_Thing) "how_many" = some (some (.ref f42))) (i42 : PySem.W.isFn K (.ref f42) = true) (l42 : K.lookup f42 = some ⟨oc42, od42, .func (PySem.W.fnOf "how_many" "Thing.how_many" (defArgs s_Thing_how_many) (defBody s_Thing_how_many) (defScope s_Thing_how_many) .none kV42 dc42 pm42 an42 cd42 ct42), sl42⟩) (c42 : PySem.W.codeIn K cd42 "Thing.how_many" = true) (k42 : PySem.W.keepIn K (.ref f42) = true)
    (a43 : PySem.W.findIn K (.ref ca_Net) "turn" = some (some (.ref f43))) (i43 : PySem.W.isFn K (.ref f43) = true) (l43 : K.lookup f43 = some ⟨oc43, od43, .func (PySem.W.fnOf "turn" "Net.turn" (defArgs s_Net_turn) (defBody s_Net_turn) (defScope s_Net_turn) .none kV43 dc43 pm43 an43 cd43 ct43), sl43⟩) (c43 : PySem.W.codeIn K cd43 "Net.turn" = true) (k43 : PySem.W.keepIn K (.ref f43) = true)
    (a44 : PySem.W.nsIn K mainGlobals "_law_turn" = some (some (.ref f44))) (l44 : K.lookup f44 = some ⟨oc44, od44, .func (PySem.W.fnOf "_law_turn" "_law_turn" (defArgs s_l_turn) (defBody s_l_turn) (defScope s_l_turn) .none kV44 dc44 pm44 an44 cd44 ct44), sl44⟩) (c44 : PySem.W.codeIn K cd44 "_law_turn" = true) (k44 : PySem.W.keepIn K (.ref f44) = true)
    (a45 : PySem.W.nsIn K mainGlobals "_law_right" = some (some (.ref f45))) (l45 : K.lookup f45 = some ⟨oc45, od45, .func (PySem.W.fnOf "_law_right" "_law_right" (defArgs s_l_right) (defBody s_l_right) (defScope s_l_right) .none kV45 dc45 pm45 an45 cd45 ct45), sl45⟩) (c45 : PySem.W.codeIn K cd45 "_law_right" = true) (k45 : PySem.W.keepIn K (.ref f45) = true)
    (a46 : PySem.W.nsIn K mainGlobals "_law_state" = some (some (.ref f46))) (l46 : K.lookup f46 = some ⟨oc46, od46, .func (PySem.W.fnOf "_law_state" "_law_state" (defArgs s_l_state) (defBody s_l_state) (defScope s_l_state) .none kV46 dc46 pm46 an46 cd46 ct46), sl46⟩) (c46 : PySem.W.codeIn K cd46 "_law_state" = true) (k46 : PySem.W.keepIn K (.ref f46) = true)
    (a47 : PySem.W.nsIn K mainGlobals "law" = some (some (.ref f47))) (l47 : K.lookup f47 = some ⟨oc47, od47, .func (PySem.W.fnOf "law" "law" (defArgs s_law) (defBody s_law) (defScope s_law) .none kV47 dc47 pm47 an47 cd47 ct47), sl47⟩) (c47 : PySem.W.codeIn K cd47 "law" = true) (k47 : PySem.W.keepIn K (.ref f47) = true)
    (z_all : PySem.W.nsIn K mainGlobals "all" = some none) (z_bool : PySem.W.nsIn K mainGlobals "bool" = some none) (z_dict : PySem.W.nsIn K mainGlobals "dict" = some none) (z_enumerate : PySem.W.nsIn K mainGlobals "enumerate" = some none) (z_int : PySem.W.nsIn K mainGlobals "int" = some none) (z_isinstance : PySem.W.nsIn K mainGlobals "isinstance" = some none) (z_len : PySem.W.nsIn K mainGlobals "len" = some none) (z_list : PySem.W.nsIn K mainGlobals "list" = some none) (z_min : PySem.W.nsIn K mainGlobals "min" = some none) (z_range : PySem.W.nsIn K mainGlobals "range" = some none) (z_set : PySem.W.nsIn K mainGlobals "set" = some none) (z_sorted : PySem.W.nsIn K mainGlobals "sorted" = some none) (z_tuple : PySem.W.nsIn K mainGlobals "tuple" = some none) {t_BYTE : Tok} (y_BYTE : PySem.W.nsIn K mainGlobals "BYTE" = some (some (.int 8 t_BYTE))) {t_GREATEST : Tok} (y_GREATEST : PySem.W.nsIn K mainGlobals "GREATEST" = some (some (.int 131071 t_GREATEST))) {t_HEAD : Tok} (y_HEAD : PySem.W.nsIn K mainGlobals "HEAD" = some (some (.int 14 t_HEAD))) {t_LEAST : Tok} (y_LEAST : PySem.W.nsIn K mainGlobals "LEAST" = some (some (.int 3 t_LEAST))) {t_MANY_AT : Tok} (y_MANY_AT : PySem.W.nsIn K mainGlobals "MANY_AT" = some (some (.int 10 t_MANY_AT))) {t_MORE_AT : Tok} (y_MORE_AT : PySem.W.nsIn K mainGlobals "MORE_AT" = some (some (.int 8 t_MORE_AT))) {t_MOST_BYTE_packets : Tok} (y_MOST_BYTE_packets : PySem.W.nsIn K mainGlobals "MOST_BYTE_packets" = some (some (.int 255 t_MOST_BYTE_packets))) {t_MOST_BYTE_tables : Tok} (y_MOST_BYTE_tables : PySem.W.nsIn K mainGlobals "MOST_BYTE_tables" = some (some (.int 255 t_MOST_BYTE_tables))) {t_MOST_PLACES : Tok} (y_MOST_PLACES : PySem.W.nsIn K mainGlobals "MOST_PLACES" = some (some (.int 12 t_MOST_PLACES))) {t_MOST_TOGETHER : Tok} (y_MOST_TOGETHER : PySem.W.nsIn K mainGlobals "MOST_TOGETHER" = some (some (.int 1000 t_MOST_TOGETHER))) {t_MOST_TURNED : Tok} (y_MOST_TURNED : PySem.W.nsIn K mainGlobals "MOST_TURNED" = some (some (.int 3 t_MOST_TURNED))) {t_MOST_WORD : Tok} (y_MOST_WORD : PySem.W.nsIn K mainGlobals "MOST_WORD" = some (some (.int 65535 t_MOST_WORD))) {t_NOUGHT_AT : Tok} (y_NOUGHT_AT : PySem.W.nsIn K mainGlobals "NOUGHT_AT" = some (some (.int 9 t_NOUGHT_AT))) {t_SUM_AT : Tok} (y_SUM_AT : PySem.W.nsIn K mainGlobals "SUM_AT" = some (some (.int 12 t_SUM_AT))) (e_NoBits : PySem.W.excIn K ca_NoBits [.type "ValueError", .type "Exception", .type "BaseException", .type "object"] "ValueError.__new__" = true) (k_NoBits : PySem.W.keepIn K (.ref ca_NoBits) = true) (b_NoBits : PySem.W.subIn K (.ref ca_NoBits) (.type "BaseException") = some true) (t_NoBits : PySem.W.typeIn K (.ref ca_NoBits) = some (.type "type")) (e_NoCode : PySem.W.excIn K ca_NoCode [.type "ValueError", .type "Exception", .type "BaseException", .type "object"] "ValueError.__new__" = true) (k_NoCode : PySem.W.keepIn K (.ref ca_NoCode) = true) (b_NoCode : PySem.W.subIn K (.ref ca_NoCode) (.type "BaseException") = some true) (t_NoCode : PySem.W.typeIn K (.ref ca_NoCode) = some (.type "type")) (e_NoNumber : PySem.W.excIn K ca_NoNumber [.type "ValueError", .type "Exception", .type "BaseException", .type "object"] "ValueError.__new__" = true) (k_NoNumber : PySem.W.keepIn K (.ref ca_NoNumber) = true) (b_NoNumber : PySem.W.subIn K (.ref ca_NoNumber) (.type "BaseException") = some true) (t_NoNumber : PySem.W.typeIn K (.ref ca_NoNumber) = some (.type "type")) (e_NoPacket : PySem.W.excIn K ca_NoPacket [.type "ValueError", .type "Exception", .type "BaseException", .type "object"] "ValueError.__new__" = true) (k_NoPacket : PySem.W.keepIn K (.ref ca_NoPacket) = true) (b_NoPacket : PySem.W.subIn K (.ref ca_NoPacket) (.type "BaseException") = some true) (t_NoPacket : PySem.W.typeIn K (.ref ca_NoPacket) = some (.type "type")) (e_NoPlace : PySem.W.excIn K ca_NoPlace [.type "ValueError", .type "Exception", .type "BaseException", .type "object"] "ValueError.__new__" = true) (k_NoPlace : PySem.W.keepIn K (.ref ca_NoPlace) = true) (b_NoPlace : PySem.W.subIn K (.ref ca_NoPlace) (.type "BaseException") = some true) (t_NoPlace : PySem.W.typeIn K (.ref ca_NoPlace) = some (.type "type")) (e_NoTable : PySem.W.excIn K ca_NoTable [.type "ValueError", .type "Exception", .type "BaseException", .type "object"] "ValueError.__new__" = true) (k_NoTable : PySem.W.keepIn K (.ref ca_NoTable) = true) (b_NoTable : PySem.W.subIn K (.ref ca_NoTable) (.type "BaseException") = some true) (t_NoTable : PySem.W.typeIn K (.ref ca_NoTable) = some (.type "type")) (mm_NoPacket_NoPacket : PySem.W.exmOne K (.ref ca_NoPacket) (.ref ca_NoPacket) = some true) (mm_WireError_NoBits : PySem.W.exmOne K (.ref ca_NoBits) (.ref ca_WireError) = some true) (mm_WireError_NoCode : PySem.W.exmOne K (.ref ca_NoCode) (.ref ca_WireError) = some true) (mm_WireError_NoNumber : PySem.W.exmOne K (.ref ca_NoNumber) (.ref ca_WireError) = some true) (mm_WireError_NoPacket : PySem.W.exmOne K (.ref ca_NoPacket) (.ref ca_WireError) = some true) (mm_WireError_NoPlace : PySem.W.exmOne K (.ref ca_NoPlace) (.ref ca_WireError) = some true) (mm_WireError_NoTable : PySem.W.exmOne K (.ref ca_NoTable) (.ref ca_WireError) = some true) (cl_Net : Cls K ca_Net) (mk_Net : PySem.W.makesIn K ca_Net = true) (kc_Net : PySem.W.keepIn K (.ref ca_Net) = true) (n_Net_code : PySem.W.findIn K (.ref ca_Net) "code" = some none) (n_Net_oldest : PySem.W.findIn K (.ref ca_Net) "oldest" = some none) (n_Net_roads : PySem.W.findIn K (.ref ca_Net) "roads" = some none) (n_Net_ways : PySem.W.findIn K (.ref ca_Net) "ways" = some none) (cl_Packet : Cls K ca_Packet) (mk_Packet : PySem.W.makesIn K ca_Packet = true) (kc_Packet : PySem.W.keepIn K (.ref ca_Packet) = true) (n_Packet_data : PySem.W.findIn K (.ref ca_Packet) "data" = some none) (n_Packet_first : PySem.W.findIn K (.ref ca_Packet) "first" = some none) (n_Packet_kind : PySem.W.findIn K (.ref ca_Packet) "kind" = some none) (n_Packet_life : PySem.W.findIn K (.ref ca_Packet) "life" = some none) (n_Packet_more : PySem.W.findIn K (.ref ca_Packet) "more" = some none) (n_Packet_name : PySem.W.findIn K (.ref ca_Packet) "name" = some none) (n_Packet_source : PySem.W.findIn K (.ref ca_Packet) "source" = some none) (n_Packet_target : PySem.W.findIn K (.ref ca_Packet) "target" = some none) (cl_Thing : Cls K ca_Thing) (mk_Thing : PySem.W.makesIn K ca_Thing = true) (kc_Thing : PySem.W.keepIn K (.ref ca_Thing) = true) (n_Thing_places : PySem.W.findIn K (.ref ca_Thing) "places" = some none) (n_Thing_row : PySem.W.findIn K (.ref ca_Thing) "row" = some none) (n_Thing_years : PySem.W.findIn K (.ref ca_Thing) "years" = some none) (in_Net : DL.InC K ca_Net) (in_Packet : DL.InC K ca_Packet) (in_Thing : DL.InC K ca_Thing) (x_NoBits : ExcC K ca_NoBits) (x_NoCode : ExcC K ca_NoCode) (x_NoNumber : ExcC K ca_NoNumber) (x_NoPacket : ExcC K ca_NoPacket) (x_NoPlace : ExcC K ca_NoPlace) (x_NoTable : ExcC K ca_NoTable) (i_NoneType_Packet : PySem.W.kitOne K (.type "NoneType") (.ref ca_Packet) = some false) (i_bool_Packet : PySem.W.kitOne K (.type "bool") (.ref ca_Packet) = some false) (i_int_Packet : PySem.W.kitOne K (.type "int") (.ref ca_Packet) = some false) (i_str_Packet : PySem.W.kitOne K (.type "str") (.ref ca_Packet) = some false) (i_tuple_Packet : PySem.W.kitOne K (.type "tuple") (.ref ca_Packet) = some false) (i_list_Packet : PySem.W.kitOne K (.type "list") (.ref ca_Packet) = some false) (i_dict_Packet : PySem.W.kitOne K (.type "dict") (.ref ca_Packet) = some false) (i_Net_NoPlace : PySem.W.kitOne K (.ref ca_Net) (.ref ca_NoPlace) = some false) (i_Net_Packet : PySem.W.kitOne K (.ref ca_Net) (.ref ca_Packet) = some false) (i_Net_bool : PySem.W.kitOne K (.ref ca_Net) (.type "bool") = some false) (i_Net_dict : PySem.W.kitOne K (.ref ca_Net) (.type "dict") = some false) (i_Net_int : PySem.W.kitOne K (.ref ca_Net) (.type "int") = some false) (i_Net_list : PySem.W.kitOne K (.ref ca_Net) (.type "list") = some false) (i_Net_tuple : PySem.W.kitOne K (.ref ca_Net) (.type "tuple") = some false) (i_Packet_NoPlace : PySem.W.kitOne K (.ref ca_Packet) (.ref ca_NoPlace) = some false) (i_Packet_Packet : PySem.W.kitOne K (.ref ca_Packet) (.ref ca_Packet) = some true) (i_Packet_bool : PySem.W.kitOne K (.ref ca_Packet) (.type "bool") = some false) (i_Packet_dict : PySem.W.kitOne K (.ref ca_Packet) (.type "dict") = some false) (i_Packet_int : PySem.W.kitOne K (.ref ca_Packet) (.type "int") = some false) (i_Packet_list : PySem.W.kitOne K (.ref ca_Packet) (.type "list") = some false) (i_Packet_tuple : PySem.W.kitOne K (.ref ca_Packet) (.type "tuple") = some false) (i_Thing_NoPlace : PySem.W.kitOne K (.ref ca_Thing) (.ref ca_NoPlace) = some false) (i_Thing_Packet : PySem.W.kitOne K (.ref ca_Thing) (.ref ca_Packet) = some false) (i_Thing_bool : PySem.W.kitOne K (.ref ca_Thing) (.type "bool") = some false) (i_Thing_dict : PySem.W.kitOne K (.ref ca_Thing) (.type "dict") = some false) (i_Thing_int : PySem.W.kitOne K (.ref ca_Thing) (.type "int") = some false) (i_Thing_list : PySem.W.kitOne K (.ref ca_Thing) (.type "list") = some false) (i_Thing_tuple : PySem.W.kitOne K (.ref ca_Thing) (.type "tuple") = some false) (i_NoBits_NoPlace : PySem.W.kitOne K (.ref ca_NoBits) (.ref ca_NoPlace) = some false) (i_NoBits_Packet : PySem.W.kitOne K (.ref ca_NoBits) (.ref ca_Packet) = some false) (i_NoBits_bool : PySem.W.kitOne K (.ref ca_NoBits) (.type "bool") = some false) (i_NoBits_dict : PySem.W.kitOne K (.ref ca_NoBits) (.type "dict") = some false) (i_NoBits_int : PySem.W.kitOne K (.ref ca_NoBits) (.type "int") = some false) (i_NoBits_list : PySem.W.kitOne K (.ref ca_NoBits) (.type "list") = some false) (i_NoBits_tuple : PySem.W.kitOne K (.ref ca_NoBits) (.type "tuple") = some false) (i_NoCode_NoPlace : PySem.W.kitOne K (.ref ca_NoCode) (.ref ca_NoPlace) = some false) (i_NoCode_Packet : PySem.W.kitOne K (.ref ca_NoCode) (.ref ca_Packet) = some false) (i_NoCode_bool : PySem.W.kitOne K (.ref ca_NoCode) (.type "bool") = some false) (i_NoCode_dict : PySem.W.kitOne K (.ref ca_NoCode) (.type "dict") = some false) (i_NoCode_int : PySem.W.kitOne K (.ref ca_NoCode) (.type "int") = some false) (i_NoCode_list : PySem.W.kitOne K (.ref ca_NoCode) (.type "list") = some false) (i_NoCode_tuple : PySem.W.kitOne K (.ref ca_NoCode) (.type "tuple") = some false) (i_NoNumber_NoPlace : PySem.W.kitOne K (.ref ca_NoNumber) (.ref ca_NoPlace) = some false) (i_NoNumber_Packet : PySem.W.kitOne K (.ref ca_NoNumber) (.ref ca_Packet) = some false) (i_NoNumber_bool : PySem.W.kitOne K (.ref ca_NoNumber) (.type "bool") = some false) (i_NoNumber_dict : PySem.W.kitOne K (.ref ca_NoNumber) (.type "dict") = some false) (i_NoNumber_int : PySem.W.kitOne K (.ref ca_NoNumber) (.type "int") = some false) (i_NoNumber_list : PySem.W.kitOne K (.ref ca_NoNumber) (.type "list") = some false) (i_NoNumber_tuple : PySem.W.kitOne K (.ref ca_NoNumber) (.type "tuple") = some false) (i_NoPacket_NoPlace : PySem.W.kitOne K (.ref ca_NoPacket) (.ref ca_NoPlace) = some false) (i_NoPacket_Packet : PySem.W.kitOne K (.ref ca_NoPacket) (.ref ca_Packet) = some false) (i_NoPacket_bool : PySem.W.kitOne K (.ref ca_NoPacket) (.type "bool") = some false) (i_NoPacket_dict : PySem.W.kitOne K (.ref ca_NoPacket) (.type "dict") = some false) (i_NoPacket_int : PySem.W.kitOne K (.ref ca_NoPacket) (.type "int") = some false) (i_NoPacket_list : PySem.W.kitOne K (.ref ca_NoPacket) (.type "list") = some false) (i_NoPacket_tuple : PySem.W.kitOne K (.ref ca_NoPacket) (.type "tuple") = some false) (i_NoPlace_NoPlace : PySem.W.kitOne K (.ref ca_NoPlace) (.ref ca_NoPlace) = some true) (i_NoPlace_Packet : PySem.W.kitOne K (.ref ca_NoPlace) (.ref ca_Packet) = some false) (i_NoPlace_bool : PySem.W.kitOne K (.ref ca_NoPlace) (.type "bool") = some false) (i_NoPlace_dict : PySem.W.kitOne K (.ref ca_NoPlace) (.type "dict") = some false) (i_NoPlace_int : PySem.W.kitOne K (.ref ca_NoPlace) (.type "int") = some false) (i_NoPlace_list : PySem.W.kitOne K (.ref ca_NoPlace) (.type "list") = some false) (i_NoPlace_tuple : PySem.W.kitOne K (.ref ca_NoPlace) (.type "tuple") = some false) (i_NoTable_NoPlace : PySem.W.kitOne K (.ref ca_NoTable) (.ref ca_NoPlace) = some false) (i_NoTable_Packet : PySem.W.kitOne K (.ref ca_NoTable) (.ref ca_Packet) = some false) (i_NoTable_bool : PySem.W.kitOne K (.ref ca_NoTable) (.type "bool") = some false) (i_NoTable_dict : PySem.W.kitOne K (.ref ca_NoTable) (.type "dict") = some false) (i_NoTable_int : PySem.W.kitOne K (.ref ca_NoTable) (.type "int") = some false) (i_NoTable_list : PySem.W.kitOne K (.ref ca_NoTable) (.type "list") = some false) (i_NoTable_tuple : PySem.W.kitOne K (.ref ca_NoTable) (.type "tuple") = some false) :
    ∃ fd : FuncData, (∀ (s : Shared) (v : Value), BindsTo s fd ⟨[v], []⟩ [("_law_script", v)]) ∧ ∀ base : Heap, K.In base → base.Ns mainGlobals mg → FnOk l.prog w K mg base CX0 11 fa fd ["_law_script"] (spLaw K) := by
  have e := hfa.symm.trans (PySem.W.mg_of X G a47)
  cases e
  obtain ⟨ca, q_Net, q_NoBits, q_NoCode, q_NoNumber, q_NoPacket, q_NoPlace, q_NoTable, q_Packet, q_Thing, q_WireError⟩ : ∃ ca : String → Addr, ca "Net" = ca_Net ∧ ca "NoBits" = ca_NoBits ∧ ca "NoCode" = ca_NoCode ∧ ca "NoNumber" = ca_NoNumber ∧ ca "NoPacket" = ca_NoPacket ∧ ca "NoPlace" = ca_NoPlace ∧ ca "NoTable" = ca_NoTable ∧ ca "Packet" = ca_Packet ∧ ca "Thing" = ca_Thing ∧ ca "WireError" = ca_WireError := ⟨fun x => if x = "Net" then ca_Net else if x = "NoBits" then ca_NoBits else if x = "NoCode" then ca_NoCode else if x = "NoNumber" then ca_NoNumber else if x = "NoPacket" then ca_NoPacket else if x = "NoPlace" then ca_NoPlace else if x = "NoTable" then ca_NoTable else if x = "Packet" then ca_Packet else if x = "Thing" then ca_Thing else if x = "WireError" then ca_WireError else 0, by simp, by simp, by simp, by simp, by simp, by simp, by simp, by simp, by simp, by simp⟩
  subst q_Net q_NoBits q_NoCode q_NoNumber q_NoPacket q_NoPlace q_NoTable q_Packet q_Thing q_WireError
  have T : Txt K mg ca := ⟨PySem.W.mg_of X G g_Net, PySem.W.mg_of X G g_NoBits, PySem.W.mg_of X G g_NoCode, PySem.W.mg_of X G g_NoNumber, PySem.W.mg_of X G g_NoPacket, PySem.W.mg_of X G g_NoPlace, PySem.W.mg_of X G g_NoTable, PySem.W.mg_of X G g_Packet, PySem.W.mg_of X G g_Thing, PySem.W.mg_of X G g_WireError, e_NoBits, k_NoBits, b_NoBits, t_NoBits, e_NoCode, k_NoCode, b_NoCode, t_NoCode, e_NoNumber, k_NoNumber, b_NoNumber, t_NoNumber, e_NoPacket, k_NoPacket, b_NoPacket, t_NoPacket, e_NoPlace, k_NoPlace, b_NoPlace, t_NoPlace, e_NoTable, k_NoTable, b_NoTable, t_NoTable, ⟨mm_NoPacket_NoPacket, trivial⟩, ⟨mm_WireError_NoBits, mm_WireError_NoCode, mm_WireError_NoNumber, mm_WireError_NoPacket, mm_WireError_NoPlace, mm_WireError_NoTable, trivial⟩, cl_Net, mk_Net, kc_Net, n_Net_code, n_Net_oldest, n_Net_roads, n_Net_ways, cl_Packet, mk_Packet, kc_Packet, n_Packet_data, n_Packet_first, n_Packet_kind, n_Packet_life, n_Packet_more, n_Packet_name, n_Packet_source, n_Packet_target, cl_Thing, mk_Thing, kc_Thing, n_Thing_places, n_Thing_row, n_Thing_years, ⟨⟨in_Net, by decide⟩, ⟨in_Packet, by decide⟩, ⟨in_Thing, by decide⟩, trivial⟩, ⟨⟨x_NoBits, by decide⟩, ⟨x_NoCode, by decide⟩, ⟨x_NoNumber, by decide⟩, ⟨x_NoPacket, by decide⟩, ⟨x_NoPlace, by decide⟩, ⟨x_NoTable, by decide⟩, trivial⟩, (by unfold tb_; exact .cons (by simpa [vOf, btn] using i_NoneType_Packet) (.cons (by simpa [vOf, btn] using i_bool_Packet) (.cons (by simpa [vOf, btn] using i_int_Packet) (.cons (by simpa [vOf, btn] using i_str_Packet) (.cons (by simpa [vOf, btn] using i_tuple_Packet) (.cons (by simpa [vOf, btn] using i_list_Packet) (.cons (by simpa [vOf, btn] using i_dict_Packet) (.cons (by simpa [vOf, btn] using i_Net_NoPlace) (.cons (by simpa [vOf, btn] using i_Net_Packet) (.cons (by simpa [vOf, btn] using i_Net_bool) (.cons (by simpa [vOf, btn] using i_Net_dict) (.cons (by simpa [vOf, btn] using i_Net_int) (.cons (by simpa [vOf, btn] using i_Net_list) (.cons (by simpa [vOf, btn] using i_Net_tuple) (.cons (by simpa [vOf, btn] using i_Packet_NoPlace) (.cons (by simpa [vOf, btn] using i_Packet_Packet) (.cons (by simpa [vOf, btn] using i_Packet_bool) (.cons (by simpa [vOf, btn] using i_Packet_dict) (.cons (by simpa [vOf, btn] using i_Packet_int) (.cons (by simpa [vOf, btn] using i_Packet_list) (.cons (by simpa [vOf, btn] using i_Packet_tuple) (.cons (by simpa [vOf, btn] using i_Thing_NoPlace) (.cons (by simpa [vOf, btn] using i_Thing_Packet) (.cons (by simpa [vOf, btn] using i_Thing_bool) (.cons (by simpa [vOf, btn] using i_Thing_dict) (.cons (by simpa [vOf, btn] using i_Thing_int) (.cons (by simpa [vOf, btn] using i_Thing_list) (.cons (by simpa [vOf, btn] using i_Thing_tuple) (.cons (by simpa [vOf, btn] using i_NoBits_NoPlace) (.cons (by simpa [vOf, btn] using i_NoBits_Packet) (.cons (by simpa [vOf, btn] using i_NoBits_bool) (.cons (by simpa [vOf, btn] using i_NoBits_dict) (.cons (by simpa [vOf, btn] using i_NoBits_int) (.cons (by simpa [vOf, btn] using i_NoBits_list) (.cons (by simpa [vOf, btn] using i_NoBits_tuple) (.cons (by simpa [vOf, btn] using i_NoCode_NoPlace) (.cons (by simpa [vOf, btn] using i_NoCode_Packet) (.cons (by simpa [vOf, btn] using i_NoCode_bool) (.cons (by simpa [vOf, btn] using i_NoCode_dict) (.cons (by simpa [vOf, btn] using i_NoCode_int) (.cons (by simpa [vOf, btn] using i_NoCode_list) (.cons (by simpa [vOf, btn] using i_NoCode_tuple) (.cons (by simpa [vOf, btn] using i_NoNumber_NoPlace) (.cons (by simpa [vOf, btn] using i_NoNumber_Packet) (.cons (by simpa [vOf, btn] using i_NoNumber_bool) (.cons (by simpa [vOf, btn] using i_NoNumber_dict) (.cons (by simpa [vOf, btn] using i_NoNumber_int) (.cons (by simpa [vOf, btn] using i_NoNumber_list) (.cons (by simpa [vOf, btn] using i_NoNumber_tuple) (.cons (by simpa [vOf, btn] using i_NoPacket_NoPlace) (.cons (by simpa [vOf, btn] using i_NoPacket_Packet) (.cons (by simpa [vOf, btn] using i_NoPacket_bool) (.cons (by simpa [vOf, btn] using i_NoPacket_dict) (.cons (by simpa [vOf, btn] using i_NoPacket_int) (.cons (by simpa [vOf, btn] using i_NoPacket_list) (.cons (by simpa [vOf, btn] using i_NoPacket_tuple) (.cons (by simpa [vOf, btn] using i_NoPlace_NoPlace) (.cons (by simpa [vOf, btn] using i_NoPlace_Packet) (.cons (by simpa [vOf, btn] using i_NoPlace_bool) (.cons (by simpa [vOf, btn] using i_NoPlace_dict) (.cons (by simpa [vOf, btn] using i_NoPlace_int) (.cons (by simpa [vOf, btn] using i_NoPlace_list) (.cons (by simpa [vOf, btn] using i_NoPlace_tuple) (.cons (by simpa [vOf, btn] using i_NoTable_NoPlace) (.cons (by simpa [vOf, btn] using i_NoTable_Packet) (.cons (by simpa [vOf, btn] using i_NoTable_bool) (.cons (by simpa [vOf, btn] using i_NoTable_dict) (.cons (by simpa [vOf, btn] using i_NoTable_int) (.cons (by simpa [vOf, btn] using i_NoTable_list) (.cons (by simpa [vOf, btn] using i_NoTable_tuple) (.nil))))))))))))))))))))))))))))))))))))))))))))))))))))))))))))))))))))))), PySem.W.mg_none_of X G z_all, PySem.W.mg_none_of X G z_bool, PySem.W.mg_none_of X G z_dict, PySem.W.mg_none_of X G z_enumerate, PySem.W.mg_none_of X G z_int, PySem.W.mg_none_of X G z_isinstance, PySem.W.mg_none_of X G z_len, PySem.W.mg_none_of X G z_list, PySem.W.mg_none_of X G z_min, PySem.W.mg_none_of X G z_range, PySem.W.mg_none_of X G z_set, PySem.W.mg_none_of X G z_sorted, PySem.W.mg_none_of X G z_tuple, ⟨_, PySem.W.mg_of X G y_BYTE⟩, ⟨_, PySem.W.mg_of X G y_GREATEST⟩, ⟨_, PySem.W.mg_of X G y_HEAD⟩, ⟨_, PySem.W.mg_of X G y_LEAST⟩, ⟨_, PySem.W.mg_of X G y_MANY_AT⟩, ⟨_, PySem.W.mg_of X G y_MORE_AT⟩, ⟨_, PySem.W.mg_of X G y_MOST_BYTE_packets⟩, ⟨_, PySem.W.mg_of X G y_MOST_BYTE_tables⟩, ⟨_, PySem.W.mg_of X G y_MOST_PLACES⟩, ⟨_, PySem.W.mg_of X G y_MOST_TOGETHER⟩, ⟨_, PySem.W.mg_of X G y_MOST_TURNED⟩, ⟨_, PySem.W.mg_of X G y_MOST_WORD⟩, ⟨_, PySem.W.mg_of X G y_NOUGHT_AT⟩, ⟨_, PySem.W.mg_of X G y_SUM_AT⟩, True.intro⟩
  have F0 := fun_mk (st := s_is_place) l0 c0 k0
  have b0 := F0.binds (ps := ["thing"]) fun _ _ _ _ _ _ us hl => match us, hl with | [_], _ => rfl
  have F1 := fun_mk (st := s_is_other) l1 c1 k1
  have b1 := F1.binds (ps := ["thing", "place", "table"]) fun _ _ _ _ _ _ us hl => match us, hl with | [_, _, _], _ => rfl
  have F2 := fun_mk (st := s_are_ways) l2 c2 k2
  have b2 := F2.binds (ps := ["thing", "place", "table"]) fun _ _ _ _ _ _ us hl => match us, hl with | [_, _, _], _ => rfl
  have F3 := fun_mk (st := s_need_table) l3 c3 k3
  have b3 := F3.binds (ps := ["thing"]) fun _ _ _ _ _ _ us hl => match us, hl with | [_], _ => rfl
  have F4 := fun_mk (st := s_need_code) l4 c4 k4
  have b4 := F4.binds (ps := ["code"]) fun _ _ _ _ _ _ us hl => match us, hl with | [_], _ => rfl
  have F5 := fun_mk (st := s_width) l5 c5 k5
  have b5 := F5.binds (ps := ["code"]) fun _ _ _ _ _ _ us hl => match us, hl with | [_], _ => rfl
  have F6 := fun_mk (st := s_Net___init__) l6 c6 k6
  have b6 := F6.binds (ps := ["self", "table", "code", "oldest"]) fun _ _ _ _ _ _ us hl => match us, hl with | [_, _, _, _], _ => rfl
  have F7 := fun_mk (st := s_l_next) l7 c7 k7
  have b7 := F7.binds (ps := ["_law_state_here", "_law_size"]) fun _ _ _ _ _ _ us hl => match us, hl with | [_, _], _ => rfl
  have F8 := fun_mk (st := s_l_fields) l8 c8 k8
  have b8 := F8.binds (ps := ["_law_state_here", "_law_places", "_law_k"]) fun _ _ _ _ _ _ us hl => match us, hl with | [_, _, _], _ => rfl
  have F9 := fun_mk (st := s_Thing___init__) l9 c9 k9
  have b9 := F9.binds (ps := ["self", "row", "years", "places"]) fun _ _ _ _ _ _ us hl => match us, hl with | [_, _, _, _], _ => rfl
  have F10 := fun_mk (st := s_is_number_nets) l10 c10 k10
  have b10 := F10.binds (ps := ["thing", "least", "most"]) fun _ _ _ _ _ _ us hl => match us, hl with | [_, _, _], _ => rfl
  have F11 := fun_mk (st := s_of_two) l11 c11 k11
  have b11 := F11.binds (ps := ["row", "place"]) fun _ _ _ _ _ _ us hl => match us, hl with | [_, _], _ => rfl
  have F12 := fun_mk (st := s_sum_of) l12 c12 k12
  have b12 := F12.binds (ps := ["head"]) fun _ _ _ _ _ _ us hl => match us, hl with | [_], _ => rfl
  have F13 := fun_mk (st := s_two) l13 c13 k13
  have b13 := F13.binds (ps := ["number"]) fun _ _ _ _ _ _ us hl => match us, hl with | [_], _ => rfl
  have F14 := fun_mk (st := s_packet_bytes) l14 c14 k14
  have b14 := F14.binds (ps := ["packet"]) fun _ _ _ _ _ _ us hl => match us, hl with | [_], _ => rfl
  have F15 := fun_mk (st := s_Net_put) l15 c15 k15
  have b15 := F15.binds (ps := ["self", "place", "packet"]) fun _ _ _ _ _ _ us hl => match us, hl with | [_, _, _], _ => rfl
  have F16 := fun_mk (st := s_Net_road) l16 c16 k16
  have b16 := F16.binds (ps := ["self", "one", "other"]) fun _ _ _ _ _ _ us hl => match us, hl with | [_, _, _], _ => rfl
  have F17 := fun_mk (st := s_Net_thing) l17 c17 k17
  have b17 := F17.binds (ps := ["self", "one", "other", "number"]) fun _ _ _ _ _ _ us hl => match us, hl with | [_, _, _, _], _ => rfl
  have F18 := fun_mk (st := s_is_number_packets) l18 c18 k18
  have b18 := F18.binds (ps := ["thing", "most"]) fun _ _ _ _ _ _ us hl => match us, hl with | [_, _], _ => rfl
  have F19 := fun_mk (st := s_are_bytes) l19 c19 k19
  have b19 := F19.binds (ps := ["thing", "most"]) fun _ _ _ _ _ _ us hl => match us, hl with | [_, _], _ => rfl
  have F20 := fun_mk (st := s_Packet___init__) l20 c20 k20
  have b20 := F20.binds (ps := ["self", "source", "target", "kind", "life", "name", "first", "more", "data"]) fun _ _ _ _ _ _ us hl => match us, hl with | [_, _, _, _, _, _, _, _, _], _ => rfl
  have F21 := fun_mk (st := s_Packet_told) l21 c21 k21
  have b21 := F21.binds (ps := ["self"]) fun _ _ _ _ _ _ us hl => match us, hl with | [_], _ => rfl
  have F22 := fun_mk (st := s_spread) l22 c22 k22
  have b22 := F22.binds (ps := ["number", "many"]) fun _ _ _ _ _ _ us hl => match us, hl with | [_, _], _ => rfl
  have F23 := fun_mk (st := s_bits_by) l23 c23 k23
  have b23 := F23.binds (ps := ["number", "many"]) fun _ _ _ _ _ _ us hl => match us, hl with | [_, _], _ => rfl
  have F24 := fun_mk (st := s_divided) l24 c24 k24
  have b24 := F24.binds (ps := ["number", "code"]) fun _ _ _ _ _ _ us hl => match us, hl with | [_, _], _ => rfl
  have F25 := fun_mk (st := s_is_whole) l25 c25 k25
  have b25 := F25.binds (ps := ["thing", "least", "most"]) fun _ _ _ _ _ _ us hl => match us, hl with | [_, _, _], _ => rfl
  have F26 := fun_mk (st := s_is_bits) l26 c26 k26
  have b26 := F26.binds (ps := ["thing"]) fun _ _ _ _ _ _ us hl => match us, hl with | [_], _ => rfl
  have F27 := fun_mk (st := s_gathered) l27 c27 k27
  have b27 := F27.binds (ps := ["bits"]) fun _ _ _ _ _ _ us hl => match us, hl with | [_], _ => rfl
  have F28 := fun_mk (st := s_number_of) l28 c28 k28
  have b28 := F28.binds (ps := ["bits"]) fun _ _ _ _ _ _ us hl => match us, hl with | [_], _ => rfl
  have F29 := fun_mk (st := s_number_by) l29 c29 k29
  have b29 := F29.binds (ps := ["bits"]) fun _ _ _ _ _ _ us hl => match us, hl with | [_], _ => rfl
  have F30 := fun_mk (st := s_coded) l30 c30 k30
  have b30 := F30.binds (ps := ["bits", "code"]) fun _ _ _ _ _ _ us hl => match us, hl with | [_, _], _ => rfl
  have F31 := fun_mk (st := s_coded_row) l31 c31 k31
  have b31 := F31.binds (ps := ["row", "code"]) fun _ _ _ _ _ _ us hl => match us, hl with | [_, _], _ => rfl
  have F32 := fun_mk (st := s_Thing_row_bits) l32 c32 k32
  have b32 := F32.binds (ps := ["self", "code"]) fun _ _ _ _ _ _ us hl => match us, hl with | [_, _], _ => rfl
  have F33 := fun_mk (st := s_is_right) l33 c33 k33
  have b33 := F33.binds (ps := ["bits", "code"]) fun _ _ _ _ _ _ us hl => match us, hl with | [_, _], _ => rfl
  have F34 := fun_mk (st := s_packet_by) l34 c34 k34
  have b34 := F34.binds (ps := ["thing"]) fun _ _ _ _ _ _ us hl => match us, hl with | [_], _ => rfl
  have F35 := fun_mk (st := s_row_by) l35 c35 k35
  have b35 := F35.binds (ps := ["bits"]) fun _ _ _ _ _ _ us hl => match us, hl with | [_], _ => rfl
  have F36 := fun_mk (st := s_Thing_read_packet) l36 c36 k36
  have b36 := F36.binds (ps := ["self", "code"]) fun _ _ _ _ _ _ us hl => match us, hl with | [_, _], _ => rfl
  have F37 := fun_mk (st := s_Net_bring) l37 c37 k37
  have b37 := F37.binds (ps := ["self", "one", "other", "number"]) fun _ _ _ _ _ _ us hl => match us, hl with | [_, _, _, _], _ => rfl
  have F38 := fun_mk (st := s_Net_double) l38 c38 k38
  have b38 := F38.binds (ps := ["self", "one", "other", "number"]) fun _ _ _ _ _ _ us hl => match us, hl with | [_, _, _, _], _ => rfl
  have F39 := fun_mk (st := s_Net_lying) l39 c39 k39
  have b39 := F39.binds (ps := ["self"]) fun _ _ _ _ _ _ us hl => match us, hl with | [_], _ => rfl
  have F40 := fun_mk (st := s_Net_things) l40 c40 k40
  have b40 := F40.binds (ps := ["self", "one", "other"]) fun _ _ _ _ _ _ us hl => match us, hl with | [_, _, _], _ => rfl
  have F41 := fun_mk (st := s_l_bits) l41 c41 k41
  have b41 := F41.binds (ps := ["_law_state_here", "_law_many"]) fun _ _ _ _ _ _ us hl => match us, hl with | [_, _], _ => rfl
  have F42 := fun_mk (st := s_Thing_how_many) l42 c42 k42
  have b42 := F42.binds (ps := ["self", "code"]) fun _ _ _ _ _ _ us hl => match us, hl with | [_, _], _ => rfl
  have F43 := fun_mk (st := s_Net_turn) l43 c43 k43
  have b43 := F43.binds (ps := ["self", "one", "other", "number", "places"]) fun _ _ _ _ _ _ us hl => match us, hl with | [_, _, _, _, _], _ => rfl
  have F44 := fun_mk (st := s_l_turn) l44 c44 k44
  have b44 := F44.binds (ps := ["_law_net", "_law_places", "_law_at", "_law_bits_here"]) fun _ _ _ _ _ _ us hl => match us, hl with | [_, _, _, _], _ => rfl
  have F45 := fun_mk (st := s_l_right) l45 c45 k45
  have b45 := F45.binds (ps := ["_law_state_here", "_law_net", "_law_places", "_law_fields_here"]) fun _ _ _ _ _ _ us hl => match us, hl with | [_, _, _, _], _ => rfl
  have F46 := fun_mk (st := s_l_state) l46 c46 k46
  have b46 := F46.binds (ps := ["_law_cell", "_law_k"]) fun _ _ _ _ _ _ us hl => match us, hl with | [_, _], _ => rfl
  have F47 := fun_mk (st := s_law) l47 c47 k47
  have b47 := F47.binds (ps := ["_law_script"]) fun _ _ _ _ _ _ us hl => match us, hl with | [_], _ => rfl
  refine ⟨PySem.W.fnOf "law" "law" (defArgs s_law) (defBody s_law) (defScope s_law) .none kV47 dc47 pm47 an47 cd47 ct47, fun s v => .of_eq rfl, fun base _ _ => ?_⟩
  have C_is_place := Dx.of2 (ok_is_place (P := l.prog) (w := w) (mg := mg) (base := base) T F0 ) F0 (PySem.W.mg_of X G a0) b0
  have C_is_other := Dx.of2 (ok_is_other (P := l.prog) (w := w) (mg := mg) (base := base) T F1 C_is_place) F1 (PySem.W.mg_of X G a1) b1
  have C_are_ways := Dx.of2 (ok_are_ways (P := l.prog) (w := w) (mg := mg) (base := base) T F2 C_is_other) F2 (PySem.W.mg_of X G a2) b2
  have C_need_table := Dx.of2 (ok_need_table (P := l.prog) (w := w) (mg := mg) (base := base) T F3 C_are_ways C_is_place) F3 (PySem.W.mg_of X G a3) b3
  have C_need_code := Dx.of2 (ok_need_code (P := l.prog) (w := w) (mg := mg) (base := base) T F4 ) F4 (PySem.W.mg_of X G a4) b4
  have C_width := Dx.of2 (ok_width (P := l.prog) (w := w) (mg := mg) (base := base) T F5 C_need_code) F5 (PySem.W.mg_of X G a5) b5
  have M_Net := Mx.of ⟨mk_Net, a6, i6, kc_Net⟩ (ok_Net___init__ (P := l.prog) (w := w) (mg := mg) (base := base) T F6 C_need_table C_width) (PySem.W.mg_of X G g_Net) b6
  have C_l_next := Dx.of2 (ok_l_next (P := l.prog) (w := w) (mg := mg) (base := base) T F7 ) F7 (PySem.W.mg_of X G a7) b7
  have C_l_fields := Dx.of2 (ok_l_fields (P := l.prog) (w := w) (mg := mg) (base := base) T F8 C_l_next) F8 (PySem.W.mg_of X G a8) b8
  have M_Thing := Mx.of ⟨mk_Thing, a9, i9, kc_Thing⟩ (ok_Thing___init__ (P := l.prog) (w := w) (mg := mg) (base := base) T F9 ) (PySem.W.mg_of X G g_Thing) b9
  have C_is_number_nets := Dx.of2 (ok_is_number_nets (P := l.prog) (w := w) (mg := mg) (base := base) T F10 ) F10 (PySem.W.mg_of X G a10) b10
  have C_of_two := Dx.of2 (ok_of_two (P := l.prog) (w := w) (mg := mg) (base := base) T F11 ) F11 (PySem.W.mg_of X G a11) b11
  have C_sum_of := Dx.of2 (ok_sum_of (P := l.prog) (w := w) (mg := mg) (base := base) T F12 C_of_two) F12 (PySem.W.mg_of X G a12) b12
  have C_two := Dx.of2 (ok_two (P := l.prog) (w := w) (mg := mg) (base := base) T F13 ) F13 (PySem.W.mg_of X G a13) b13
  have C_packet_bytes := Dx.of2 (ok_packet_bytes (P := l.prog) (w := w) (mg := mg) (base := base) T F14 C_sum_of C_two) F14 (PySem.W.mg_of X G a14) b14
  have M_Net_put := SM.Mt.of ⟨a15, i15, k15⟩ (ok_Net_put (P := l.prog) (w := w) (mg := mg) (base := base) T F15 M_Thing C_is_number_nets C_packet_bytes) b15
  have M_Net_road := SM.Mt.of ⟨a16, i16, k16⟩ (ok_Net_road (P := l.prog) (w := w) (mg := mg) (base := base) T F16 C_is_number_nets) b16
  have M_Net_thing := SM.Mt.of ⟨a17, i17, k17⟩ (ok_Net_thing (P := l.prog) (w := w) (mg := mg) (base := base) T F17 M_Net_road C_is_number_nets) b17
  have C_is_number_packets := Dx.of2 (ok_is_number_packets (P := l.prog) (w := w) (mg := mg) (base := base) T F18 ) F18 (PySem.W.mg_of X G a18) b18
  have C_are_bytes := Dx.of2 (ok_are_bytes (P := l.prog) (w := w) (mg := mg) (base := base) T F19 C_is_number_packets) F19 (PySem.W.mg_of X G a19) b19
  have M_Packet := Mx.of ⟨mk_Packet, a20, i20, kc_Packet⟩ (ok_Packet___init__ (P := l.prog) (w := w) (mg := mg) (base := base) T F20 C_are_bytes C_is_number_packets) (PySem.W.mg_of X G g_Packet) b20
  have M_Packet_told := SM.Mt.of ⟨a21, i21, k21⟩ (ok_Packet_told (P := l.prog) (w := w) (mg := mg) (base := base) T F21 ) b21
  have C_spread := Dx.of2 (ok_spread (P := l.prog) (w := w) (mg := mg) (base := base) T F22 ) F22 (PySem.W.mg_of X G a22) b22
  have C_bits_by := Dx.of2 (ok_bits_by (P := l.prog) (w := w) (mg := mg) (base := base) T F23 C_spread) F23 (PySem.W.mg_of X G a23) b23
  have C_divided := Dx.of2 (ok_divided (P := l.prog) (w := w) (mg := mg) (base := base) T F24 ) F24 (PySem.W.mg_of X G a24) b24
  have C_is_whole := Dx.of2 (ok_is_whole (P := l.prog) (w := w) (mg := mg) (base := base) T F25 ) F25 (PySem.W.mg_of X G a25) b25
  have C_is_bits := Dx.of2 (ok_is_bits (P := l.prog) (w := w) (mg := mg) (base := base) T F26 C_is_whole) F26 (PySem.W.mg_of X G a26) b26
  have C_gathered := Dx.of2 (ok_gathered (P := l.prog) (w := w) (mg := mg) (base := base) T F27 ) F27 (PySem.W.mg_of X G a27) b27
  have C_number_of := Dx.of2 (ok_number_of (P := l.prog) (w := w) (mg := mg) (base := base) T F28 C_gathered C_is_bits) F28 (PySem.W.mg_of X G a28) b28
  have C_number_by := Dx.of2 (ok_number_by (P := l.prog) (w := w) (mg := mg) (base := base) T F29 C_is_bits C_number_of) F29 (PySem.W.mg_of X G a29) b29
  have C_coded := Dx.of2 (ok_coded (P := l.prog) (w := w) (mg := mg) (base := base) T F30 C_bits_by C_divided C_need_code C_number_by C_width) F30 (PySem.W.mg_of X G a30) b30
  have C_coded_row := Dx.of2 (ok_coded_row (P := l.prog) (w := w) (mg := mg) (base := base) T F31 C_bits_by C_coded) F31 (PySem.W.mg_of X G a31) b31
  have M_Thing_row_bits := SM.Mt.of ⟨a32, i32, k32⟩ (ok_Thing_row_bits (P := l.prog) (w := w) (mg := mg) (base := base) T F32 C_coded_row) b32
  have C_is_right := Dx.of2 (ok_is_right (P := l.prog) (w := w) (mg := mg) (base := base) T F33 C_divided C_need_code C_number_by) F33 (PySem.W.mg_of X G a33) b33
  have C_packet_by := Dx.of2 (ok_packet_by (P := l.prog) (w := w) (mg := mg) (base := base) T F34 M_Packet C_are_bytes C_of_two C_sum_of) F34 (PySem.W.mg_of X G a34) b34
  have C_row_by := Dx.of2 (ok_row_by (P := l.prog) (w := w) (mg := mg) (base := base) T F35 C_number_of) F35 (PySem.W.mg_of X G a35) b35
  have M_Thing_read_packet := SM.Mt.of ⟨a36, i36, k36⟩ (ok_Thing_read_packet (P := l.prog) (w := w) (mg := mg) (base := base) T F36 M_Thing_row_bits C_is_right C_packet_by C_row_by C_width) b36
  have M_Net_bring := SM.Mt.of ⟨a37, i37, k37⟩ (ok_Net_bring (P := l.prog) (w := w) (mg := mg) (base := base) T F37 M_Net_put M_Net_road M_Net_thing M_Packet M_Packet_told M_Thing_read_packet) b37
  have M_Net_double := SM.Mt.of ⟨a38, i38, k38⟩ (ok_Net_double (P := l.prog) (w := w) (mg := mg) (base := base) T F38 M_Net_road M_Net_thing M_Thing) b38
  have M_Net_lying := SM.Mt.of ⟨a39, i39, k39⟩ (ok_Net_lying (P := l.prog) (w := w) (mg := mg) (base := base) T F39 ) b39
  have M_Net_things := SM.Mt.of ⟨a40, i40, k40⟩ (ok_Net_things (P := l.prog) (w := w) (mg := mg) (base := base) T F40 M_Net_road M_Thing_row_bits) b40
  have C_l_bits := Dx.of2 (ok_l_bits (P := l.prog) (w := w) (mg := mg) (base := base) T F41 C_l_next) F41 (PySem.W.mg_of X G a41) b41
  have M_Thing_how_many := SM.Mt.of ⟨a42, i42, k42⟩ (ok_Thing_how_many (P := l.prog) (w := w) (mg := mg) (base := base) T F42 C_width) b42
  have M_Net_turn := SM.Mt.of ⟨a43, i43, k43⟩ (ok_Net_turn (P := l.prog) (w := w) (mg := mg) (base := base) T F43 M_Net_thing M_Thing_how_many C_is_number_nets) b43
  have C_l_turn := Dx.of2 (ok_l_turn (P := l.prog) (w := w) (mg := mg) (base := base) T F44 M_Net_turn) F44 (PySem.W.mg_of X G a44) b44
  have C_l_right := Dx.of2 (ok_l_right (P := l.prog) (w := w) (mg := mg) (base := base) T F45 M_Net_bring M_Net_double M_Net_lying M_Net_put M_Net_things M_Packet M_Packet_told C_l_bits C_l_next C_l_turn) F45 (PySem.W.mg_of X G a45) b45
  have C_l_state := Dx.of2 (ok_l_state (P := l.prog) (w := w) (mg := mg) (base := base) T F46 ) F46 (PySem.W.mg_of X G a46) b46
  exact (ok_law T F47 M_Net C_l_fields C_l_next C_l_right C_l_state).imp law_imp
theorem walk {l : PySem.W.OpenLaw} {q : Program} {loose : List Str} {XP : (Str → Option Value) → Heap → Prop} {YP : World → Heap → Prop} {d : DefRec} {K : Params → PySem.W.Frag} (hn : l.most = some 63) (hdf : d.params.defaults = [])
    (hY : ∀ (w : World) (h : Heap), YP w h → (K w.params).In h)
    (F : ∀ (w : World) (mg : Str → Option Value) (fa : Addr) (h : Heap), (K w.params).In h → h.Ns mainGlobals mg → mg d.name = some (.ref fa) →
      ∃ fd : FuncData, (∀ (s : Shared) (u : Value), BindsTo s fd ⟨[u], []⟩ [("_law_script", u)]) ∧ ∀ base : Heap, (K w.params).In base → base.Ns mainGlobals mg → FnOk l.prog w (K w.params) mg base CX0 11 fa fd ["_law_script"] (spLaw (K w.params))) :
    PySem.W.WalkO q loose XP YP l.row.toRowW d [] (fun f vs => PySem.call f vs) :=
  L2.walk_of (n := 63) (k := 11) (x := "_law_script") (CX := fun _ => CX0) (sp := fun w => spLaw (K w.params)) hn (by decide) hdf ⟨rfl, by decide, by decide⟩ hY F (fun _ _ a ns hl _ hS => ⟨a, ns, rfl, hS, hl, fun _ => rfl⟩) fun _ _ _ _ _ z => z
end Kk
open PySem PySem.W PyProof.Rows in
set_option maxRecDepth 100000 in
set_option maxHeartbeats 0 in
theorem PySem.Challenge.cw_surewire_k53_turned_bits_dropped_holds : PySem.Challenge.rw_surewire_k53_turned_bits_dropped.Holds := by
  w_on; o_law; k_head; (case hw => w_witness2)
  k_fill
  refine Kk.walk (l := PySem.Challenge.rw_surewire_k53_turned_bits_dropped) rfl rfl (fun w h Y => PySem.W.kIn_of Y) ?F
  case F =>
    intro w mg fa h KX G hmg
    refine' Kk.all_mk KX G hmg ?g_Net ?g_NoBits ?g_NoCode ?g_NoNumber ?g_NoPacket ?g_NoPlace ?g_NoTable ?g_Packet ?g_Thing ?g_WireError ?a0 ?l0 ?c0 ?k0 ?a1 ?l1 ?c1 ?k1 ?a2 ?l2 ?c2 ?k2 ?a3 ?l3 ?c3 ?k3 ?a4 ?l4 ?c4 ?k4 ?a5 ?l5 ?c5 ?k5 ?a6 ?i6 ?l6 ?c6 ?k6 ?a7 ?l7 ?c7 ?k7 ?a8 ?l8 ?c8 ?k8 ?a9 ?i9 ?l9 ?c9 ?k9 ?a10 ?l10 ?c10 ?k10 ?a11 ?l11 ?c11 ?k11 ?a12 ?l12 ?c12 ?k12 ?a13 ?l13 ?c13 ?k13 ?a14 ?l14 ?c14 ?k14 ?a15 ?i15 ?l15 ?c15 ?k15 ?a16 ?i16 ?l16 ?c16 ?k16 ?a17 ?i17 ?l17 ?c17 ?k17 ?a18 ?l18 ?c18 ?k18 ?a19 ?l19 ?c19 ?k19 ?a20 ?i20 ?l20 ?c20 ?k20 ?a21 ?i21 ?l21 ?c21 ?k21 ?a22 ?l22 ?c22 ?k22 ?a23 ?l23 ?c23 ?k23 ?a24 ?l24 ?c24 ?k24 ?a25 ?l25 ?c25 ?k25 ?a26 ?l26 ?c26 ?k26 ?a27 ?l27 ?c27 ?k27 ?a28 ?l28 ?c28 ?k28 ?a29 ?l29 ?c29 ?k29 ?a30 ?l30 ?c30 ?k30 ?a31 ?l31 ?c31 ?k31 ?a32 ?i32 ?l32 ?c32 ?k32 ?a33 ?l33 ?c33 ?k33 ?a34 ?l34 ?c34 ?k34 ?a35 ?l35 ?c35 ?k35 ?a36 ?i36 ?l36 ?c36 ?k36 ?a37 ?i37 ?l37 ?c37 ?k37 ?a38 ?i38 ?l38 ?c38 ?k38 ?a39 ?i39 ?l39 ?c39 ?k39 ?a40 ?i40 ?l40 ?c40 ?k40 ?a41 ?l41 ?c41 ?k41 ?a42 ?i42 ?l42 ?c42 ?k42 ?a43 ?i43 ?l43 ?c43 ?k43 ?a44 ?l44 ?c44 ?k44 ?a45 ?l45 ?c45 ?k45 ?a46 ?l46 ?c46 ?k46 ?a47 ?l47 ?c47 ?k47 ?z_all ?z_bool ?z_dict ?z_enumerate ?z_int ?z_isinstance ?z_len ?z_list ?z_min ?z_range ?z_set ?z_sorted ?z_tuple ?y_BYTE ?y_GREATEST ?y_HEAD ?y_LEAST ?y_MANY_AT ?y_MORE_AT ?y_MOST_BYTE_packets ?y_MOST_BYTE_tables ?y_MOST_PLACES ?y_MOST_TOGETHER ?y_MOST_TURNED ?y_MOST_WORD ?y_NOUGHT_AT ?y_SUM_AT ?e_NoBits ?k_NoBits ?b_NoBits ?t_NoBits ?e_NoCode ?k_NoCode ?b_NoCode ?t_NoCode ?e_NoNumber ?k_NoNumber ?b_NoNumber ?t_NoNumber ?e_NoPacket ?k_NoPacket ?b_NoPacket ?t_NoPacket ?e_NoPlace ?k_NoPlace ?b_NoPlace ?t_NoPlace ?e_NoTable ?k_NoTable ?b_NoTable ?t_NoTable ?mm_NoPacket_NoPacket ?mm_WireError_NoBits ?mm_WireError_NoCode ?mm_WireError_NoNumber ?mm_WireError_NoPacket ?mm_WireError_NoPlace ?mm_WireError_NoTable ?cl_Net ?mk_Net ?kc_Net ?n_Net_code ?n_Net_oldest ?n_Net_roads ?n_Net_ways ?cl_Packet ?mk_Packet ?kc_Packet ?n_Packet_data ?n_Packet_first ?n_Packet_kind ?n_Packet_life ?n_Packet_more ?n_Packet_name ?n_Packet_source ?n_Packet_target ?cl_Thing ?mk_Thing ?kc_Thing ?n_Thing_places ?n_Thing_row ?n_Thing_years ?in_Net ?in_Packet ?in_Thing ?x_NoBits ?x_NoCode ?x_NoNumber ?x_NoPacket ?x_NoPlace ?x_NoTable ?i_NoneType_Packet ?i_bool_Packet ?i_int_Packet ?i_str_Packet ?i_tuple_Packet ?i_list_Packet ?i_dict_Packet ?i_Net_NoPlace ?i_Net_Packet ?i_Net_bool ?i_Net_dict ?i_Net_int ?i_Net_list ?i_Net_tuple ?i_Packet_NoPlace ?i_Packet_Packet ?i_Packet_bool ?i_Packet_dict ?i_Packet_int ?i_Packet_list ?i_Packet_tuple ?i_Thing_NoPlace ?i_Thing_Packet ?i_Thing_bool ?i_Thing_dict ?i_Thing_int ?i_Thing_list ?i_Thing_tuple ?i_NoBits_NoPlace ?i_NoBits_Packet ?i_NoBits_bool ?i_NoBits_dict ?i_NoBits_int ?i_NoBits_list ?i_NoBits_tuple ?i_NoCode_NoPlace ?i_NoCode_Packet ?i_NoCode_bool ?i_NoCode_dict ?i_NoCode_int ?i_NoCode_list ?i_NoCode_tuple ?i_NoNumber_NoPlace ?i_NoNumber_Packet ?i_NoNumber_bool ?i_NoNumber_dict ?i_NoNumber_int ?i_NoNumber_list ?i_NoNumber_tuple ?i_NoPacket_NoPlace ?i_NoPacket_Packet ?i_NoPacket_bool ?i_NoPacket_dict ?i_NoPacket_int ?i_NoPacket_list ?i_NoPacket_tuple ?i_NoPlace_NoPlace ?i_NoPlace_Packet ?i_NoPlace_bool ?i_NoPlace_dict ?i_NoPlace_int ?i_NoPlace_list ?i_NoPlace_tuple ?i_NoTable_NoPlace ?i_NoTable_Packet ?i_NoTable_bool ?i_NoTable_dict ?i_NoTable_int ?i_NoTable_list ?i_NoTable_tuple
    (case g_Net => k_is)
    (case g_NoBits => k_is)
    (case g_NoCode => k_is)
    (case g_NoNumber => k_is)
    (case g_NoPacket => k_is)
    (case g_NoPlace => k_is)
    (case g_NoTable => k_is)
    (case g_Packet => k_is)
    (case g_Thing => k_is)
    (case g_WireError => k_is)
    (case a0 => k_is)
    (case l0 => k_is)
    (case c0 => k_is)
    (case k0 => k_is)
    (case a1 => k_is)
    (case l1 => k_is)
    (case c1 => k_is)
    (case k1 => k_is)
    (case a2 => k_is)
    (case l2 => k_is)
    (case c2 => k_is)
    (case k2 => k_is)
    (case a3 => k_is)
    (case l3 => k_is)
    (case c3 => k_is)
    (case k3 => k_is)
    (case a4 => k_is)
    (case l4 => k_is)
    (case c4 => k_is)
    (case k4 => k_is)
    (case a5 => k_is)
    (case l5 => k_is)
    (case c5 => k_is)
    (case k5 => k_is)
    (case a6 => k_is)
    (case i6 => k_is)
    (case l6 => k_is)
    (case c6 => k_is)
    (case k6 => k_is)
    (case a7 => k_is)
    (case l7 => k_is)
    (case c7 => k_is)
    (case k7 => k_is)
    (case a8 => k_is)
    (case l8 => k_is)
    (case c8 => k_is)
    (case k8 => k_is)
    (case a9 => k_is)
    (case i9 => k_is)
    (case l9 => k_is)
    (case c9 => k_is)
    (case k9 => k_is)
    (case a10 => k_is)
    (case l10 => k_is)
    (case c10 => k_is)
    (case k10 => k_is)
    (case a11 => k_is)
    (case l11 => k_is)
    (case c11 => k_is)
    (case k11 => k_is)
    (case a12 => k_is)
    (case l12 => k_is)
    (case c12 => k_is)
    (case k12 => k_is)
    (case a13 => k_is)
    (case l13 => k_is)
    (case c13 => k_is)
    (case k13 => k_is)
    (case a14 => k_is)
    (case l14 => k_is)
    (case c14 => k_is)
    (case k14 => k_is)
    (case a15 => k_is)
    (case i15 => k_is)
    (case l15 => k_is)
    (case c15 => k_is)
    (case k15 => k_is)
    (case a16 => k_is)
    (case i16 => k_is)
    (case l16 => k_is)
    (case c16 => k_is)
    (case k16 => k_is)
    (case a17 => k_is)
    (case i17 => k_is)
    (case l17 => k_is)
    (case c17 => k_is)
    (case k17 => k_is)
    (case a18 => k_is)
    (case l18 => k_is)
    (case c18 => k_is)
    (case k18 => k_is)
    (case a19 => k_is)
    (case l19 => k_is)
    (case c19 => k_is)
    (case k19 => k_is)
    (case a20 => k_is)
    (case i20 => k_is)
    (case l20 => k_is)
    (case c20 => k_is)
    (case k20 => k_is)
    (case a21 => k_is)
    (case i21 => k_is)
    (case l21 => k_is)
    (case c21 => k_is)
    (case k21 => k_is)
    (case a22 => k_is)
    (case l22 => k_is)
    (case c22 => k_is)
    (case k22 => k_is)
    (case a23 => k_is)
    (case l23 => k_is)
    (case c23 => k_is)
    (case k23 => k_is)
    (case a24 => k_is)
    (case l24 => k_is)
    (case c24 => k_is)
    (case k24 => k_is)
    (case a25 => k_is)
    (case l25 => k_is)
    (case c25 => k_is)
    (case k25 => k_is)
    (case a26 => k_is)
    (case l26 => k_is)
    (case c26 => k_is)
    (case k26 => k_is)
    (case a27 => k_is)
    (case l27 => k_is)
    (case c27 => k_is)
    (case k27 => k_is)
    (case a28 => k_is)
    (case l28 => k_is)
    (case c28 => k_is)
    (case k28 => k_is)
    (case a29 => k_is)
    (case l29 => k_is)
    (case c29 => k_is)
    (case k29 => k_is)
    (case a30 => k_is)
    (case l30 => k_is)
    (case c30 => k_is)
    (case k30 => k_is)
    (case a31 => k_is)
    (case l31 => k_is)
    (case c31 => k_is)
    (case k31 => k_is)
    (case a32 => k_is)
    (case i32 => k_is)
    (case l32 => k_is)
    (case c32 => k_is)
    (case k32 => k_is)
    (case a33 => k_is)
    (case l33 => k_is)
    (case c33 => k_is)
    (case k33 => k_is)
    (case a34 => k_is)
    (case l34 => k_is)
    (case c34 => k_is)
    (case k34 => k_is)
    (case a35 => k_is)
    (case l35 => k_is)
    (case c35 => k_is)
    (case k35 => k_is)
    (case a36 => k_is)
    (case i36 => k_is)
    (case l36 => k_is)
    (case c36 => k_is)
    (case k36 => k_is)
    (case a37 => k_is)
    (case i37 => k_is)
    (case l37 => k_is)
    (case c37 => k_is)
    (case k37 => k_is)
    (case a38 => k_is)
    (case i38 => k_is)
    (case l38 => k_is)
    (case c38 => k_is)
    (case k38 => k_is)
    (case a39 => k_is)
    (case i39 => k_is)
    (case l39 => k_is)
    (case c39 => k_is)
    (case k39 => k_is)
    (case a40 => k_is)
    (case i40 => k_is)
    (case l40 => k_is)
    (case c40 => k_is)
    (case k40 => k_is)
    (case a41 => k_is)
    (case l41 => k_is)
    (case c41 => k_is)
    (case k41 => k_is)
    (case a42 => k_is)
    (case i42 => k_is)
    (case l42 => k_is)
    (case c42 => k_is)
    (case k42 => k_is)
    (case a43 => k_is)
    (case i43 => k_is)
    (case l43 => k_is)
    (case c43 => k_is)
    (case k43 => k_is)
    (case a44 => k_is)
    (case l44 => k_is)
    (case c44 => k_is)
    (case k44 => k_is)
    (case a45 => k_is)
    (case l45 => k_is)
    (case c45 => k_is)
    (case k45 => k_is)
    (case a46 => k_is)
    (case l46 => k_is)
    (case c46 => k_is)
    (case k46 => k_is)
    (case a47 => k_is)
    (case l47 => k_is)
    (case c47 => k_is)
    (case k47 => k_is)
    (case z_all => k_is)
    (case z_bool => k_is)
    (case z_dict => k_is)
    (case z_enumerate => k_is)
    (case z_int => k_is)
    (case z_isinstance => k_is)
    (case z_len => k_is)
    (case z_list => k_is)
    (case z_min => k_is)
    (case z_range => k_is)
    (case z_set => k_is)
    (case z_sorted => k_is)
    (case z_tuple => k_is)
    (case y_BYTE => k_is)
    (case y_GREATEST => k_is)
    (case y_HEAD => k_is)
    (case y_LEAST => k_is)
    (case y_MANY_AT => k_is)
    (case y_MORE_AT => k_is)
    (case y_MOST_BYTE_packets => k_is)
    (case y_MOST_BYTE_tables => k_is)
    (case y_MOST_PLACES => k_is)
    (case y_MOST_TOGETHER => k_is)
    (case y_MOST_TURNED => k_is)
    (case y_MOST_WORD => k_is)
    (case y_NOUGHT_AT => k_is)
    (case y_SUM_AT => k_is)
    (case e_NoBits => k_exc)
    (case k_NoBits => k_is)
    (case b_NoBits => k_is)
    (case t_NoBits => k_is)
    (case e_NoCode => k_exc)
    (case k_NoCode => k_is)
    (case b_NoCode => k_is)
    (case t_NoCode => k_is)
    (case e_NoNumber => k_exc)
    (case k_NoNumber => k_is)
    (case b_NoNumber => k_is)
    (case t_NoNumber => k_is)
    (case e_NoPacket => k_exc)
    (case k_NoPacket => k_is)
    (case b_NoPacket => k_is)
    (case t_NoPacket => k_is)
    (case e_NoPlace => k_exc)
    (case k_NoPlace => k_is)
    (case b_NoPlace => k_is)
    (case t_NoPlace => k_is)
    (case e_NoTable => k_exc)
    (case k_NoTable => k_is)
    (case b_NoTable => k_is)
    (case t_NoTable => k_is)
    (case mm_NoPacket_NoPacket => exact DL.exm_mk (by k_is) (by k_is) (by k_is) (by k_is))
    (case mm_WireError_NoBits => exact DL.exm_mk (by k_is) (by k_is) (by k_is) (by k_is))
    (case mm_WireError_NoCode => exact DL.exm_mk (by k_is) (by k_is) (by k_is) (by k_is))
    (case mm_WireError_NoNumber => exact DL.exm_mk (by k_is) (by k_is) (by k_is) (by k_is))
    (case mm_WireError_NoPacket => exact DL.exm_mk (by k_is) (by k_is) (by k_is) (by k_is))
    (case mm_WireError_NoPlace => exact DL.exm_mk (by k_is) (by k_is) (by k_is) (by k_is))
    (case mm_WireError_NoTable => exact DL.exm_mk (by k_is) (by k_is) (by k_is) (by k_is))
    (case cl_Net => exact ⟨by k_is, by k_is, by k_is, by k_is⟩)
    (case mk_Net => k_is)
    (case kc_Net => k_is)
    (case n_Net_code => k_is)
    (case n_Net_oldest => k_is)
    (case n_Net_roads => k_is)
    (case n_Net_ways => k_is)
    (case cl_Packet => exact ⟨by k_is, by k_is, by k_is, by k_is⟩)
    (case mk_Packet => k_is)
    (case kc_Packet => k_is)
    (case n_Packet_data => k_is)
    (case n_Packet_first => k_is)
    (case n_Packet_kind => k_is)
    (case n_Packet_life => k_is)
    (case n_Packet_more => k_is)
    (case n_Packet_name => k_is)
    (case n_Packet_source => k_is)
    (case n_Packet_target => k_is)
    (case cl_Thing => exact ⟨by k_is, by k_is, by k_is, by k_is⟩)
    (case mk_Thing => k_is)
    (case kc_Thing => k_is)
    (case n_Thing_places => k_is)
    (case n_Thing_row => k_is)
    (case n_Thing_years => k_is)
    (case in_Net => exact ⟨⟨by k_is, by k_is, by k_is, by k_is⟩, by k_is, by k_is, by k_is, by k_is⟩)
    (case in_Packet => exact ⟨⟨by k_is, by k_is, by k_is, by k_is⟩, by k_is, by k_is, by k_is, by k_is⟩)
    (case in_Thing => exact ⟨⟨by k_is, by k_is, by k_is, by k_is⟩, by k_is, by k_is, by k_is, by k_is⟩)
    (case x_NoBits => exact ⟨by k_is, by k_is, by k_is, by k_is, by k_is, by k_is, by k_is, by k_is⟩)
    (case x_NoCode => exact ⟨by k_is, by k_is, by k_is, by k_is, by k_is, by k_is, by k_is, by k_is⟩)
    (case x_NoNumber => exact ⟨by k_is, by k_is, by k_is, by k_is, by k_is, by k_is, by k_is, by k_is⟩)
    (case x_NoPacket => exact ⟨by k_is, by k_is, by k_is, by k_is, by k_is, by k_is, by k_is, by k_is⟩)
    (case x_NoPlace => exact ⟨by k_is, by k_is, by k_is, by k_is, by k_is, by k_is, by k_is, by k_is⟩)
    (case x_NoTable => exact ⟨by k_is, by k_is, by k_is, by k_is, by k_is, by k_is, by k_is, by k_is⟩)
    (case i_NoneType_Packet => first | k_is | kit_is)
    (case i_bool_Packet => first | k_is | kit_is)
    (case i_int_Packet => first | k_is | kit_is)
    (case i_str_Packet => first | k_is | kit_is)
    (case i_tuple_Packet => first | k_is | kit_is)
    (case i_list_Packet => first | k_is | kit_is)
    (case i_dict_Packet => first | k_is | kit_is)
    (case i_Net_NoPlace => first | k_is | kit_is)
    (case i_Net_Packet => first | k_is | kit_is)
    (case i_Net_bool => first | k_is | kit_is)
    (case i_Net_dict => first | k_is | kit_is)
    (case i_Net_int => first | k_is | kit_is)
    (case i_Net_list => first | k_is | kit_is)
    (case i_Net_tuple => first | k_is | kit_is)
    (case i_Packet_NoPlace => first | k_is | kit_is)
    (case i_Packet_Packet => first | k_is | kit_is)
    (case i_Packet_bool => first | k_is | kit_is)
    (case i_Packet_dict => first | k_is | kit_is)
    (case i_Packet_int => first | k_is | kit_is)
    (case i_Packet_list => first | k_is | kit_is)
    (case i_Packet_tuple => first | k_is | kit_is)
    (case i_Thing_NoPlace => first | k_is | kit_is)
    (case i_Thing_Packet => first | k_is | kit_is)
    (case i_Thing_bool => first | k_is | kit_is)
    (case i_Thing_dict => first | k_is | kit_is)
    (case i_Thing_int => first | k_is | kit_is)
    (case i_Thing_list => first | k_is | kit_is)
    (case i_Thing_tuple => first | k_is | kit_is)
    (case i_NoBits_NoPlace => first | k_is | kit_is)
    (case i_NoBits_Packet => first | k_is | kit_is)
    (case i_NoBits_bool => first | k_is | kit_is)
    (case i_NoBits_dict => first | k_is | kit_is)
    (case i_NoBits_int => first | k_is | kit_is)
    (case i_NoBits_list => first | k_is | kit_is)
    (case i_NoBits_tuple => first | k_is | kit_is)
    (case i_NoCode_NoPlace => first | k_is | kit_is)
    (case i_NoCode_Packet => first | k_is | kit_is)
    (case i_NoCode_bool => first | k_is | kit_is)
    (case i_NoCode_dict => first | k_is | kit_is)
    (case i_NoCode_int => first | k_is | kit_is)
    (case i_NoCode_list => first | k_is | kit_is)
    (case i_NoCode_tuple => first | k_is | kit_is)
    (case i_NoNumber_NoPlace => first | k_is | kit_is)
    (case i_NoNumber_Packet => first | k_is | kit_is)
    (case i_NoNumber_bool => first | k_is | kit_is)
    (case i_NoNumber_dict => first | k_is | kit_is)
    (case i_NoNumber_int => first | k_is | kit_is)
    (case i_NoNumber_list => first | k_is | kit_is)
    (case i_NoNumber_tuple => first | k_is | kit_is)
    (case i_NoPacket_NoPlace => first | k_is | kit_is)
    (case i_NoPacket_Packet => first | k_is | kit_is)
    (case i_NoPacket_bool => first | k_is | kit_is)
    (case i_NoPacket_dict => first | k_is | kit_is)
    (case i_NoPacket_int => first | k_is | kit_is)
    (case i_NoPacket_list => first | k_is | kit_is)
    (case i_NoPacket_tuple => first | k_is | kit_is)
    (case i_NoPlace_NoPlace => first | k_is | kit_is)
    (case i_NoPlace_Packet => first | k_is | kit_is)
    (case i_NoPlace_bool => first | k_is | kit_is)
    (case i_NoPlace_dict => first | k_is | kit_is)
    (case i_NoPlace_int => first | k_is | kit_is)
    (case i_NoPlace_list => first | k_is | kit_is)
    (case i_NoPlace_tuple => first | k_is | kit_is)
    (case i_NoTable_NoPlace => first | k_is | kit_is)
    (case i_NoTable_Packet => first | k_is | kit_is)
    (case i_NoTable_bool => first | k_is | kit_is)
    (case i_NoTable_dict => first | k_is | kit_is)
    (case i_NoTable_int => first | k_is | kit_is)
    (case i_NoTable_list => first | k_is | kit_is)
    (case i_NoTable_tuple => first | k_is | kit_is)
#print axioms PySem.Challenge.cw_surewire_k53_turned_bits_dropped_holds
