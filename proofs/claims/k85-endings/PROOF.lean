import PyProof.Rows.All
import Wide.All
import OpenK.AllK
import Wide.FinOn
import HandS.ForMost
import HandS.IsInst
import HandS.Style
import HandS.Flow
import HandS.Exc
import HandS.TryOnly
import HandS.ExcOwn
import HandS.WordsExc
import HandS.WideBits
import HandS.Wide
import HandS.TupAny
import HandS.Walk
import HandS.ExcIs
import HandS.RaiseMore
import HandS.TupMul
import KE.KBits
import HandS.Zip
import HandS.Deep
import HandS.More
import HandS.SetFor
import HandS.FStrTup
import HandS.Ends
import PyProof.ReprRoads
import PyProof.FitsInt
import PyProof.CallFns
import HandS.Text
import HandS.StrMore
import HandS.RevRange
import KE.DataEq
import HandS.Flt
import HandS.Steps
import KE.GoesEnum
import HandS.Defaults
import PyProof.StrOps2
import PySem.Challenge.RW_surewire_k85_endings
set_option Elab.async false
set_option linter.all false
set_option maxRecDepth 100000
set_option maxHeartbeats 2000000
/-! ## the data layer: what a reading gives, told by plain data; what stands is told by slots -/
namespace DL
open PySem L2

/-- plain data -/
inductive D where
  | non | bl (b : Bool) | int (i : Int) | str (x : Str) | ty (n : String) | ref (a : Addr)
  | tup (l : List D) | lst (l : List D) | scr (l : List D)
  | dic (l : List (Key × D)) | dit (l : List (List Key × D))
  | obj (C : Addr) (fs : List (Str × D))
  | exc (C : Addr)
/-- what one owned object holds -/
inductive OB where
  | lst (l : List D) | dic (l : List (Key × D)) | dit (l : List (List Key × D)) | obj (C : Addr) (fs : List (Str × D))
def OB.d : OB → D
  | .lst l => .lst l
  | .dic l => .dic l
  | .dit l => .dit l
  | .obj C fs => .obj C fs
/-- what is known of a slot -/
inductive EV where
  | any | val (d : D) | own (o : OB)
abbrev Env := List EV

def Ex (H H' : Hp) : Prop := ∀ a o, H a = some o → H' a = some o
theorem Ex.refl (H : Hp) : Ex H H := fun _ _ h => h
theorem Ex.trans {H H1 H2 : Hp} (a : Ex H H1) (b : Ex H1 H2) : Ex H H2 := fun x o h => b x o (a x o h)
theorem Ex.new {H : Hp} {p : Addr} {o : HO} (h : H p = none) : Ex H (upd H p o) := fun a u e => by
  rw [upd_ne (ne_of_none e h)]; exact e
theorem Ex.back {H H' : Hp} {p : Addr} (e : Ex H H') (h : H' p = none) : H p = none := by
  cases h1 : H p with
  | none => rfl
  | some o => rw [e p o h1] at h; cases h
theorem Ex.both {F H : Hp} {p : Addr} {o : HO} (e : Ex F H) : Ex (upd F p o) (upd H p o) := fun a u h => by
  by_cases q : a = p
  · subst q; rw [upd_same] at h ⊢; exact h
  · rw [upd_ne q] at h ⊢; exact e a u h
theorem Ex.right {F H : Hp} {p : Addr} {o : HO} (e : Ex F H) (h : F p = none) : Ex F (upd H p o) := fun a u q => by
  rw [upd_ne (ne_of_none q h)]; exact e a u q
theorem Ex.left {F H : Hp} {p : Addr} {o : HO} (e : Ex F H) (h : H p = some o) : Ex (upd F p o) H := fun a u q => by
  by_cases z : a = p
  · subst z; rw [upd_same] at q; rw [h]; exact q
  · rw [upd_ne z] at q; exact e a u q
theorem Ex.rd {H H' : Hp} {a : Addr} {u : HO} (e : Ex H H') (h : Rd H a u) : Rd H' a u := by
  rcases h with h | ⟨o, h⟩
  · exact Or.inl (e a _ h)
  · exact Or.inr ⟨o, e a _ h⟩
theorem Ex.l {K : PySem.W.Frag} {H H' : Hp} {a : Addr} {xs : List V} (e : Ex H H') (h : SqL K H a xs) : SqL K H' a xs := by
  rcases h with h | h
  · exact Or.inl (e.rd h)
  · exact Or.inr h
theorem Ex.t {K : PySem.W.Frag} {H H' : Hp} {a : Addr} {xs : List V} (e : Ex H H') (h : SqT K H a xs) : SqT K H' a xs := by
  rcases h with h | h
  · exact Or.inl (e.rd h)
  · exact Or.inr h

/-- an exception of the class at C, caught and kept -/
def ExK (C a : Addr) : HO := .ext fun h => ∃ (oe : Obj) (vs : Array Value), h.get? a = some oe ∧ Zc (.ref C) none oe ∧ oe.data = .fields vs
mutual
/-- the value v is the data d, all of it standing in F -/
inductive Rep (K : PySem.W.Frag) (F : Hp) : V → D → Prop
  | non : Rep K F .non .non
  | bl (b : Bool) : Rep K F (.bl b) (.bl b)
  | int (i : Int) : Rep K F (.int i) (.int i)
  | str (x : Str) : Rep K F (.str x) (.str x)
  | ty (n : String) : Rep K F (.ty n) (.ty n)
  | ref (a : Addr) : Rep K F (.ref a) (.ref a)
  | tup {a : Addr} {vs : List V} {l : List D} : SqT K F a vs → RepL K F vs l → Rep K F (.ref a) (.tup l)
  | lst {a : Addr} {vs : List V} {l : List D} : F a = some (.lst vs) → RepL K F vs l → Rep K F (.ref a) (.lst l)
  | scr {a : Addr} {vs : List V} {l : List D} : SqL K F a vs → RepL K F vs l → Rep K F (.ref a) (.scr l)
  | dic {a : Addr} {ks : List Key} {vs : List V} {ds : List D} : F a = some (.dK (ks.zip vs)) → ks.length = ds.length → RepL K F vs ds → Rep K F (.ref a) (.dic (ks.zip ds))
  | dit {a : Addr} {ks : List (List Key)} {vs : List V} {ds : List D} : F a = some (.dT (ks.zip vs)) → ks.length = ds.length → RepL K F vs ds → Rep K F (.ref a) (.dit (ks.zip ds))
  | obj {a C dx : Addr} {ks : List Str} {vs : List V} {ds : List D} : F a = some (.ins C dx (ks.zip vs)) → ks.length = ds.length → RepL K F vs ds → Rep K F (.ref a) (.obj C (ks.zip ds))
  | exc {a C : Addr} : F a = some (ExK C a) → Rep K F (.ref a) (.exc C)
inductive RepL (K : PySem.W.Frag) (F : Hp) : List V → List D → Prop
  | nil : RepL K F [] []
  | cons {v : V} {vs : List V} {d : D} {ds : List D} : Rep K F v d → RepL K F vs ds → RepL K F (v :: vs) (d :: ds)
end
section
variable {K : PySem.W.Frag} {F F' : Hp}
mutual
theorem Rep.mono (e : Ex F F') : ∀ {v : V} {d : D}, Rep K F v d → Rep K F' v d
  | _, _, .non => .non
  | _, _, .bl b => .bl b
  | _, _, .int i => .int i
  | _, _, .str x => .str x
  | _, _, .ty n => .ty n
  | _, _, .ref a => .ref a
  | _, _, .tup h r => .tup (e.t h) (RepL.mono e r)
  | _, _, .lst h r => .lst (e _ _ h) (RepL.mono e r)
  | _, _, .scr h r => .scr (e.l h) (RepL.mono e r)
  | _, _, .dic h l r => .dic (e _ _ h) l (RepL.mono e r)
  | _, _, .dit h l r => .dit (e _ _ h) l (RepL.mono e r)
  | _, _, .obj h l r => .obj (e _ _ h) l (RepL.mono e r)
  | _, _, .exc h => .exc (e _ _ h)
theorem RepL.mono (e : Ex F F') : ∀ {vs : List V} {ds : List D}, RepL K F vs ds → RepL K F' vs ds
  | _, _, .nil => .nil
  | _, _, .cons h r => .cons (Rep.mono e h) (RepL.mono e r)
end
theorem RepL.length : ∀ {vs : List V} {ds : List D}, RepL K F vs ds → vs.length = ds.length
  | _, _, .nil => rfl
  | _, _, .cons _ r => by rw [List.length_cons, List.length_cons, r.length]
theorem RepL.get : ∀ {vs : List V} {ds : List D} {i : Nat} {d : D}, RepL K F vs ds → ds[i]? = some d → ∃ v, vs[i]? = some v ∧ Rep K F v d
  | _, _, _, _, .nil, h => by simp at h
  | _, _, 0, _, .cons h _, e => by simp at e; subst e; exact ⟨_, rfl, h⟩
  | _, _, i + 1, _, .cons _ r, e => by
    obtain ⟨v, h1, h2⟩ := RepL.get (i := i) r (by simpa using e)
    exact ⟨v, by simpa using h1, h2⟩
theorem RepL.append : ∀ {vs ws : List V} {ds es : List D}, RepL K F vs ds → RepL K F ws es → RepL K F (vs ++ ws) (ds ++ es)
  | _, _, _, _, .nil, s => s
  | _, _, _, _, .cons h r, s => .cons h (RepL.append r s)
theorem RepL.take : ∀ {vs : List V} {ds : List D} (n : Nat), RepL K F vs ds → RepL K F (vs.take n) (ds.take n)
  | _, _, 0, _ => .nil
  | _, _, _ + 1, .nil => .nil
  | _, _, n + 1, .cons h r => .cons h (RepL.take n r)
theorem RepL.drop : ∀ {vs : List V} {ds : List D} (n : Nat), RepL K F vs ds → RepL K F (vs.drop n) (ds.drop n)
  | _, _, 0, r => r
  | _, _, _ + 1, .nil => .nil
  | _, _, n + 1, .cons _ r => RepL.drop n r
theorem RepL.set {v : V} {d : D} (h : Rep K F v d) : ∀ {vs : List V} {ds : List D} (n : Nat), RepL K F vs ds → RepL K F (vs.set n v) (ds.set n d)
  | _, _, _, .nil => .nil
  | _, _, 0, .cons _ r => .cons h r
  | _, _, n + 1, .cons q r => .cons q (RepL.set h n r)
theorem RepL.reverse : ∀ {vs : List V} {ds : List D}, RepL K F vs ds → RepL K F vs.reverse ds.reverse
  | _, _, .nil => .nil
  | _, _, .cons h r => by
    rw [List.reverse_cons, List.reverse_cons]
    exact (RepL.reverse r).append (.cons h .nil)
/-- ints, truths, texts: the values are those of the data -/
theorem RepL.ints : ∀ {vs : List V} {ns : List Int}, RepL K F vs (ns.map D.int) → vs = ns.map V.int
  | _, [], h => by cases h; rfl
  | _, n :: r, h => by
    cases h with
    | cons q t => cases q; rw [RepL.ints t]; rfl
theorem RepL.bools : ∀ {vs : List V} {ns : List Bool}, RepL K F vs (ns.map D.bl) → vs = ns.map V.bl
  | _, [], h => by cases h; rfl
  | _, n :: r, h => by
    cases h with
    | cons q t => cases q; rw [RepL.bools t]; rfl
theorem RepL.strs : ∀ {vs : List V} {ns : List Str}, RepL K F vs (ns.map D.str) → vs = ns.map V.str
  | _, [], h => by cases h; rfl
  | _, n :: r, h => by
    cases h with
    | cons q t => cases q; rw [RepL.strs t]; rfl
theorem RepL.of_ints : ∀ {ns : List Int}, RepL K F (ns.map V.int) (ns.map D.int)
  | [] => .nil
  | n :: _ => .cons (.int n) RepL.of_ints
/-- data that no heap is asked for -/
def flat : D → Bool
  | .non | .bl _ | .int _ | .str _ | .ty _ | .ref _ => true
  | _ => false
theorem Rep.flat {v : V} {d : D} (h : Rep K F v d) (f : flat d = true) : Rep K F' v d := by
  cases h <;> first | (cases f; done) | constructor
theorem RepL.flat : ∀ {vs : List V} {ds : List D}, RepL K F vs ds → ds.all DL.flat = true → RepL K F' vs ds
  | _, _, .nil, _ => .nil
  | _, _, .cons h r, f => by
    rw [List.all_cons, Bool.and_eq_true] at f
    exact .cons (h.flat f.1) (RepL.flat r f.2)
end

/-- the owned object at a holds o; its parts stand in F -/
def ORep (K : PySem.W.Frag) (F H : Hp) (a : Addr) : OB → Prop
  | .lst l => ∃ vs, H a = some (.lst vs) ∧ RepL K F vs l
  | .dic l => ∃ ks vs ds, H a = some (.dK (List.zip ks vs)) ∧ List.length ks = List.length ds ∧ RepL K F vs ds ∧ l = ks.zip ds
  | .dit l => ∃ ks vs ds, H a = some (.dT (List.zip ks vs)) ∧ List.length ks = List.length ds ∧ RepL K F vs ds ∧ l = ks.zip ds
  | .obj C fs => ∃ dx ks vs ds, H a = some (.ins C dx (List.zip ks vs)) ∧ List.length ks = List.length ds ∧ RepL K F vs ds ∧ fs = ks.zip ds
section
variable {K : PySem.W.Frag} {F F' H H' : Hp} {a : Addr} {o : OB}
theorem ORep.mono (h : ORep K F H a o) (e : Ex F F') (k : ∀ u, H a = some u → H' a = some u) : ORep K F' H' a o := by
  cases o with
  | lst l => obtain ⟨vs, x, r⟩ := h; exact ⟨vs, k _ x, r.mono e⟩
  | dic l => obtain ⟨ks, vs, ds, x, z, r, q⟩ := h; exact ⟨ks, vs, ds, k _ x, z, r.mono e, q⟩
  | dit l => obtain ⟨ks, vs, ds, x, z, r, q⟩ := h; exact ⟨ks, vs, ds, k _ x, z, r.mono e, q⟩
  | obj C fs => obtain ⟨dx, ks, vs, ds, x, z, r, q⟩ := h; exact ⟨dx, ks, vs, ds, k _ x, z, r.mono e, q⟩
theorem ORep.ho (h : ORep K F H a o) : ∃ u, H a = some u := by
  cases o with
  | lst l => obtain ⟨vs, x, r⟩ := h; exact ⟨_, x⟩
  | dic l => obtain ⟨ks, vs, ds, x, _⟩ := h; exact ⟨_, x⟩
  | dit l => obtain ⟨ks, vs, ds, x, _⟩ := h; exact ⟨_, x⟩
  | obj C fs => obtain ⟨dx, ks, vs, ds, x, _⟩ := h; exact ⟨_, x⟩
/-- an owned object, given up: from now on it stands -/
theorem ORep.give (h : ORep K F H a o) (n : F a = none) : ∃ u, H a = some u ∧ Rep K (upd F a u) (.ref a) o.d := by
  cases o with
  | lst l => obtain ⟨vs, x, r⟩ := h; exact ⟨_, x, .lst upd_same (r.mono (Ex.new n))⟩
  | dic l => obtain ⟨ks, vs, ds, x, z, r, q⟩ := h; subst q; exact ⟨_, x, .dic upd_same z (r.mono (Ex.new n))⟩
  | dit l => obtain ⟨ks, vs, ds, x, z, r, q⟩ := h; subst q; exact ⟨_, x, .dit upd_same z (r.mono (Ex.new n))⟩
  | obj C fs => obtain ⟨dx, ks, vs, ds, x, z, r, q⟩ := h; subst q; exact ⟨_, x, .obj upd_same z (r.mono (Ex.new n))⟩
end

/-- what grows between two moments: what stands (F) and all that is tracked (H) -/
structure Grow (F0 H0 F H : Hp) : Prop where
  gf : Ex F0 F
  gh : Ex H0 H
  fh : Ex F H
  gn : ∀ a, F a ≠ none → F0 a ≠ none ∨ H0 a = none
section
variable {F0 H0 F1 H1 F H : Hp}
theorem Grow.refl (e : Ex F H) : Grow F H F H := ⟨Ex.refl _, Ex.refl _, e, fun _ h => .inl h⟩
theorem Grow.trans (a : Grow F0 H0 F1 H1) (b : Grow F1 H1 F H) : Grow F0 H0 F H := ⟨a.gf.trans b.gf, a.gh.trans b.gh, b.fh, fun x h => by
  rcases b.gn x h with q | q
  · exact a.gn x q
  · exact .inr (a.gh.back q)⟩
/-- a new object, standing -/
theorem Grow.new {p : Addr} {o : HO} (g : Grow F0 H0 F H) (n : H p = none) : Grow F0 H0 (upd F p o) (upd H p o) := ⟨g.gf.trans (Ex.new (g.fh.back n)), g.gh.trans (Ex.new n), g.fh.both, fun x h => by
  by_cases q : x = p
  · subst q; exact .inr (g.gh.back n)
  · rw [upd_ne q] at h; exact g.gn x h⟩
/-- an owned new one is given up -/
theorem Grow.give {p : Addr} {o : HO} (g : Grow F0 H0 F H) (n : F p = none) (n0 : H0 p = none) (e : H p = some o) : Grow F0 H0 (upd F p o) H := ⟨g.gf.trans (Ex.new n), g.gh, g.fh.left e, fun x h => by
  by_cases q : x = p
  · subst q; exact .inr n0
  · rw [upd_ne q] at h; exact g.gn x h⟩
end

/-- where a def begins: what stands, what is tracked, which slots hold the objects handed in to be changed -/
structure Bs where
  F : Hp
  H : Hp
  fx : Nat → Option Addr
/-- the slots as they are known; oa i the address of what slot i owns -/
structure Sig (K : PySem.W.Frag) (b : Bs) (F : Hp) (oa : Nat → Addr) (σ : L2.St) (H : Hp) (env : Env) : Prop where
  g : Grow b.F b.H F H
  len : σ.length = env.length
  val : ∀ (i : Nat) (d : D), env[i]? = some (EV.val d) → ∃ v : V, σ[i]? = some (some v) ∧ Rep K F v d
  own : ∀ (i : Nat) (o : OB), env[i]? = some (EV.own o) → σ[i]? = some (some (.ref (oa i))) ∧ F (oa i) = none ∧ b.H (oa i) = none ∧ ORep K F H (oa i) o
  dist : ∀ (i j : Nat) (o u : OB), env[i]? = some (EV.own o) → env[j]? = some (.own u) → oa i = oa j → i = j
  fix : ∀ (i : Nat) (a : Addr), b.fx i = some a → oa i = a ∧ H a ≠ none
section
variable {K : PySem.W.Frag} {b : Bs} {F F1 H H1 : Hp} {oa : Nat → Addr} {σ : L2.St} {env env' : Env} {i : Nat} {v : V} {d : D} {o : OB}
/-- what is owned is not there where nothing is -/
theorem Sig.ne (S : Sig K b F oa σ H env) {p : Addr} (n : H p = none) (e : env[i]? = some (.own o)) : oa i ≠ p := fun q => by
  obtain ⟨_, _, _, r⟩ := S.own i o e
  obtain ⟨u, hu⟩ := r.ho
  rw [q, n] at hu; cases hu
/-- more stands, all else as it was -/
theorem Sig.grow (S : Sig K b F oa σ H env) (g : Grow F H F1 H1) : Sig K b F1 oa σ H1 env where
  g := S.g.trans g
  len := S.len
  val := fun i d e => by
    obtain ⟨v, h1, h2⟩ := S.val i d e
    exact ⟨v, h1, h2.mono g.gf⟩
  own := fun i o e => by
    obtain ⟨h1, h2, h3, h4⟩ := S.own i o e
    refine ⟨h1, ?_, h3, h4.mono g.gf fun u q => g.gh _ _ q⟩
    cases q : F1 (oa i) with
    | none => rfl
    | some u =>
      rcases g.gn (oa i) (by rw [q]; simp) with z | z
      · exact absurd h2 z
      · obtain ⟨w, hw⟩ := h4.ho
        rw [z] at hw; cases hw
  dist := S.dist
  fix := fun i c e => by
    obtain ⟨h1, h2⟩ := S.fix i c e
    refine ⟨h1, fun z => ?_⟩
    exact h2 (g.gh.back z)
theorem Sig.new {p : Addr} {u : HO} (S : Sig K b F oa σ H env) (n : H p = none) : Sig K b (upd F p u) oa σ (upd H p u) env := S.grow ((Grow.refl S.g.fh).new n)
/-- slot i holds v -/
theorem Sig.set (S : Sig K b F oa σ H env) (r : Rep K F v d) : Sig K b F oa (σ.set i (some v)) H (env.set i (.val d)) where
  g := S.g
  len := by simp [S.len]
  val := fun j e h => by
    by_cases q : i = j
    · subst q
      rw [List.getElem?_set] at h
      rw [List.getElem?_set]
      have l := S.len
      split at h
      · split at h
        · cases h
          refine ⟨v, ?_, r⟩
          simp_all
        · cases h
      · rename_i z; exact absurd rfl z
    · rw [List.getElem?_set_ne q] at h
      rw [List.getElem?_set_ne q]
      exact S.val j e h
  own := fun j e h => by
    by_cases q : i = j
    · subst q
      rw [List.getElem?_set] at h
      split at h
      · split at h <;> cases h
      · rename_i z; exact absurd rfl z
    · rw [List.getElem?_set_ne q] at h
      rw [List.getElem?_set_ne q]
      exact S.own j e h
  dist := fun j k e u h1 h2 => by
    have t : ∀ (j : Nat) (e : OB), (env.set i (.val d))[j]? = some (.own e) → env[j]? = some (.own e) := fun j e h => by
      by_cases q : i = j
      · subst q
        rw [List.getElem?_set] at h
        split at h
        · split at h <;> cases h
        · rename_i z; exact absurd rfl z
      · rw [List.getElem?_set_ne q] at h; exact h
    exact S.dist j k e u (t _ _ h1) (t _ _ h2)
  fix := S.fix
/-- the slot of what is owned, given up -/
theorem Sig.give (S : Sig K b F oa σ H env) (e : env[i]? = some (.own o)) : ∃ F', Sig K b F' oa σ H (env.set i (.val o.d)) ∧ Ex F F' := by
  obtain ⟨h1, h2, h3, h4⟩ := S.own i o e
  obtain ⟨u, hu, r⟩ := h4.give h2
  refine ⟨upd F (oa i) u, ⟨S.g.give h2 h3 hu, by simp [S.len], fun j w h => ?_, fun j w h => ?_, fun j k w x p q z => ?_, S.fix⟩, Ex.new h2⟩
  · by_cases q : i = j
    · subst q
      rw [List.getElem?_set] at h
      split at h
      · split at h
        · cases h; exact ⟨_, h1, r⟩
        · cases h
      · rename_i z; exact absurd rfl z
    · rw [List.getElem?_set_ne q] at h
      obtain ⟨v, x, y⟩ := S.val j w h
      exact ⟨v, x, y.mono (Ex.new h2)⟩
  · by_cases q : i = j
    · subst q
      rw [List.getElem?_set] at h
      split at h
      · split at h <;> cases h
      · rename_i z; exact absurd rfl z
    · rw [List.getElem?_set_ne q] at h
      obtain ⟨x1, x2, x3, x4⟩ := S.own j w h
      refine ⟨x1, ?_, x3, x4.mono (Ex.new h2) fun _ y => y⟩
      rw [upd_ne fun z => q (S.dist j i w o h e z).symm]
      exact x2
  · have t : ∀ (j : Nat) (e : OB), (env.set i (.val o.d))[j]? = some (.own e) → env[j]? = some (.own e) := fun j e h => by
      by_cases q : i = j
      · subst q
        rw [List.getElem?_set] at h
        split at h
        · split at h <;> cases h
        · rename_i z; exact absurd rfl z
      · rw [List.getElem?_set_ne q] at h; exact h
    exact S.dist j k w x (t _ _ p) (t _ _ q) z
/-- less is known: every slot as it was, or not told -/
def Env.le : Env → Env → Prop
  | [], [] => True
  | a :: r, b :: s => (b = .any ∨ b = a) ∧ Env.le r s
  | _, _ => False
theorem Env.le.get : ∀ {env env' : Env} {i : Nat} {x : EV}, Env.le env env' → env'[i]? = some x → x = .any ∨ env[i]? = some x
  | [], [], _, _, _, h => by simp at h
  | _ :: _, _ :: _, 0, _, l, h => by
    simp at h; subst h
    rcases l.1 with q | q
    · exact .inl q
    · exact .inr (by rw [q]; rfl)
  | _ :: r, _ :: s, i + 1, _, l, h => by
    rcases Env.le.get (i := i) l.2 (by simpa using h) with q | q
    · exact .inl q
    · exact .inr (by simpa using q)
  | [], _ :: _, _, _, l, _ => l.elim
  | _ :: _, [], _, _, l, _ => l.elim
theorem Env.le.length : ∀ {env env' : Env}, Env.le env env' → env.length = env'.length
  | [], [], _ => rfl
  | _ :: _, _ :: _, l => by rw [List.length_cons, List.length_cons, Env.le.length l.2]
  | [], _ :: _, l => l.elim
  | _ :: _, [], l => l.elim
theorem Env.le.rfl : ∀ {env : Env}, Env.le env env
  | [] => trivial
  | _ :: _ => ⟨.inr (by rfl), Env.le.rfl⟩
theorem Sig.le (S : Sig K b F oa σ H env) (l : Env.le env env') : Sig K b F oa σ H env' where
  g := S.g
  len := by rw [S.len, l.length]
  val := fun i d e => by
    rcases l.get e with q | q
    · cases q
    · exact S.val i d q
  own := fun i o e => by
    rcases l.get e with q | q
    · cases q
    · exact S.own i o q
  dist := fun i j o u e f z => by
    rcases l.get e with q | q
    · cases q
    · rcases l.get f with p | p
      · cases p
      · exact S.dist i j o u q p z
  fix := S.fix
/-- a new one that no slot owns stands from now on -/
theorem Sig.stand {a : Addr} {u : HO} (S : Sig K b F oa σ H env) (n : F a = none) (n0 : b.H a = none) (ne : ∀ (j : Nat) (o : OB), env[j]? = some (.own o) → oa j ≠ a) (h : H a = some u) : Sig K b (upd F a u) oa σ H env where
  g := S.g.give n n0 h
  len := S.len
  val := fun i d e => by
    obtain ⟨v, h1, h2⟩ := S.val i d e
    exact ⟨v, h1, h2.mono (Ex.new n)⟩
  own := fun i o e => by
    obtain ⟨h1, h2, h3, h4⟩ := S.own i o e
    exact ⟨h1, by rw [upd_ne (ne i o e)]; exact h2, h3, h4.mono (Ex.new n) fun _ q => q⟩
  dist := S.dist
  fix := S.fix
end
end DL

namespace DL
open PySem L2

/-- what an expression gives: data that stands, or what a slot owns -/
inductive Res where
  | val (d : D) | slot (i : Nat)
def RR (K : PySem.W.Frag) (F : Hp) (oa : Nat → Addr) (v : V) : Res → Prop
  | .val d => Rep K F v d
  | .slot i => v = .ref (oa i)
/-- it reads as d -/
def Rd (env : Env) : Res → D → Prop
  | .val d, e => d = e
  | .slot i, e => ∃ o, env[i]? = some (.own o) ∧ o.d = e
section
variable {K : PySem.W.Frag} {b : Bs} {F F' H : Hp} {oa : Nat → Addr} {σ : L2.St} {env env' : Env} {v : V} {r : Res} {d : D} {l : List D}
theorem RR.mono (h : RR K F oa v r) (e : Ex F F') : RR K F' oa v r := by
  cases r with
  | val d => exact Rep.mono e h
  | slot i => exact h
theorem Rd.lst' (S : Sig K b F oa σ H env) (h : RR K F oa v r) (q : Rd env r (.lst l)) : ∃ a vs, v = .ref a ∧ H a = some (.lst vs) ∧ RepL K F vs l := by
  cases r with
  | val d =>
    cases (show d = .lst l from q)
    cases h with
    | lst x y => exact ⟨_, _, rfl, S.g.fh _ _ x, y⟩
  | slot i =>
    obtain ⟨o, e, z⟩ := q
    obtain ⟨_, _, _, x⟩ := S.own i o e
    cases o with
    | lst l' =>
      cases z
      obtain ⟨vs, x1, x2⟩ := x
      exact ⟨_, vs, h, x1, x2⟩
    | dic _ => cases z
    | dit _ => cases z
    | obj _ _ => cases z
theorem Rd.scr (S : Sig K b F oa σ H env) (h : RR K F oa v r) (q : Rd env r (.scr l)) : ∃ a vs, v = .ref a ∧ SqL K H a vs ∧ RepL K F vs l := by
  cases r with
  | val d =>
    cases (show d = .scr l from q)
    cases h with
    | scr x y => exact ⟨_, _, rfl, S.g.fh.l x, y⟩
  | slot i =>
    obtain ⟨o, e, z⟩ := q
    cases o <;> cases z
/-- a list to be read: one of the call's own, or the script -/
def RdL (env : Env) (r : Res) (k : List D) : Prop := Rd env r (.lst k) ∨ Rd env r (.scr k)
theorem RdL.g (S : Sig K b F oa σ H env) (h : RR K F oa v r) (q : RdL env r l) : ∃ a vs, v = .ref a ∧ SqL K H a vs ∧ RepL K F vs l := by
  rcases q with q | q
  · obtain ⟨a, vs, e, s, p⟩ := Rd.lst' S h q
    exact ⟨a, vs, e, .inl (.inl s), p⟩
  · exact Rd.scr S h q
theorem Rd.tup (S : Sig K b F oa σ H env) (h : RR K F oa v r) (q : Rd env r (.tup l)) : ∃ a vs, v = .ref a ∧ SqT K H a vs ∧ RepL K F vs l := by
  cases r with
  | val d =>
    cases (show d = .tup l from q)
    cases h with
    | tup x y => exact ⟨_, _, rfl, S.g.fh.t x, y⟩
  | slot i =>
    obtain ⟨o, e, z⟩ := q
    cases o <;> cases z
theorem Rd.flat (h : RR K F oa v r) (q : Rd env r d) (f : flat d = true) : Rep K F v d := by
  cases r with
  | val e => cases (show e = d from q); exact h
  | slot i =>
    obtain ⟨o, e, z⟩ := q
    cases o <;> (subst z; cases f)
/-- read as it stands in the whole heap -/
theorem Rd.rep (S : Sig K b F oa σ H env) (h : RR K F oa v r) (q : Rd env r d) : Rep K H v d := by
  cases r with
  | val e => cases (show e = d from q); exact Rep.mono S.g.fh h
  | slot i =>
    obtain ⟨o, e, z⟩ := q
    subst z
    cases (show v = .ref (oa i) from h)
    obtain ⟨_, _, _, x⟩ := S.own i o e
    cases o with
    | lst l' => obtain ⟨vs, x1, x2⟩ := x; exact .lst x1 (x2.mono S.g.fh)
    | dic l' => obtain ⟨ks, vs, ds, x1, x2, x3, x4⟩ := x; subst x4; exact .dic x1 x2 (x3.mono S.g.fh)
    | dit l' => obtain ⟨ks, vs, ds, x1, x2, x3, x4⟩ := x; subst x4; exact .dit x1 x2 (x3.mono S.g.fh)
    | obj C fs => obtain ⟨dx, ks, vs, ds, x1, x2, x3, x4⟩ := x; subst x4; exact .obj x1 x2 (x3.mono S.g.fh)
end

/-- what a step leaves: what stands stands; what no slot owns is as it was -/
structure Stp (oa : Nat → Addr) (env : Env) (F H : Hp) (env' : Env) (F' H' : Hp) : Prop where
  ff : Ex F F'
  kp : ∀ a u, H a = some u → (∀ (j : Nat) (o : OB), env[j]? = some (.own o) → oa j ≠ a) → H' a = some u
  gn : ∀ a, F' a ≠ none → F a ≠ none ∨ H a = none
  th : ∀ a, H a ≠ none → H' a ≠ none
  sub : ∀ (j : Nat) (o : OB), env'[j]? = some (.own o) → ∃ o', env[j]? = some (.own o')
section
variable {K : PySem.W.Frag} {b : Bs} {F F1 F2 H H1 H2 : Hp} {oa : Nat → Addr} {σ : L2.St} {env e1 e2 : Env} {p : Addr} {u : HO}
theorem Stp.refl : Stp oa env F H env F H := ⟨Ex.refl _, fun _ _ h _ => h, fun _ h => .inl h, fun _ h => h, fun j o h => ⟨o, h⟩⟩
theorem Stp.trans (x : Stp oa env F H e1 F1 H1) (y : Stp oa e1 F1 H1 e2 F2 H2) : Stp oa env F H e2 F2 H2 := ⟨x.ff.trans y.ff, fun a u h n => y.kp a u (x.kp a u h n) fun j o e => by
    obtain ⟨o', e'⟩ := x.sub j o e
    exact n j o' e', fun a h => by
    rcases y.gn a h with z | z
    · exact x.gn a z
    · refine .inr ?_
      cases w : H a with
      | none => rfl
      | some v => exact absurd z (x.th a (by rw [w]; simp)), fun a h => y.th a (x.th a h), fun j o e => by
    obtain ⟨o', e'⟩ := y.sub j o e
    exact x.sub j o' e'⟩
theorem Stp.new (n : H p = none) (nf : F p = none) : Stp oa env F H env (upd F p u) (upd H p u) := ⟨Ex.new nf, fun a v h _ => Ex.new n a v h, fun a h => by
    by_cases q : a = p
    · subst q; exact .inr n
    · rw [upd_ne q] at h; exact .inl h, fun a h z => h ((Ex.new n).back z), fun j o e => ⟨o, e⟩⟩
theorem Stp.newH (n : H p = none) : Stp oa env F H env F (upd H p u) := ⟨Ex.refl _, fun a v h _ => Ex.new n a v h, fun a h => .inl h, fun a h z => h ((Ex.new n).back z), fun j o e => ⟨o, e⟩⟩
theorem Stp.none (x : Stp oa env F H e1 F1 H1) (n : H1 p = none) : H p = none := by
  cases w : H p with
  | none => rfl
  | some v => exact absurd n (x.th p (by rw [w]; simp))
end

def Ev (K : PySem.W.Frag) (te : TE) (env : Env) (r : Res) (env' : Env) : Prop := ∀ (b : Bs) (F : Hp) (oa : Nat → Addr) (σ : L2.St) (H : Hp), Sig K b F oa σ H env → ∀ Q : VK,
  (∀ v F' H', Sig K b F' oa σ H' env' → Stp oa env F H env' F' H' → RR K F' oa v r → Q v H') → te σ H Q
/-- a new object that nobody has yet -/
def NewAt (K : PySem.W.Frag) (b : Bs) (F : Hp) (oa : Nat → Addr) (H : Hp) (env : Env) (a : Addr) (o : OB) : Prop :=
  F a = none ∧ b.H a = none ∧ (∀ (j : Nat) (u : OB), env[j]? = some (.own u) → oa j ≠ a) ∧ (∀ j, b.fx j ≠ some a) ∧ ORep K F H a o
def EvN (K : PySem.W.Frag) (te : TE) (env : Env) (o : OB) (env' : Env) : Prop := ∀ (b : Bs) (F : Hp) (oa : Nat → Addr) (σ : L2.St) (H : Hp), Sig K b F oa σ H env → ∀ Q : VK,
  (∀ a F' H', Sig K b F' oa σ H' env' → Stp oa env F H env' F' H' → H a = none → NewAt K b F' oa H' env' a o → Q (.ref a) H') → te σ H Q
def RRs (K : PySem.W.Frag) (F : Hp) (oa : Nat → Addr) : List V → List Res → Prop
  | [], [] => True
  | v :: vs, r :: rs => RR K F oa v r ∧ RRs K F oa vs rs
  | _, _ => False
theorem RRs.mono {K : PySem.W.Frag} {F F' : Hp} {oa : Nat → Addr} (e : Ex F F') : ∀ {vs : List V} {rs : List Res}, RRs K F oa vs rs → RRs K F' oa vs rs
  | [], [], _ => trivial
  | _ :: _, _ :: _, h => ⟨h.1.mono e, RRs.mono e h.2⟩
  | [], _ :: _, h => h.elim
  | _ :: _, [], h => h.elim
section
variable {K : PySem.W.Frag} {te ta tb tc : TE} {t u : TT} {env e1 e2 e3 : Env} {r r1 r2 : Res} {d : D} {o : OB} {i j : Nat} {n m : Int}
theorem Ev.give (h : EvN K te env o e1) : Ev K te env (.val o.d) e1 := fun b F oa σ H S Q k => h b F oa σ H S Q fun a F' H' S' e na ⟨n, n0, ne, _, x⟩ => by
  obtain ⟨u, hu, r⟩ := x.give n
  refine k _ _ _ (S'.stand n n0 ne hu) ⟨e.ff.trans (Ex.new n), e.kp, fun c h => ?_, e.th, e.sub⟩ r
  by_cases q : c = a
  · subst q; exact .inr na
  · rw [upd_ne q] at h; exact e.gn c h
end
end DL

namespace DL
open PySem L2

/-! ### operators by all that they serve -/
theorem OpR.or {X : Cx} {f : Value → Value → Sem Value} {r1 r2 : R2} (h1 : OpR X f r1) (h2 : OpR X f r2) : OpR X f (fun x y H Q => r1 x y H Q ∨ r2 x y H Q) := by
  intro pins s σ H x y v u Q I rx ry h
  rcases h with h | h
  · exact h1 pins s σ H x y v u Q I rx ry h
  · exact h2 pins s σ H x y v u Q I rx ry h
theorem CallR.or {X : Cx} {f : Value} {r1 r2 : List V → Hp → VK → Prop} (h1 : CallR X f r1) (h2 : CallR X f r2) : CallR X f (fun xs H Q => r1 xs H Q ∨ r2 xs H Q) := by
  intro pins s σ H xs us Q I r h
  rcases h with h | h
  · exact h1 pins s σ H xs us Q I r h
  · exact h2 pins s σ H xs us Q I r h
def rS : R2 := fun x y H Q => ∃ i j, x = .str i ∧ y = .str j ∧ i.length + j.length ≤ sizeLine ∧ Q (.str (i ++ j)) H
def rAddU (K : PySem.W.Frag) : R2 := fun x y H Q => rI0 (fun i j => .int (i + j)) x y H Q ∨ (rS x y H Q ∨ (rCatA K x y H Q ∨ rCat x y H Q))
theorem op_addU {X : Cx} {K : PySem.W.Frag} (e : X.K = K := by rfl) : OpR X (binaryOp .Add) (rAddU K) := by subst e; exact OpR.or op_add (OpR.or op_add_str (OpR.or op_catA op_cat))
def rSubU : R2 := rI0 fun i j => .int (i - j)
theorem op_subU {X : Cx} : OpR X (binaryOp .Sub) rSubU := op_sub
def rMulU : R2 := fun x y H Q => rI CMul (fun i j => .int (i * j)) x y H Q ∨ (rI CMulX (fun i j => .int (i * j)) x y H Q ∨ rRep x y H Q)
theorem op_mulU {X : Cx} : OpR X (binaryOp .Mult) rMulU := OpR.or op_mul (OpR.or op_mulX op_rep)
def rDivU : R2 := rI CDivW fun i j => .int (i / j)
theorem op_divU {X : Cx} : OpR X (binaryOp .FloorDiv) rDivU := op_fdivW
def rModU : R2 := rI (fun _ j => 0 < j) fun i j => .int (i % j)
theorem op_modU {X : Cx} : OpR X (binaryOp .Mod) rModU := op_mod
def rPowU : R2 := rI CPow fun i j => .int (i ^ j.toNat)
theorem op_powU {X : Cx} : OpR X (binaryOp .Pow) rPowU := op_pow
def rShlU : R2 := rI CShl fun i j => .int (i * 2 ^ j.toNat)
theorem op_shlU {X : Cx} : OpR X (binaryOp .LShift) rShlU := op_shlW
def rShrU : R2 := rI (fun _ j => 0 ≤ j) fun i j => .int (i / 2 ^ j.toNat)
theorem op_shrU {X : Cx} : OpR X (binaryOp .RShift) rShrU := op_shr
def rAndU : R2 := rI0 fun i j => .int (Builtin.bitAnd i j)
theorem op_andU {X : Cx} : OpR X (binaryOp .BitAnd) rAndU := op_and
def rOrU : R2 := rI0 fun i j => .int (Builtin.bitOr i j)
theorem op_orU {X : Cx} : OpR X (binaryOp .BitOr) rOrU := op_or
def rXorU : R2 := rI0 fun i j => .int (Builtin.bitXor i j)
theorem op_xorU {X : Cx} : OpR X (binaryOp .BitXor) rXorU := op_xor
def rLtU : R2 := rI0 fun i j => .bl (decide (i < j))
def rLeU : R2 := rI0 fun i j => .bl (decide (i ≤ j))
def rGtU : R2 := rI0 fun i j => .bl (decide (j < i))
def rGeU : R2 := rI0 fun i j => .bl (decide (j ≤ i))
theorem op_ltU {X : Cx} : OpR X (compareOp .Lt) rLtU := op_lt
theorem op_leU {X : Cx} : OpR X (compareOp .LtE) rLeU := op_le
theorem op_gtU {X : Cx} : OpR X (compareOp .Gt) rGtU := op_gt
theorem op_geU {X : Cx} : OpR X (compareOp .GtE) rGeU := op_ge
def rIsNn : R2 := fun x y H Q => y = .non ∧ Q (.bl (decide (x = .non))) H
def rNotNn : R2 := fun x y H Q => y = .non ∧ Q (.bl (!decide (x = .non))) H
def rIsU : R2 := fun x y H Q => rIsNn x y H Q ∨ rIsB x y H Q
def rNotU : R2 := fun x y H Q => rNotNn x y H Q ∨ rNotB x y H Q
theorem op_isU {X : Cx} : OpR X (compareOp .Is) rIsU := OpR.or op_isN op_isBl
theorem op_notU {X : Cx} : OpR X (compareOp .IsNot) rNotU := OpR.or op_notN op_notBl
def rLen1 (K : PySem.W.Frag) : List V → Hp → VK → Prop := fun xs H Q => ∃ x n, xs = [x] ∧ LenV K x H n ∧ Q (.int n) H
def rLen2 : List V → Hp → VK → Prop := fun xs H Q => ∃ a kvs, xs = [V.ref a] ∧ H a = some (.dK kvs) ∧ Q (.int kvs.length) H
def rLenU (K : PySem.W.Frag) : List V → Hp → VK → Prop := fun xs H Q => rLen1 K xs H Q ∨ rLen2 xs H Q
theorem call_lenU {X : Cx} {K : PySem.W.Frag} (e : X.K = K := by rfl) : CallR X (.builtin "len") (rLenU K) := by subst e; exact CallR.or call_len call_lenD
theorem call_allU {X : Cx} {K : PySem.W.Frag} (hc : X.calm = true) (e : X.K = K := by rfl) : CallR X (.builtin "all") (rAll K) := by subst e; exact cr_all hc
theorem call_sumU {X : Cx} {K : PySem.W.Frag} (hc : X.calm = true) (e : X.K = K := by rfl) : CallR X (.builtin "sum") (rSum K) := by subst e; exact cr_sum hc
theorem ix_U {X : Cx} {K : PySem.W.Frag} (e : X.K = K := by rfl) : IxR X (rIx K) := by subst e; exact ix_seq
def rAbs : List V → Hp → VK → Prop := fun xs H Q => ∃ i, xs = [.int i] ∧ Q (.int (if i < 0 then -i else i)) H
theorem call_absU {X : Cx} : CallR X (.builtin "abs") rAbs := call_abs
def rMax2 : List V → Hp → VK → Prop := fun xs H Q => ∃ i j, xs = [.int i, .int j] ∧ Q (.int (if j > i then j else i)) H
def rMin2 : List V → Hp → VK → Prop := fun xs H Q => ∃ i j, xs = [.int i, .int j] ∧ Q (.int (if j < i then j else i)) H
theorem call_max2U {X : Cx} (hc : X.calm = true) : CallR X (.builtin "max") rMax2 := call_max2 hc
theorem call_min2U {X : Cx} (hc : X.calm = true) : CallR X (.builtin "min") rMin2 := call_min2 hc
def rInt1 : List V → Hp → VK → Prop := fun xs H Q => (∃ i, xs = [.int i] ∧ Q (.int i) H) ∨ ∃ k, xs = [.bl k] ∧ Q (.int (if k then 1 else 0)) H
theorem call_intU {X : Cx} : CallR X (.type "int") rInt1 := call_int1
def rListOf (K : PySem.W.Frag) : List V → Hp → VK → Prop := fun xs H Q => ∃ p ys, xs = [.ref p] ∧ (SqL K H p ys ∨ SqT K H p ys) ∧ ∀ l, H l = none → Q (.ref l) (upd H l (.lst ys))
theorem call_listU {X : Cx} {K : PySem.W.Frag} (e : X.K = K := by rfl) : CallR X (.type "list") (rListOf K) := by subst e; exact call_list_of
def rTupleOf (K : PySem.W.Frag) : List V → Hp → VK → Prop := fun xs H Q => ∃ p ys, xs = [.ref p] ∧ ((SqL K H p ys ∧ ∀ l, H l = none → Q (.ref l) (upd H l (.tup ys))) ∨ (SqT K H p ys ∧ Q (.ref p) H))
theorem call_tupleU {X : Cx} {K : PySem.W.Frag} (e : X.K = K := by rfl) : CallR X (.type "tuple") (rTupleOf K) := by subst e; exact call_tuple_of
def rSlU (K : PySem.W.Frag) : V → Option Int → Option Int → Hp → VK → Prop := fun x lo hi H Q => rSlL K x lo hi H Q ∨ (rSlA K x lo hi H Q ∨ rSlS x lo hi H Q)
theorem SlR.or {X : Cx} {r1 r2 : V → Option Int → Option Int → Hp → VK → Prop} (h1 : SlR X r1) (h2 : SlR X r2) : SlR X (fun x l u H Q => r1 x l u H Q ∨ r2 x l u H Q) := by
  intro pins s σ H x v vl vu l u sl Q I rx hs pl pu h
  rcases h with h | h
  · exact h1 pins s σ H x v vl vu l u sl Q I rx hs pl pu h
  · exact h2 pins s σ H x v vl vu l u sl Q I rx hs pl pu h
theorem sl_U {X : Cx} {K : PySem.W.Frag} (e : X.K = K := by rfl) : SlR X (rSlU K) := by subst e; exact SlR.or sl_list (SlR.or sl_tupA sl_str)

/-! ### PyData of data -/
mutual
def py : D → Option PyData
  | .non => some .none
  | .bl b => some (.bool b)
  | .int i => some (.int i)
  | .str x => some (.str x)
  | .tup l => (pys l).map .tuple
  | .lst l => (pys l).map .list
  | .ty _ => none
  | .scr _ => none
  | .ref _ => none
  | .dic _ => none
  | .dit _ => none
  | .obj _ _ => none
  | .exc _ => none
def pys : List D → Option (List PyData)
  | [] => some []
  | d :: r => match py d, pys r with
    | some x, some y => some (x :: y)
    | _, _ => none
end
mutual
theorem Rep.dp {K : PySem.W.Frag} {H : Hp} : ∀ {v : V} {d : D} {p : PyData}, Rep K H v d → py d = some p → Dp K H v p
  | _, _, _, .non, e => by unfold py at e; cases e; exact .non
  | _, _, _, .bl b, e => by unfold py at e; cases e; exact .bl b
  | _, _, _, .int b, e => by unfold py at e; cases e; exact .int b
  | _, _, _, .str b, e => by unfold py at e; cases e; exact .str b
  | _, _, _, .tup (l := l) h r, e => by
    unfold py at e
    cases q : pys l with
    | none => rw [q] at e; cases e
    | some x => rw [q] at e; cases e; exact .tup h (RepL.dp r q)
  | _, _, _, .lst (l := l) h r, e => by
    unfold py at e
    cases q : pys l with
    | none => rw [q] at e; cases e
    | some x => rw [q] at e; cases e; exact .lst (.inl (.inl h)) (RepL.dp r q)
  | _, _, _, .ty _, e => by unfold py at e; cases e
  | _, _, _, .scr _ _, e => by unfold py at e; cases e
  | _, _, _, .ref _, e => by unfold py at e; cases e
  | _, _, _, .dic _ _ _, e => by unfold py at e; cases e
  | _, _, _, .dit _ _ _, e => by unfold py at e; cases e
  | _, _, _, .obj _ _ _, e => by unfold py at e; cases e
  | _, _, _, .exc _, e => by unfold py at e; cases e
theorem RepL.dp {K : PySem.W.Frag} {H : Hp} : ∀ {vs : List V} {ds : List D} {ps : List PyData}, RepL K H vs ds → pys ds = some ps → DpAll K H vs ps
  | _, _, _, .nil, e => by unfold pys at e; cases e; exact .nil
  | _, _, _, .cons (d := d) (ds := ds) h r, e => by
    unfold pys at e
    cases q1 : py d with
    | none => rw [q1] at e; cases e
    | some x =>
      cases q2 : pys ds with
      | none => rw [q1, q2] at e; cases e
      | some y => rw [q1, q2] at e; cases e; exact .cons (Rep.dp h q1) (RepL.dp r q2)
end
section
variable {K : PySem.W.Frag} {te ta tb tc : TE} {t u : TT} {env e1 e2 e3 : Env} {r r1 r2 : Res} {d d1 d2 : D} {o : OB} {i j : Int} {x y : Str} {c c1 c2 : Bool} {l m : List D}
/-! ### operators -/
def isNon : D → Bool
  | .non => true
  | _ => false
theorem rep_non {F : Hp} {v : V} (h : Rep K F v d) : decide (v = V.non) = isNon d := by
  cases h <;> first | rfl | simp [isNon]
/-! ### tests -/
/-! ### calls of built-ins -/
end
end DL

namespace DL
open PySem L2

section
variable {K : PySem.W.Frag} {te ta tb tc : TE} {t u : TT} {env e1 e2 e3 : Env} {r r1 r2 : Res} {d d1 d2 : D} {o : OB} {i j : Int} {x y : Str} {c c1 c2 : Bool} {l m : List D}
/-! ### isinstance -/
/-! ### subscripts -/
def cutD {α : Type} (xs : List α) (lo hi : Option Int) : List α := (xs.drop (HT.sIx xs.length 0 lo)).take (HT.sIx xs.length xs.length hi - HT.sIx xs.length 0 lo)
theorem cut_rep {F : Hp} {vs : List V} {lo hi : Option Int} (h : RepL K F vs l) : RepL K F (cutV vs lo hi) (cutD l lo hi) := by
  unfold cutV cutD
  rw [h.length]
  exact (h.drop _).take _
/-! ### displays, list(..), tuple(..), + -/
/-! ### what is walked -/
/-- both: for x in e, by what e is -/
def iSeqU (K : PySem.W.Frag) (te : TE) : TI := fun σ H R => iList K te σ H R ∨ (iTup K te σ H R ∨ iStr te σ H R)
theorem PI.or {X : Cx} {tg e : Expr} {w1 w2 : TI} (h1 : PI X tg e w1) (h2 : PI X tg e w2) : PI X tg e (fun σ H R => w1 σ H R ∨ w2 σ H R) := ⟨fun pins s σ H R I h => by
  rcases h with h | h
  · exact h1.run pins s σ H R I h
  · exact h2.run pins s σ H R I h⟩
theorem pi_seqU {X : Cx} {K : PySem.W.Frag} {tg e : Expr} {te : TE} (h : PE X e te) (q : X.K = K := by rfl) : PI X tg e (iSeqU K te) := by subst q; exact PI.or (pi_list h) (PI.or (pi_tup h) (pi_str h))
/-- the ints of a range -/
def rng (lo : Int) (n : Nat) : List D := (List.range n).map fun i => .int (lo + (i : Nat))
def rngC (lo c : Int) (n : Nat) : List D := (List.range n).map fun i => .int (lo + (i : Nat) * c)
theorem rng_get {lo : Int} {n i : Nat} {d : D} (h : (rng lo n)[i]? = some d) : d = .int (lo + (i : Nat)) ∧ i < n := by
  unfold rng at h
  rw [List.getElem?_map] at h
  by_cases q : i < n
  · rw [List.getElem?_range q] at h; cases h; exact ⟨rfl, q⟩
  · rw [List.getElem?_eq_none (by simpa using Nat.le_of_not_lt q)] at h; cases h
theorem rngC_get {lo c : Int} {n i : Nat} {d : D} (h : (rngC lo c n)[i]? = some d) : d = .int (lo + (i : Nat) * c) ∧ i < n := by
  unfold rngC at h
  rw [List.getElem?_map] at h
  by_cases q : i < n
  · rw [List.getElem?_range q] at h; cases h; exact ⟨rfl, q⟩
  · rw [List.getElem?_eq_none (by simpa using Nat.le_of_not_lt q)] at h; cases h
theorem rng_len {lo : Int} {n : Nat} : (rng lo n).length = n := by unfold rng; simp
theorem rngC_len {lo c : Int} {n : Nat} : (rngC lo c n).length = n := by unfold rngC; simp
end
end DL

namespace DL
open PySem L2

/-! ### targets -/
section
variable {K : PySem.W.Frag} {te ta tb tc : TE} {t u : TT} {env env' e1 e2 e3 : Env} {r r1 r2 : Res} {d d1 d2 : D} {o : OB} {i j : Nat} {c c1 c2 : Bool} {l m : List D} {g : TG}
/-! ### comprehensions -/
def wipeE (env : Env) : List Nat → Env
  | [] => env
  | v :: vs => (wipeE env vs).set v .any
theorem wipeE_len (env : Env) : ∀ vs : List Nat, (wipeE env vs).length = env.length
  | [] => rfl
  | v :: vs => by unfold wipeE; rw [List.length_set, wipeE_len env vs]
theorem wipeE_get {x : EV} : ∀ {vs : List Nat} {i : Nat}, (wipeE env vs)[i]? = some x → x = .any ∨ (i ∉ vs ∧ env[i]? = some x)
  | [], i, h => .inr ⟨by simp, h⟩
  | v :: vs, i, h => by
    unfold wipeE at h
    by_cases q : v = i
    · subst q
      rw [List.getElem?_set] at h
      split at h
      · split at h
        · cases h; exact .inl rfl
        · cases h
      · rename_i z; exact absurd rfl z
    · rw [List.getElem?_set_ne q] at h
      rcases wipeE_get h with z | ⟨z1, z2⟩
      · exact .inl z
      · exact .inr ⟨by simp only [List.mem_cons, not_or]; exact ⟨fun z => q z.symm, z1⟩, z2⟩
theorem wipe_out {σ : L2.St} : ∀ {vs : List Nat} {i : Nat}, i ∉ vs → (wipe σ vs)[i]? = σ[i]?
  | [], _, _ => rfl
  | v :: vs, i, h => by
    simp only [List.mem_cons, not_or] at h
    unfold wipe
    rw [List.getElem?_set_ne (Ne.symm h.1), wipe_out h.2]
theorem Sig.wiped {b : Bs} {F : Hp} {oa : Nat → Addr} {σ : L2.St} {H : Hp} (S : Sig K b F oa σ H env) (vs : List Nat) : Sig K b F oa (L2.wipe σ vs) H (wipeE env vs) where
  g := S.g
  len := by rw [wipe_length, wipeE_len, S.len]
  val := fun i d e => by
    rcases wipeE_get e with q | ⟨q, e⟩
    · cases q
    · rw [wipe_out q]; exact S.val i d e
  own := fun i o e => by
    rcases wipeE_get e with q | ⟨q, e⟩
    · cases q
    · rw [wipe_out q]; exact S.own i o e
  dist := fun i j o u e f z => by
    rcases wipeE_get e with q | ⟨_, e⟩
    · cases q
    · rcases wipeE_get f with q | ⟨_, f⟩
      · cases q
      · exact S.dist i j o u e f z
  fix := S.fix
/-- behind a turn: the slots vs as they were ahead, the others as they are -/
def back (vs : List Nat) : Nat → Env → Env → Env
  | n, a :: r, x :: s => (if vs.contains n then a else x) :: back vs (n + 1) r s
  | _, _, _ => []
theorem back_get {vs : List Nat} : ∀ {env e2 : Env} {n i : Nat}, env.length = e2.length → (back vs n env e2)[i]? = if vs.contains (n + i) then env[i]? else e2[i]?
  | [], [], _, i, _ => by unfold back; simp
  | [], _ :: _, _, _, h => by simp at h
  | _ :: _, [], _, _, h => by simp at h
  | a :: r, x :: s, n, 0, _ => by
    unfold back
    rw [Nat.add_zero]
    show some (if vs.contains n = true then a else x) = if vs.contains n = true then some a else some x
    split <;> rfl
  | a :: r, x :: s, n, i + 1, h => by
    unfold back
    rw [List.getElem?_cons_succ, back_get (by simpa using h), show n + 1 + i = n + (i + 1) by omega]
    rfl
def noOwn (vs : List Nat) (env : Env) : Prop := ∀ (i : Nat) (o : OB), i ∈ vs → env[i]? ≠ some (.own o)
/-- what a turn in the block leaves, told of the slots outside -/
theorem Stp.block {oa : Nat → Addr} {vs : List Nat} {F H F' H' : Hp} (x : Stp oa (wipeE env vs) F H e2 F' H') (n : noOwn vs env) (hl : env.length = e2.length) : Stp oa env F H (back vs 0 env e2) F' H' where
  ff := x.ff
  kp := fun a u h q => x.kp a u h fun j o e => by
    rcases wipeE_get e with z | ⟨_, z⟩
    · cases z
    · exact q j o z
  gn := x.gn
  th := x.th
  sub := fun j o e => by
    rw [back_get hl, Nat.zero_add] at e
    by_cases w : j ∈ vs
    · rw [if_pos (by simpa using w)] at e; exact absurd e (n j o w)
    · rw [if_neg (by simpa using w)] at e
      obtain ⟨o', e'⟩ := x.sub j o e
      rcases wipeE_get e' with z | ⟨_, z⟩
      · cases z
      · exact ⟨o', z⟩
end
end DL

namespace DL
open PySem L2

/-- what a def hands back -/
inductive Ret where
  | val (d : D) | new (o : OB) | exc (C : Addr)
def RetR (K : PySem.W.Frag) (b : Bs) (F : Hp) (H : Hp) (v : V) : Ret → Prop
  | .val d => Rep K F v d
  | .new o => ∃ a, v = .ref a ∧ F a = none ∧ b.H a = none ∧ (∀ j, b.fx j ≠ some a) ∧ ORep K F H a o
  | .exc _ => False
structure Sat (K : PySem.W.Frag) (b : Bs) (F : Hp) (W : WX) (D : Ends) (N B C : Env → Prop) (R : Ret → Env → Prop) : Prop where
  nx : ∀ env F' oa σ H, N env → Sig K b F' oa σ H env → Ex F F' → D.nx σ H
  bk : ∀ env F' oa σ H, B env → Sig K b F' oa σ H env → Ex F F' → D.bk σ H
  ct : ∀ env F' oa σ H, C env → Sig K b F' oa σ H env → Ex F F' → D.ct σ H
  rt : ∀ r env F' oa σ H v, R r env → Sig K b F' oa σ H env → Ex F F' → RetR K b F' H v r → D.rt v H
  xc : ∀ X env F' oa σ H, R (.exc X) env → Sig K b F' oa σ H env → Ex F F' → W (.ref X) none σ H
theorem Sat.mono {K : PySem.W.Frag} {b : Bs} {F F1 : Hp} {W : WX} {D : Ends} {N B C : Env → Prop} {R : Ret → Env → Prop} (s : Sat K b F W D N B C R) (e : Ex F F1) : Sat K b F1 W D N B C R :=
  ⟨fun env F' oa σ H h S x => s.nx env F' oa σ H h S (e.trans x), fun env F' oa σ H h S x => s.bk env F' oa σ H h S (e.trans x), fun env F' oa σ H h S x => s.ct env F' oa σ H h S (e.trans x), fun r env F' oa σ H v h S x q => s.rt r env F' oa σ H v h S (e.trans x) q, fun X env F' oa σ H h S x => s.xc X env F' oa σ H h S (e.trans x)⟩
/-- a statement: from env it goes on (N), breaks (B), continues (C), or hands back (R); pr: the slots whose objects were handed in to be changed -/
def Exec (K : PySem.W.Frag) (pr : List Nat) (W : WX) (t : TS) (env : Env) (N B C : Env → Prop) (R : Ret → Env → Prop) : Prop := ∀ (b : Bs) (F : Hp) (oa : Nat → Addr) (σ : L2.St) (H : Hp) (D : Ends),
  (∀ i, b.fx i ≠ none → i ∈ pr) → Sig K b F oa σ H env → Sat K b F W D N B C R → t D σ H

section
variable {K : PySem.W.Frag} {pr : List Nat} {W : WX} {te ta tb tc : TE} {t u : TT} {s s1 s2 : TS} {env env' e1 e2 e3 : Env} {r r1 r2 : Res} {d d1 d2 : D} {o : OB} {i j : Nat} {c c1 c2 : Bool} {l m : List D} {g : TG} {N N' B B' C C' : Env → Prop} {R R' : Ret → Env → Prop}
theorem x_mono (h : Exec K pr W s env N B C R) (hn : ∀ e, N e → N' e) (hb : ∀ e, B e → B' e) (hc : ∀ e, C e → C' e) (hr : ∀ r e, R r e → R' r e) : Exec K pr W s env N' B' C' R' := fun b F oa σ H D hp S st =>
  h b F oa σ H D hp S ⟨fun env F oa σ H h S => st.nx env F oa σ H (hn _ h) S, fun env F oa σ H h S => st.bk env F oa σ H (hb _ h) S, fun env F oa σ H h S => st.ct env F oa σ H (hc _ h) S, fun r env F oa σ H v h S x q => st.rt r env F oa σ H v (hr _ _ h) S x q, fun X env F oa σ H h S x => st.xc X env F oa σ H (hr _ _ h) S x⟩
end

/-! ### promises -/
/-- an argument: data, or an object handed in to be changed -/
inductive AV where
  | val (d : D) | own (o : OB)
structure ArgsR (K : PySem.W.Frag) (F H : Hp) (vs : List V) (as : List AV) : Prop where
  len : vs.length = as.length
  val : ∀ (i : Nat) (d : D), as[i]? = some (.val d) → ∃ v, vs[i]? = some v ∧ Rep K F v d
  own : ∀ (i : Nat) (o : OB), as[i]? = some (.own o) → ∃ a, vs[i]? = some (.ref a) ∧ F a = none ∧ ORep K F H a o
  dist : ∀ (i j : Nat) (o u : OB) (a : Addr), as[i]? = some (.own o) → as[j]? = some (.own u) → vs[i]? = some (.ref a) → vs[j]? = some (.ref a) → i = j
/-- an address of an object that was handed in to be changed -/
def ownA (vs : List V) (as : List AV) (a : Addr) : Prop := ∃ (i : Nat) (o : OB), as[i]? = some (.own o) ∧ vs[i]? = some (.ref a)
structure CallEnd (K : PySem.W.Frag) (F H F' H' : Hp) (vs : List V) (as as' : List AV) (v : V) (r : Ret) : Prop where
  ff : Ex F F'
  fh : Ex F' H'
  kp : ∀ a u, H a = some u → ¬ ownA vs as a → H' a = some u
  gn : ∀ a, F' a ≠ none → F a ≠ none ∨ H a = none
  th : ∀ a, H a ≠ none → H' a ≠ none
  own : ∀ (i : Nat) (o : OB), as[i]? = some (.own o) → ∃ o' a, as'[i]? = some (.own o') ∧ vs[i]? = some (.ref a) ∧ F' a = none ∧ ORep K F' H' a o'
  ret : match r with
    | .val d => Rep K F' v d
    | .new o => ∃ a, v = .ref a ∧ F' a = none ∧ H a = none ∧ ORep K F' H' a o
    | .exc _ => True
/-- what is wanted of what came -/
def outR (r : Ret) (E : XK) (Q : VK) (v : V) (H : Hp) : Prop := match r with
  | .exc C => E (.ref C) none H
  | _ => Q v H
/-- THE PROMISE: from arguments as it hands back r and leaves them as' -/
def SpG (K : PySem.W.Frag) (P : List AV → Ret → List AV → Prop) : Sp := fun vs H Q E => ∃ F as r as', Ex F H ∧ ArgsR K F H vs as ∧ P as r as' ∧ ∀ v F' H', CallEnd K F H F' H' vs as as' v r → outR r E Q v H'
def AV.ev : AV → EV
  | .val d => .val d
  | .own o => .own o
open Classical in
noncomputable def hideA (vs : List V) (as : List AV) (H : Hp) : Hp := fun a => if ownA vs as a then none else H a
theorem hideA_ex {vs : List V} {as : List AV} {H : Hp} : Ex (hideA vs as H) H := fun a o e => by
  unfold hideA at e
  split at e
  · cases e
  · exact e
/-- what was handed in is in its slots yet -/
def Held (as as' : List AV) (e : Env) : Prop := ∀ (i : Nat) (o : OB), as[i]? = some (AV.own o) → ∃ o', as'[i]? = some (AV.own o') ∧ e[i]? = some (EV.own o')
/-- a def's body keeps its promise -/
theorem run_SpG {K : PySem.W.Frag} {P : List AV → Ret → List AV → Prop} {Nm : List Str} {n : Nat} {t : TS} {vs : List V} {H : Hp} {Q : VK} {E : XK} (h : SpG K P vs H Q E) (hn : ∀ as r as', P as r as' → as.length = n ∧ n ≤ Nm.length)
    (body : ∀ as r as', P as r as' → ∃ pr : List Nat, (∀ (i : Nat) (o : OB), as[i]? = some (AV.own o) → i ∈ pr) ∧ Exec K pr (fun cls d _ H => E cls d H) t (as.map AV.ev ++ List.replicate (Nm.length - n) .any)
      (fun e => r = .val .non ∧ Held as as' e) (fun _ => False) (fun _ => False) (fun q e => q = r ∧ Held as as' e)) :
    t { nx := fun _ H' => Q .non H', rt := Q } (L2.start Nm vs) H := by
  obtain ⟨F, as, r, as', e, ar, p, k⟩ := h
  obtain ⟨hl, hnm⟩ := hn as r as' p
  obtain ⟨pr, hpr, hx⟩ := body as r as' p
  have lvs : vs.length = n := by rw [ar.len, hl]
  have stg : ∀ (i : Nat) (v : V), vs[i]? = some v → (L2.start Nm vs)[i]? = some (some v) := fun i v h => by
    unfold L2.start
    have hi : i < vs.length := (List.getElem?_eq_some_iff.mp h).1
    rw [List.getElem?_append_left (by simpa using hi), List.getElem?_map, h]; rfl
  have evg : ∀ (i : Nat) (x : EV), (as.map AV.ev ++ List.replicate (Nm.length - n) .any)[i]? = some x → x = .any ∨ ∃ a, as[i]? = some a ∧ x = a.ev := fun i x h => by
    by_cases hi : i < as.length
    · rw [List.getElem?_append_left (by simpa using hi), List.getElem?_map] at h
      cases z : as[i]? with
      | none => rw [z] at h; cases h
      | some a => rw [z] at h; cases h; exact .inr ⟨a, rfl, rfl⟩
    · rw [List.getElem?_append_right (by simpa using Nat.le_of_not_lt hi)] at h
      have := List.getElem?_eq_some_iff.mp h
      obtain ⟨h1, h2⟩ := this
      rw [List.getElem_replicate] at h2
      exact .inl h2.symm
  have evo : ∀ (i : Nat) (o : OB), (as.map AV.ev ++ List.replicate (Nm.length - n) .any)[i]? = some (.own o) → as[i]? = some (.own o) := fun i o h => by
    rcases evg i _ h with z | ⟨a, h1, h2⟩
    · cases z
    · cases a with
      | val d => cases h2
      | own u => cases h2; exact h1
  -- the addresses
  let oa : Nat → Addr := fun i => match vs[i]? with
    | some (.ref a) => a
    | _ => 0
  have oav : ∀ (i : Nat) (a : Addr), vs[i]? = some (.ref a) → oa i = a := fun i a h => by show (match vs[i]? with | some (.ref a) => a | _ => 0) = a; rw [h]
  let fx : Nat → Option Addr := fun i => match as[i]? with
    | some (.own _) => some (oa i)
    | _ => none
  have fxs : ∀ i a, fx i = some a → ∃ o, as[i]? = some (.own o) ∧ a = oa i := fun i a h => by
    have h' : (match as[i]? with | some (.own _) => some (oa i) | _ => none) = some a := h
    cases z : as[i]? with
    | none => rw [z] at h'; cases h'
    | some x =>
      rw [z] at h'
      cases x with
      | val d => cases h'
      | own o => cases h'; exact ⟨o, rfl, rfl⟩
  have hidN : ∀ (i : Nat) (o : OB) (a : Addr), as[i]? = some (.own o) → vs[i]? = some (.ref a) → hideA vs as H a = none := fun i o a h1 h2 => by
    unfold hideA
    rw [if_pos ⟨i, o, h1, h2⟩]
  have S : Sig K ⟨F, hideA vs as H, fx⟩ F oa (L2.start Nm vs) H (as.map AV.ev ++ List.replicate (Nm.length - n) .any) := by
    refine ⟨⟨Ex.refl _, hideA_ex, e, fun a h => .inl h⟩, ?_, fun i d h => ?_, fun i o h => ?_, fun i j o u h1 h2 q => ?_, fun i a h => ?_⟩
    · unfold L2.start; simp [lvs, hl]
    · rcases evg i _ h with z | ⟨a, h1, h2⟩
      · cases z
      · cases a with
        | own o => cases h2
        | val d' =>
          cases h2
          obtain ⟨v, q1, q2⟩ := ar.val i d h1
          exact ⟨v, stg i v q1, q2⟩
    · have h1 := evo i o h
      obtain ⟨a, q1, q2, q3⟩ := ar.own i o h1
      rw [oav i a q1]
      exact ⟨stg i _ q1, q2, hidN i o a h1 q1, q3⟩
    · have h1 := evo i o h1
      have h2 := evo j u h2
      obtain ⟨a, q1, _⟩ := ar.own i o h1
      obtain ⟨a', q1', _⟩ := ar.own j u h2
      rw [oav i a q1, oav j a' q1'] at q
      subst q
      exact ar.dist i j o u a h1 h2 q1 q1'
    · obtain ⟨o, h1, rfl⟩ := fxs i a h
      obtain ⟨a, q1, _, q3⟩ := ar.own i o h1
      obtain ⟨w, hw⟩ := q3.ho
      exact ⟨rfl, by rw [oav i a q1, hw]; simp⟩
  have fin : ∀ env F' oa' σ' H' v, Sig K ⟨F, hideA vs as H, fx⟩ F' oa' σ' H' env → Held as as' env → (RetR K ⟨F, hideA vs as H, fx⟩ F' H' v r ∨ ∃ C, r = .exc C) → outR r E Q v H' := fun env F' oa' σ' H' v S' ho hr => by
    have fxo : ∀ (i : Nat) (o : OB) (a : Addr), as[i]? = some (.own o) → vs[i]? = some (.ref a) → oa' i = a ∧ H' a ≠ none := fun i o a h1 h2 => by
      have q : fx i = some a := by
        show (match as[i]? with | some (.own _) => some (oa i) | _ => none) = some a
        rw [h1, oav i a h2]
      exact S'.fix i a q
    have hkp : ∀ a u, H a = some u → ¬ ownA vs as a → H' a = some u := fun a u h n => S'.g.gh a u (by
      show hideA vs as H a = some u
      unfold hideA
      rw [if_neg n]; exact h)
    refine k v F' H' ⟨S'.g.gf, S'.g.fh, hkp, fun a h => ?_, fun a h => ?_, fun i o h => ?_, ?_⟩
    · rcases S'.g.gn a h with q | q
      · exact .inl q
      · by_cases z : ownA vs as a
        · obtain ⟨i, o, h1, h2⟩ := z
          obtain ⟨o', h3, h4⟩ := ho i o h1
          obtain ⟨_, x2, _⟩ := S'.own i o' h4
          rw [(fxo i o a h1 h2).1] at x2
          exact absurd x2 h
        · refine .inr ?_
          have q' : hideA vs as H a = none := q
          unfold hideA at q'
          rw [if_neg z] at q'
          exact q'
    · by_cases z : ownA vs as a
      · obtain ⟨i, o, h1, h2⟩ := z
        exact (fxo i o a h1 h2).2
      · cases w : H a with
        | none => exact absurd w h
        | some u => rw [hkp a u w z]; simp
    · obtain ⟨o', h3, h4⟩ := ho i o h
      obtain ⟨a, q1, _⟩ := ar.own i o h
      obtain ⟨_, x2, _, x4⟩ := S'.own i o' h4
      rw [(fxo i o a h q1).1] at x2 x4
      exact ⟨o', a, h3, q1, x2, x4⟩
    · cases r with
      | exc C => trivial
      | val d =>
        rcases hr with hr | ⟨_, hr⟩
        · exact hr
        · cases hr
      | new o =>
        rcases hr with hr | ⟨_, hr⟩
        rotate_left
        · cases hr
        obtain ⟨a, rfl, h1, h2, h3, h4⟩ := hr
        refine ⟨a, rfl, h1, ?_, h4⟩
        have h2' : hideA vs as H a = none := h2
        unfold hideA at h2'
        split at h2'
        · rename_i z
          obtain ⟨i, o', h5, h6⟩ := z
          refine absurd ?_ (h3 i)
          show (match as[i]? with | some (.own _) => some (oa i) | _ => none) = some a
          rw [h5, oav i a h6]
        · exact h2'
  refine hx ⟨F, hideA vs as H, fx⟩ F oa (L2.start Nm vs) H _ (fun i h => ?_) S ⟨fun env F' oa σ H h S x => ?_, fun _ _ _ _ _ h => h.elim, fun _ _ _ _ _ h => h.elim, fun q env F' oa σ H v h S x hr => ?_, fun X env F' oa σ H h S x => ?_⟩
  · cases z : fx i with
    | none => exact absurd z h
    | some a =>
      obtain ⟨o, h1, _⟩ := fxs i a z
      exact hpr i o h1
  · obtain ⟨h1, h2⟩ := h
    subst h1
    exact fin env F' oa σ H .non S h2 (.inl .non)
  · obtain ⟨h1, h2⟩ := h
    subst h1
    have := fin env F' oa σ H v S h2 (.inl hr)
    cases q with
    | exc C => exact hr.elim
    | val d => exact this
    | new o => exact this
  · obtain ⟨h1, h2⟩ := h
    subst h1
    exact fin env F' oa σ H .non S h2 (.inr ⟨_, rfl⟩)
/-- raise C('..') -/
def tRaise (W : WX) (C : Addr) : TS := fun _ σ H => W (.ref C) none σ H
section
variable {K : PySem.W.Frag} {pr : List Nat} {W : WX} {env e1 : Env} {N B C : Env → Prop} {R : Ret → Env → Prop} {X : Addr}
end
end DL

namespace DL
open PySem L2

/-! ### calls -/
section
variable {K : PySem.W.Frag} {env e1 : Env} {P : List AV → Ret → List AV → Prop} {rs : List Res} {as as' : List AV} {d : D} {o : OB} {ta : TA} {E : XK}
def slots : List Res → List Nat
  | [] => []
  | .val _ :: r => slots r
  | .slot i :: r => i :: slots r
/-! ### expressions that raise -/
variable {W : WX} {X : Addr} {te tb tl : TE} {t u : TT} {rr : R2} {e2 : Env} {r : Res} {cc : Bool} {pr : List Nat} {N B C : Env → Prop} {R : Ret → Env → Prop} {g : TG}
end
end DL

/-! ### an exception that is caught, and kept by a name behind its clause -/
namespace L2
open PySem PySem.Spec PyProof.Rows DL
section
variable {X : Cx} {pins : List (Addr × Obj)} {σ : L2.St} {H : Hp} {s : Shared}
/-- what 'except x as n: m = n' wishes: slot j is m's, i is n's -/
def wKeep (K : PySem.W.Frag) (c : Value) (i j : Nat) (D : Ends) : WX := fun cls d σ H =>
  ∃ C, cls = .ref C ∧ d = none ∧ PySem.W.exmOne K cls c = some true ∧ ∀ a, H a = none → D.nx (((σ.set i (some (.ref a))).set j (some (.ref a))).set i none) (upd H a (ExK C a))
end
section
variable {X : Cx} {x n : Str} {c : Value} {i j : Nat} {body suite : List Stmt} {b₀ : Stmt} {np pos pos' : Pos} {tb : WX → TS}
end
end L2

namespace DL
open PySem L2
section
variable {K : PySem.W.Frag} {b : Bs} {F H : Hp} {oa : Nat → Addr} {σ : L2.St} {env : Env} {i j : Nat}
theorem Sig.unset (S : Sig K b F oa σ H env) : Sig K b F oa (σ.set i none) H (env.set i .any) where
  g := S.g
  len := by simp [S.len]
  val := fun n d e => by
    by_cases q : i = n
    · subst q
      rw [List.getElem?_set] at e
      split at e
      · split at e <;> cases e
      · rename_i z; exact absurd rfl z
    · rw [List.getElem?_set_ne q] at e
      rw [List.getElem?_set_ne q]
      exact S.val n d e
  own := fun n d e => by
    by_cases q : i = n
    · subst q
      rw [List.getElem?_set] at e
      split at e
      · split at e <;> cases e
      · rename_i z; exact absurd rfl z
    · rw [List.getElem?_set_ne q] at e
      rw [List.getElem?_set_ne q]
      exact S.own n d e
  dist := fun n m o u e f z => by
    have t : ∀ (n : Nat) (o : OB), (env.set i .any)[n]? = some (EV.own o) → env[n]? = some (EV.own o) := fun n o e => by
      by_cases q : i = n
      · subst q
        rw [List.getElem?_set] at e
        split at e
        · split at e <;> cases e
        · rename_i z; exact absurd rfl z
      · rw [List.getElem?_set_ne q] at e; exact e
    exact S.dist n m o u (t _ _ e) (t _ _ f) z
  fix := S.fix
end
/-- try: body / except c as n: m = n -/
def tTry (K : PySem.W.Frag) (c : Value) (i j : Nat) (tb : WX → TS) : TS := fun D σ H => tb (wKeep K c i j D) D σ H
section
variable {K : PySem.W.Frag} {pr : List Nat} {W : WX} {env : Env} {i j : Nat} {N B C : Env → Prop} {R : Ret → Env → Prop} {c : Value} {tb : WX → TS}
/-- what is caught goes on with slot j holding it -/
def caught (K : PySem.W.Frag) (c : Value) (i j : Nat) (N : Env → Prop) (R : Ret → Env → Prop) : Ret → Env → Prop := fun q e => match q with
  | .exc X => PySem.W.exmOne K (.ref X) c = some true ∧ N (((e.set i (.val (.exc X))).set j (.val (.exc X))).set i .any)
  | q => R q e
end

/-! ### isinstance, of exceptions too -/
def rIsX (K : PySem.W.Frag) : List V → Hp → VK → Prop := fun xs H Q => ∃ (a C : Addr) (c : V) (u : Value) (b : Bool), xs = [.ref a, c] ∧ H a = some (ExK C a) ∧ ExcC K C ∧ ClsV c u ∧ PySem.W.kitOne K (.ref C) u = some b ∧ Q (.bl b) H
def rIsXT (K : PySem.W.Frag) : List V → Hp → VK → Prop := fun xs H Q => ∃ (a C tp : Addr) (cs : List V) (us : List Value) (b : Bool), xs = [.ref a, .ref tp] ∧ H a = some (ExK C a) ∧ ExcC K C ∧ H tp = some (.tup cs) ∧ Paired ClsV cs us ∧ PySem.W.kitAny K (.ref C) us = some b ∧ Q (.bl b) H
theorem exk_at {X : Cx} {pins : List (Addr × Obj)} {σ : L2.St} {H : Hp} {s : Shared} {a C : Addr} (I : Inv X pins σ H s) (h : H a = some (ExK C a)) : ∃ oe, PySem.W.InstAt s.heap a oe C none := by
  obtain ⟨⟨oe, vs, h1, h2, h3⟩, _⟩ := (show ObjOk X.prog X.w H s.heap a (ExK C a) from I.hok a _ h)
  obtain ⟨oc, od, dt, sl⟩ := oe
  obtain ⟨z1, z2⟩ := h2
  dsimp only at z1 z2 h3
  subst z1 z2 h3
  exact ⟨_, h1, rfl, rfl, trivial⟩
section
variable {X : Cx}
theorem call_isX : CallR X (.builtin "isinstance") (rIsX X.K) := by
  intro pins s σ H xs us Q I r h
  obtain ⟨a, C, c, u, b, rfl, ha, x, k, e, q⟩ := h
  obtain ⟨u1, u2, rfl, r1, r2⟩ := vals2 r
  have e2 := k.eq r2
  subst e2
  cases (show u1 = Value.ref a from r1)
  obtain ⟨oe, J⟩ := exk_at I ha
  exact PySem.W.kia_one (PySem.W.handS_kitx_exc x.hg x.hk x.hs x.hd x.ha x.hn x.ht x.hm) I.kIn J e (fun z => nomatch z) fun tk => ⟨.bl b, H, I.tok tk, rfl, q⟩
theorem call_isXT : CallR X (.builtin "isinstance") (rIsXT X.K) := by
  intro pins s σ H xs us Q I r h
  obtain ⟨a, C, tp, cs, ws, b, rfl, ha, x, hT, k, e, q⟩ := h
  obtain ⟨u1, u2, rfl, r1, r2⟩ := vals2 r
  cases (show u1 = Value.ref a from r1)
  cases (show u2 = Value.ref tp from r2)
  obtain ⟨oe, J⟩ := exk_at I ha
  obtain ⟨_, its, rv, o, h1, h2, n, h3⟩ := (show ObjOk X.prog X.w H s.heap tp (.tup cs) from I.hok tp _ hT)
  have e3 := ClsV.all k rv
  subst e3
  obtain ⟨oc, od, dt, sl⟩ := o
  dsimp only at h2 h3
  subst h2 h3
  exact PySem.W.kia_tup (PySem.W.handS_kitx_exc x.hg x.hk x.hs x.hd x.ha x.hn x.ht x.hm) I.kIn J h1 e (fun z => nomatch z) fun tk => ⟨.bl b, H, I.tok tk, rfl, q⟩
end
def rIsiU (K : PySem.W.Frag) : List V → Hp → VK → Prop := fun xs H Q => rIsi K xs H Q ∨ (rIsiT K xs H Q ∨ (rIsX K xs H Q ∨ rIsXT K xs H Q))
theorem call_isiA {X : Cx} {K : PySem.W.Frag} (e : X.K = K := by rfl) : CallR X (.builtin "isinstance") (rIsiU K) := by subst e; exact CallR.or call_isi (CallR.or call_isiT (CallR.or call_isX call_isXT))
/-- raise C('..') -/
theorem ps_raiseC {X : Cx} {W : WX} {C : Addr} {e : Expr} {pos : Pos} (hc : X.calm = true) (tk : Takes X W) (he : PMk X e (fun _ H Q => Q (.ref C) none H)) : PS X (.Raise (some e) none pos) (tRaise W C) := ps_raise hc tk he
end DL

namespace DL
open PySem L2

/-! ### operators and built-ins by what their operands came to -/
section
variable {K : PySem.W.Frag} {te ta tb tc : TE} {t u : TT} {env e e1 e2 e3 : Env} {r r1 r2 r3 : Res} {d d1 d2 : D} {o : OB} {i j k' : Int} {x y : Str} {c c1 c2 : Bool} {l m : List D} {rr : R2}
end

/-! ### defs -/
/-- a def that may be called by its name -/
structure Df (P : Program) (w : World) (K : PySem.W.Frag) (mg : Str → Option Value) (base : Heap) (k : Nat) (x : Str) (sp : Sp) : Prop where
  ex : ∃ (f : Addr) (fd : FuncData) (ps : List Str), FnOk P w K mg base CX0 k f fd ps sp ∧ mg x = some (.ref f) ∧ PySem.W.keepIn K (.ref f) = true ∧ Binds K fd ps []
section
variable {X : Cx} {k j : Nat} {x : Str} {sp : Sp} {p pos : Pos} {e : Expr} {es : List Expr} {t : TA}
end
/-- .. that may raise -/
structure Dx (P : Program) (w : World) (K : PySem.W.Frag) (mg : Str → Option Value) (base : Heap) (k : Nat) (x : Str) (sp : Sp) : Prop where
  ex : ∃ (f : Addr) (fd : FuncData) (ps : List Str), FnOk P w K mg base (L2.CX P w) k f fd ps sp ∧ mg x = some (.ref f) ∧ PySem.W.keepIn K (.ref f) = true ∧ Binds K fd ps []
section
variable {X : Cx} {W : WX} {k j : Nat} {x : Str} {sp : Sp} {p pos : Pos} {e : Expr} {es : List Expr} {t : TA}
theorem pe_dx (c : Dx X.prog X.w X.K X.mg X.base k x sp) (tk : Takes X W) (hr : Room j X.A) (hk : k ≤ j) (hg : Gl X x) (ha : PA X (e :: es) t)
    (hdb : (x == ("__debug__" : Str)) = false := by decide) (he : starEach (e :: es) X.env = (false, eval e X.env) :: starEach es X.env := by rfl) (hpl : (backTo pos (starEach es X.env)).any (·.1) = false := by rfl) :
    PE X (.Call (.Name x p) (e :: es) [] pos) (tCallS sp (WE W) t) := by
  obtain ⟨f, fd, ps, F, hm, kp, b⟩ := c.ex
  exact pe_callS F (hr.mono hk) hg hm kp b (fun σ => passAt tk σ) ha hdb he hpl
/-- .. and does not, where it is called -/
theorem pe_dx0 (c : Dx X.prog X.w X.K X.mg X.base k x sp) (hr : Room j X.A) (hk : k ≤ j) (hg : Gl X x) (ha : PA X (e :: es) t)
    (hdb : (x == ("__debug__" : Str)) = false := by decide) (he : starEach (e :: es) X.env = (false, eval e X.env) :: starEach es X.env := by rfl) (hpl : (backTo pos (starEach es X.env)).any (·.1) = false := by rfl) :
    PE X (.Call (.Name x p) (e :: es) [] pos) (tCall sp [] E0 t) := by
  obtain ⟨f, fd, ps, F, hm, kp, b⟩ := c.ex
  exact pe_call F (hr.mono hk) hg hm kp b .nil passL ha hdb he hpl
end
theorem vals_noOwn {ds : List D} {i : Nat} {o : OB} : (ds.map AV.val)[i]? ≠ some (AV.own o) := by
  rw [List.getElem?_map]
  cases ds[i]? <;> simp
section
variable {K : PySem.W.Frag} {env e1 : Env} {f : List D → D → Prop} {g : List D → OB → Prop} {rs : List Res} {ds : List D} {d : D} {o : OB} {ta : TA} {E : XK}
end
section
variable {K : PySem.W.Frag} {env e1 : Env} {f : List D → Ret → Prop} {rs : List Res} {ds : List D} {d : D} {o : OB} {ta : TA} {W : WX} {C : Addr} {E : XK}
end
section
variable {P : Program} {w : World} {K : PySem.W.Frag} {mg : Str → Option Value} {base : Heap} {x qn : Str} {st : Stmt} {fa : Addr} {fd : FuncData} {N ps : List Str} {k : Nat}
theorem spG_len {Pr : List AV → Ret → List AV → Prop} {n : Nat} (hn : ∀ as r as', Pr as r as' → as.length = n) {vs : List V} {H : Hp} {Q : VK} {E : XK} (h : SpG K Pr vs H Q E) : vs.length = n := by
  obtain ⟨F, as, r, as', _, ar, p, _⟩ := h
  rw [ar.len, hn as r as' p]
theorem Fn.ofG {Pr : List AV → Ret → List AV → Prop} (F : Fun K x qn st fa fd) (S : FnScope N ps (defScope st)) (hn : ∀ as r as', Pr as r as' → as.length = ps.length)
    (body : ∀ (cdv : Value) (A : Around) (outer : List PySem.Env) (s : Shared) (H : Hp) (E : XK), Room k (A.deeper (PyProof.Rows.envOfC qn (defScope st) s.heap.objs.size fa cdv)) →
      ∃ t, PSs (cxOf CX0 P w K mg base N qn (defScope st) fa cdv A outer s H E).nox (defBody st) t ∧ ∀ as r as', Pr as r as' → ∃ pr : List Nat, (∀ (i : Nat) (o : OB), as[i]? = some (AV.own o) → i ∈ pr) ∧ Exec K pr (fun cls d _ H => E cls d H) t (as.map AV.ev ++ List.replicate (N.length - ps.length) .any)
      (fun e => r = .val .non ∧ Held as as' e) (fun _ => False) (fun _ => False) (fun q e => q = r ∧ Held as as' e)) : FnOk P w K mg base CX0 (k + 1) fa fd ps (SpG K Pr) :=
  F.ok S (fun vs H Q E h => spG_len hn h) (fun cdv A outer s H vs Q E hr h => by
    obtain ⟨t, h1, h2⟩ := body cdv A outer s H E hr
    have hpl : ps.length ≤ N.length := by have := congrArg List.length S.pre; rw [List.length_take] at this; omega
    exact ⟨t, h1, run_SpG h (fun as r as' p => ⟨hn as r as' p, hpl⟩) h2⟩)
theorem Dx.of {sp : Sp} (h : FnOk P w K mg base (L2.CX P w) k fa fd ps sp) (F : Fun K x qn st fa fd) (hm : mg x = some (.ref fa)) (b : Binds K fd ps []) : Dx P w K mg base k x sp := ⟨fa, fd, ps, h, hm, F.kp, b⟩
theorem Df.of {sp : Sp} (h : FnOk P w K mg base CX0 k fa fd ps sp) (F : Fun K x qn st fa fd) (hm : mg x = some (.ref fa)) (b : Binds K fd ps []) : Df P w K mg base k x sp := ⟨fa, fd, ps, h, hm, F.kp, b⟩
end
end DL

namespace DL
open PySem L2
/-! ### == of data, by a plain function -/
mutual
def pl : Nat → D → Bool
  | _, .non => true
  | _, .bl _ => true
  | _, .int _ => true
  | _, .str x => PyData.canLay0 (.str x)
  | n + 1, .tup l => plL n l
  | n + 1, .lst l => plL n l
  | _, _ => false
def plL : Nat → List D → Bool
  | _, [] => true
  | n, d :: r => pl n d && plL n r
end
/-! ### items -/
/-! ### comprehensions over one name, the slots left as they are -/
section
variable {K : PySem.W.Frag} {te : TE} {t : TT} {env e1 : Env} {wi : TI} {j : Nat}
end
/-! ### isinstance of data -/
end DL

namespace DL
open PySem L2
section
variable {K : PySem.W.Frag} {pr : List Nat} {W : WX} {s : TS} {env e1 : Env} {i j : Nat} {N B C : Env → Prop} {R : Ret → Env → Prop} {wi : TI} {ds : List D}
theorem small_of {n : Int} (c : Int) (h0 : 0 ≤ n) (h1 : n ≤ 70) (hc : c = 1 ∨ c = 2 ∨ c = 3 ∨ c = 8) : Builtin.Range.small 0 n c = true := by
  have k1 : ∀ m : Nat, m < 71 → Builtin.Range.small 0 (m : Int) 1 = true := by decide
  have k2 : ∀ m : Nat, m < 71 → Builtin.Range.small 0 (m : Int) 2 = true := by decide
  have k3 : ∀ m : Nat, m < 71 → Builtin.Range.small 0 (m : Int) 3 = true := by decide
  have k8 : ∀ m : Nat, m < 71 → Builtin.Range.small 0 (m : Int) 8 = true := by decide
  have e : n = ((n.toNat : Nat) : Int) := by omega
  rw [e]
  rcases hc with h | h | h | h <;> subst h
  · exact k1 _ (by omega)
  · exact k2 _ (by omega)
  · exact k3 _ (by omega)
  · exact k8 _ (by omega)
theorem rg_of {n c : Int} (h : Builtin.Range.small 0 n c = true) (hc : 0 < c ∧ c < 1000) : RgC 0 n c (if 0 < n then (n - 1) / c + 1 else 0).toNat := by
  refine ⟨by omega, by omega, h, ?_⟩
  unfold Builtin.Range.rangeSize
  rw [if_pos (show c > 0 from hc.1)]
  by_cases q : 0 < n
  · rw [if_pos q, if_pos q]
    have : 0 ≤ (n - 1) / c := Int.ediv_nonneg (by omega) (by omega)
    rw [show n - 0 - 1 = n - 1 by omega]
    omega
  · rw [if_neg q, if_neg q]; rfl
/-- range(0, n, 3) for n to 70 -/
theorem rg3 {n : Int} (h0 : 0 ≤ n) (h1 : n ≤ 70) : RgC 0 n 3 (if 0 < n then (n - 1) / 3 + 1 else 0).toNat := rg_of (small_of 3 h0 h1 (by omega)) (by omega)
theorem log2_lt {n : Int} {k : Nat} (h0 : 0 < n) (h : n < 2 ^ k) (hk : k < 9000) : 0 < n ∧ n.natAbs.log2 < 9000 := by
  refine ⟨h0, ?_⟩
  have e : ((2 ^ k : Nat) : Int) = 2 ^ k := by simp
  have a : n.natAbs < 2 ^ k := by omega
  have := (Nat.log2_lt (n := n.natAbs) (k := k) (by omega)).mpr a
  omega
end
end DL

/-! ### methods of data by what their operands came to -/
namespace L2
open PySem PySem.Spec PyProof.Rows
end L2
namespace DL
open PySem L2
section
variable {K : PySem.W.Frag} {te tb : TE} {ta : TA} {env e e1 e2 : Env} {r r' : Res} {rs : List Res} {d : D} {l : List D} {i j : Nat} {n : Int} {x y : Str}
end
end DL

namespace DL
open PySem L2
/-! ### more statements and operators -/
def ipAddU : TIp := fun x y H Q => ipI (fun i j => i + j) x y H Q ∨ rExt2 x y H Q
theorem ip_addU {X : Cx} : PIp X .Add ipAddU := fun pins s σ H x y v u Q I rx ry h => by
  rcases h with h | h
  · exact ip_add pins s σ H x y v u Q I rx ry h
  · exact iop_ext pins s σ H x y v u Q I rx ry h
section
variable {K : PySem.W.Frag} {pr : List Nat} {W : WX} {te ta tb : TE} {env e1 e2 e : Env} {r r1 r2 : Res} {i j : Nat} {l m : List D} {N B C : Env → Prop} {R : Ret → Env → Prop} {n k : Int} {d d1 d2 : D} {c : Bool}
end
end DL
namespace DL
open PySem L2
end DL

/-! ### a tuple times any small number -/
namespace L2
open PySem PySem.Spec PyProof.Rows
theorem mulT_same (l : Addr) (items : Array Value) (n : Nat) (dd : Option Addr) (sl : Array (Option Value)) (x : Int) (u : Tok) (c0 : (decide (x < -(2 ^ 63)) || decide (x ≥ 2 ^ 63)) = false) (c1 : (items.isEmpty || x == 1) = true) :
    Meets (Builtin.«tuple.__mul__» ⟨[.ref l, .int x u], []⟩) (fun _ R s => s.heap.get? l = some { cls := .type "tuple", dict := dd, data := .seq items n, slots := sl } ∧ R (.ok (.ret (.ref l))) s) := .of_wp fun prog w A R s h => by
  obtain ⟨hp, g, d, tk, os⟩ := s
  obtain ⟨hl, h⟩ := h
  have g1 := AutoSeq1.idx_int
  wp_walk using wpAny_loadPart' hl
  repeat (first
    | (refine wpAny_ite_false (decide_eq_false (by rw [c0]; decide)) ?_; wp_walk using wpAny_loadPart' hl)
    | (refine wpAny_ite_true (decide_eq_true c1) ?_; wp_walk using wpAny_loadPart' hl))
  exact ⟨_, rfl, h⟩
theorem mulT_none (l : Addr) (items : Array Value) (n : Nat) (dd : Option Addr) (sl : Array (Option Value)) (x : Int) (u : Tok) (c0 : (decide (x < -(2 ^ 63)) || decide (x ≥ 2 ^ 63)) = false) (c1 : (items.isEmpty || x == 1) = false) (c2 : (decide (x ≤ 0) || items.isEmpty) = true) :
    Meets (Builtin.«tuple.__mul__» ⟨[.ref l, .int x u], []⟩) (fun _ R s => s.heap.get? l = some { cls := .type "tuple", dict := dd, data := .seq items n, slots := sl } ∧
      R (.ok (.ret (.ref s.heap.objs.size))) { s with heap := s.heap.push { cls := .type "tuple", data := .seq #[] }, toks := s.toks }) := .of_wp fun prog w A R s h => by
  obtain ⟨hp, g, d, tk, os⟩ := s
  obtain ⟨hl, h⟩ := h
  have g1 := AutoSeq1.idx_int
  wp_walk using wpAny_loadPart' hl
  repeat (first
    | (refine wpAny_ite_false (decide_eq_false (by rw [c0]; decide)) ?_; wp_walk using wpAny_loadPart' hl)
    | (refine wpAny_ite_false (decide_eq_false (by rw [c1]; decide)) ?_; wp_walk using wpAny_loadPart' hl)
    | (refine wpAny_ite_true (decide_eq_true c2) ?_; wp_walk using wpAny_loadPart' hl))
  exact ⟨_, rfl, h⟩
/-- a tuple times k, a new one: up to 4000000 items -/
theorem rep_new {X : Cx} {pins : List (Addr × Obj)} {s : Shared} {σ : L2.St} {H : Hp} {l : Addr} {k : Int} {t : Tok} {xs : List V} {Q : VK} (I : Inv X pins σ H s) (hT : SqT X.K H l xs) (hne : xs ≠ []) (h1 : 2 ≤ k) (h2 : k ≤ 4000) (hz : xs.length ≤ 1000)
    (q : ∀ p, H p = none → Q (.ref p) (upd H p (.tup (List.replicate k.toNat xs).flatten))) : wpAny (model X.prog X.w) X.A (binaryOp .Mult (.ref l) (.int k t)) (EP X pins σ Q) X.xe s := by
  obtain ⟨its, r, ⟨⟨_, dd, _, sl⟩, ho, rfl, n, rfl⟩, hs⟩ := I.tuple hT
  have le : its.length = xs.length := r.length.symm
  have size : its.toArray.size = xs.length := le
  have full : its.toArray.isEmpty = false := by
    cases its with
    | nil => exact absurd (List.eq_nil_of_length_eq_zero le.symm) hne
    | cons _ _ => rfl
  have most : k.toNat * xs.length ≤ 4000 * 1000 := Nat.mul_le_mul (by omega) hz
  have mosti : ((its.toArray.size : Nat) : Int) * k ≤ 4000000 := by
    have e : ((its.toArray.size : Nat) : Int) * k = ((k.toNat * xs.length : Nat) : Int) := by
      rw [size, Int.natCast_mul, Int.toNat_of_nonneg (by omega), Int.mul_comm]
    rw [e]; omega
  have c0 : (decide (k < -(2 ^ 63)) || decide (k ≥ 2 ^ 63)) = false := by simp; omega
  have c1 : (its.toArray.isEmpty || k == 1) = false := by rw [full]; simp; omega
  have c2 : (decide (k ≤ 0) || its.toArray.isEmpty) = false := by rw [full]; simp; omega
  have c4 : Builtin.Tuple.tupleTooMany (((its.toArray.size : Nat) : Int) * k) = false := by
    unfold Builtin.Tuple.tupleTooMany
    rw [sizeLine_eq]
    exact decide_eq_false (by omega)
  have fit : ∀ {α : Type} (ys : List α), ys.length = xs.length → (List.replicate k.toNat ys).flatten.length ≤ sizeLine := fun ys e => by
    rw [PyProof.Rows.lm_len_rep_flat, e, sizeLine_eq]; omega
  have mul := tuple_mulW l its.toArray n dd sl k t c0 c1 c2 (by omega) c4 (by rw [size_rep, List.size_toArray]; exact fit its le)
  rw [size_rep] at mul
  refine wpAny_binaryOp_repeat_ref (T := "tuple") (U := "int") (by decide) ⟨_, ho, rfl⟩ (fun s' => typeIs_int s' k t) noFill_tuple_mul F.fills_int_mul F.slot_int_rmul repeat_tuple F.slot_int_index.lookup
    (call_meets F.slot_int_rmul (typeIs_int s k t) F.entry_int_rmul (F.args_int_rmul_2 _ _) (int_rmul_tuple k t l its.toArray n dd sl)
      ⟨ho, rfl, ⟨_, ho, rfl⟩, call_meets F.slot_tuple_mul ⟨_, ho, rfl⟩ F.entry_tuple_mul (F.args_tuple_mul_2 _ _) mul ⟨ho, ?_⟩⟩)
  exact ⟨.ref s.heap.objs.size, _, I.laid (t' := s.toks) (o := .tup (List.replicate k.toNat xs).flatten) (fun b ob q => Heap.get?_push_of_some _ q) (Nat.le_refl _) ⟨fit xs rfl, _, r.rep k.toNat, IsTup.new _ _⟩, rfl, q _ (I.hok.fresh (Nat.le_refl _))⟩
/-- a tuple times any k to 100000: itself, or a new one -/
def rMulT (K : PySem.W.Frag) : R2 := fun x y H Q => ∃ l k xs, x = .ref l ∧ y = .int k ∧ SqT K H l xs ∧ k ≤ 4000 ∧ -1000 ≤ k ∧ xs.length ≤ 1000 ∧ (xs = [] → Q (.ref l) H) ∧ (k = 1 → Q (.ref l) H) ∧ (xs ≠ [] → k ≠ 1 → ∀ p, H p = none → Q (.ref p) (upd H p (.tup (List.replicate k.toNat xs).flatten)))
theorem op_mulT {X : Cx} : OpR X (binaryOp .Mult) (rMulT X.K) := by
  intro pins s σ H x y v u Q I rx ry h
  obtain ⟨l, k, xs, rfl, rfl, hT, h2, h1, hz, q0, q1, q2⟩ := h
  by_cases big : xs ≠ [] ∧ 2 ≤ k
  · cases rx
    obtain ⟨t, rfl⟩ := ry
    exact rep_new I hT big.1 big.2 h2 hz (q2 big.1 (by omega))
  · cases rx
    obtain ⟨t, rfl⟩ := ry
    obtain ⟨its, r, ⟨⟨cls, dd, data, sl⟩, ho, hc, n, hd⟩, hs⟩ := I.tuple hT
    simp only at hc hd
    subst hc hd
    have hle : its.length = xs.length := r.length.symm
    have c0 : (decide (k < -(2 ^ 63)) || decide (k ≥ 2 ^ 63)) = false := by
      rw [decide_eq_false (by omega), decide_eq_false (by omega)]; rfl
    by_cases one : xs = [] ∨ k = 1
    · have c1 : (its.toArray.isEmpty || k == 1) = true := by
        rcases one with e | e
        · have : its = [] := List.eq_nil_of_length_eq_zero (by rw [hle, e]; rfl)
          rw [this]; rfl
        · rw [e]; simp
      refine wpAny_binaryOp_repeat_ref (T := "tuple") (U := "int") (by decide) ⟨_, ho, rfl⟩ (fun s' => typeIs_int s' k t) noFill_tuple_mul F.fills_int_mul F.slot_int_rmul repeat_tuple F.slot_int_index.lookup
        (call_meets F.slot_int_rmul (typeIs_int s k t) F.entry_int_rmul (F.args_int_rmul_2 _ _) (int_rmul_tuple k t l its.toArray n dd sl)
          ⟨ho, rfl, ⟨_, ho, rfl⟩, call_meets F.slot_tuple_mul ⟨_, ho, rfl⟩ F.entry_tuple_mul (F.args_tuple_mul_2 _ _) (mulT_same l its.toArray n dd sl k t c0 c1) ⟨ho, ?_⟩⟩)
      refine ⟨.ref l, H, I, rfl, ?_⟩
      rcases one with e | e
      · exact q0 e
      · exact q1 e
    · have n1 : xs ≠ [] := fun e => one (.inl e)
      have n2 : k ≠ 1 := fun e => one (.inr e)
      have k0 : k ≤ 0 := by
        by_cases z : 2 ≤ k
        · exact absurd ⟨n1, z⟩ big
        · omega
      have hi : its.toArray.isEmpty = false := by
        cases its with
        | nil => exact absurd (List.eq_nil_of_length_eq_zero hle.symm) n1
        | cons a b => rfl
      have c1 : (its.toArray.isEmpty || k == 1) = false := by
        rw [hi, Bool.false_or]
        exact beq_eq_false_iff_ne.mpr n2
      have c2 : (decide (k ≤ 0) || its.toArray.isEmpty) = true := by rw [decide_eq_true k0]; rfl
      have e0 : k.toNat = 0 := by omega
      have q := q2 n1 n2
      rw [e0] at q
      refine wpAny_binaryOp_repeat_ref (T := "tuple") (U := "int") (by decide) ⟨_, ho, rfl⟩ (fun s' => typeIs_int s' k t) noFill_tuple_mul F.fills_int_mul F.slot_int_rmul repeat_tuple F.slot_int_index.lookup
        (call_meets F.slot_int_rmul (typeIs_int s k t) F.entry_int_rmul (F.args_int_rmul_2 _ _) (int_rmul_tuple k t l its.toArray n dd sl)
          ⟨ho, rfl, ⟨_, ho, rfl⟩, call_meets F.slot_tuple_mul ⟨_, ho, rfl⟩ F.entry_tuple_mul (F.args_tuple_mul_2 _ _) (mulT_none l its.toArray n dd sl k t c0 c1 c2) ⟨ho, ?_⟩⟩)
      refine ⟨.ref s.heap.objs.size, _, I.laid (t' := s.toks) (o := .tup []) (fun b ob q => Heap.get?_push_of_some _ q) (Nat.le_refl _) ?_, rfl, q _ (I.hok.fresh (Nat.le_refl _))⟩
      exact ⟨by decide, [], .nil, IsTup.new _ _⟩
end L2
namespace DL
open PySem L2
def rMulA (K : PySem.W.Frag) : R2 := fun x y H Q => rMulU x y H Q ∨ rMulT K x y H Q
theorem op_mulA {X : Cx} {K : PySem.W.Frag} (e : X.K = K := by rfl) : OpR X (binaryOp .Mult) (rMulA K) := by subst e; exact OpR.or op_mulU op_mulT
section
variable {K : PySem.W.Frag} {te ta tb : TE} {env e e1 e2 : Env} {r r1 r2 r' : Res} {i j : Int} {d d1 d2 : D} {l m : List D} {o o' : OB} {n : Nat}
/-- enumerate(xs) -/
def enumD (l : List D) : List D := (List.range l.length).map fun i => .tup [.int (i : Nat), l.getD i .non]
theorem enumD_len : (enumD l).length = l.length := by simp [enumD]
theorem enumD_get {i : Nat} (h : (enumD l)[i]? = some d) : ∃ x, l[i]? = some x ∧ d = .tup [.int (i : Nat), x] := by
  unfold enumD at h
  rw [List.getElem?_map] at h
  obtain ⟨k, hk, rfl⟩ := Option.map_eq_some_iff.mp h
  obtain ⟨h1, h2⟩ := List.getElem?_eq_some_iff.mp hk
  rw [List.length_range] at h1
  rw [List.getElem_range] at h2
  subst h2
  exact ⟨l[i], by simp [h1], by rw [List.getD_eq_getElem?_getD, List.getElem?_eq_getElem h1]; rfl⟩
def zipD (l m : List D) : List D := (l.zip m).map fun p => .tup [p.1, p.2]
end
/-! ### defs whose first argument is an object that they change -/
def PO (f : OB → List D → Ret → OB → Prop) : List AV → Ret → List AV → Prop := fun as r as' => ∃ o ds o', as = .own o :: ds.map AV.val ∧ as' = .own o' :: ds.map AV.val ∧ f o ds r o'
section
variable {K : PySem.W.Frag} {ta : TA} {env e1 : Env} {rs : List Res} {ds : List D} {d : D} {o o' ob : OB} {i : Nat} {f : OB → List D → Ret → OB → Prop} {E : XK}
end
section
variable {P : Program} {w : World} {K : PySem.W.Frag} {mg : Str → Option Value} {base : Heap} {x qn : Str} {st : Stmt} {fa : Addr} {fd : FuncData} {N ps : List Str} {k : Nat}
theorem Fn.ofO {f : OB → List D → Ret → OB → Prop} (F : Fun K x qn st fa fd) (S : FnScope N ps (defScope st)) (hn : ∀ o ds r o', f o ds r o' → ds.length + 1 = ps.length)
    (body : ∀ (cdv : Value) (A : Around) (outer : List PySem.Env) (s : Shared) (H : Hp) (E : XK), Room k (A.deeper (PyProof.Rows.envOfC qn (defScope st) s.heap.objs.size fa cdv)) →
      ∃ t, PSs (cxOf CX0 P w K mg base N qn (defScope st) fa cdv A outer s H E).nox (defBody st) t ∧ ∀ o ds r o', f o ds r o' → Exec K [0] (fun cls d _ H => E cls d H) t (EV.own o :: ds.map EV.val ++ List.replicate (N.length - ps.length) .any)
      (fun e => r = .val .non ∧ e[0]? = some (.own o')) (fun _ => False) (fun _ => False) (fun q e => q = r ∧ e[0]? = some (.own o'))) : FnOk P w K mg base CX0 (k + 1) fa fd ps (SpG K (PO f)) :=
  Fn.ofG F S (fun as r as' ⟨o, ds, o', h1, _, h4⟩ => by rw [h1, List.length_cons, List.length_map]; exact hn o ds r o' h4) fun cdv A outer s H E hr => by
    obtain ⟨t, h1, h2⟩ := body cdv A outer s H E hr
    refine ⟨t, h1, fun as r as' ⟨o, ds, o', e1, e2, hf⟩ => ⟨[0], fun i ob h => ?_, ?_⟩⟩
    · subst e1
      cases i with
      | zero => exact List.mem_cons_self
      | succ i => rw [List.getElem?_cons_succ] at h; exact absurd h vals_noOwn
    subst e1 e2
    have held : ∀ e : Env, e[0]? = some (.own o') → Held (.own o :: ds.map AV.val) (.own o' :: ds.map AV.val) e := fun e he i ob h => by
      cases i with
      | zero => exact ⟨o', rfl, he⟩
      | succ i => rw [List.getElem?_cons_succ] at h; exact absurd h vals_noOwn
    have em : (AV.own o :: ds.map AV.val).map AV.ev = EV.own o :: ds.map EV.val := by rw [List.map_cons, List.map_map]; rfl
    rw [em]
    exact x_mono (h2 o ds r o' hf) (fun e h => ⟨h.1, held e h.2⟩) (fun _ h => h) (fun _ h => h) fun q e h => ⟨h.1, held e h.2⟩
end
end DL

namespace DL
open PySem L2
/-! ### a comprehension whose part changes the object in the first slot -/
section
variable {K : PySem.W.Frag} {te : TE} {wi : TI} {env R : Env} {k : Nat} {ds : List D}
end
end DL

/-! ### xs.insert, a list times n, isinstance of several classes -/
namespace L2
open PySem
end L2
namespace DL
open PySem L2
section
variable {K : PySem.W.Frag} {pr : List Nat} {W : WX} {te ta tb : TE} {ts : TA} {env e1 e2 e : Env} {r : Res} {i : Nat} {l m : List D} {N B C : Env → Prop} {R : Ret → Env → Prop} {n j : Int} {d : D} {c : Bool}
end
end DL
namespace DL
open PySem L2
theorem ixN_nat {n i : Nat} (h : i < n) : ixN n (i : Int) = some i := by
  unfold ixN
  rw [if_pos (by omega), if_pos (by omega)]; rfl
end DL
namespace DL
open PySem L2
end DL

/-! ### len(set(xs)), xs.pop(i), xs.remove(x), xs[::-1], objects lent to a call -/
namespace L2
open PySem PySem.Spec PyProof.Rows
/-- how many unlike ones -/
def unlike (ns : List Int) : Nat := (PyProof.Rows.firstMet (fun i => ns.getD i 0) ns.length).length
end L2
namespace DL
open PySem L2
section
variable {K : PySem.W.Frag} {pr : List Nat} {W : WX} {te ta tb : TE} {ts : TA} {env e1 e2 e : Env} {r : Res} {i : Nat} {l m : List D} {N B C : Env → Prop} {R : Ret → Env → Prop} {n j : Int} {d : D} {c : Bool} {ns : List Int} {o : OB} {ds : List D} {rs : List Res}
theorem RepL.eraseIdx {F : Hp} : ∀ {vs : List V} {ds : List D} (n : Nat), RepL K F vs ds → RepL K F (vs.eraseIdx n) (ds.eraseIdx n)
  | _, _, _, .nil => .nil
  | _, _, 0, .cons _ r => r
  | _, _, n + 1, .cons q r => .cons q (RepL.eraseIdx n r)
/-- what each argument reads -/
inductive Rds (env : Env) : List Res → List D → Prop
  | nil : Rds env [] []
  | cons {r : Res} {d : D} {rs : List Res} {ds : List D} : Rd env r d → Rds env rs ds → Rds env (r :: rs) (d :: ds)
theorem Rds.rep {b : Bs} {F : Hp} {oa : Nat → Addr} {σ : L2.St} {H : Hp} (S : Sig K b F oa σ H env) : ∀ {vs : List V} {rs : List Res} {ds : List D}, RRs K F oa vs rs → Rds env rs ds → vs.length = ds.length ∧ ∀ (i : Nat) (d : D), ds[i]? = some d → ∃ v, vs[i]? = some v ∧ Rep K H v d
  | [], _, _, h, .nil => ⟨rfl, fun i d hi => by simp at hi⟩
  | _ :: _, _, _, h, .nil => h.elim
  | [], _, _, h, .cons _ _ => h.elim
  | v :: vs, _, _, h, .cons q t => by
    obtain ⟨h1, h2⟩ := Rds.rep S h.2 t
    refine ⟨by rw [List.length_cons, List.length_cons, h1], fun i d hi => ?_⟩
    cases i with
    | zero => simp at hi; subst hi; exact ⟨v, rfl, q.rep S h.1⟩
    | succ i => simp at hi; exact h2 i d hi
end
end DL

/-! ### xs[k] += n; in, of data of any depth; more that raises -/
namespace L2
open PySem PySem.Spec PyProof.Rows
end L2
namespace DL
open PySem L2
section
variable {X : Cx} {k j : Nat} {x : Str} {sp : Sp} {p pos : Pos}
end
theorem room65 {k : Nat} {A : Around} (r : Room k A) : A.units + 65 < cLine := by have := r.un; omega
section
variable {K : PySem.W.Frag} {pr : List Nat} {W : WX} {te ta tb to : TE} {ts : TA} {env e1 e2 e : Env} {r r1 r2 : Res} {i : Nat} {l m : List D} {N B C : Env → Prop} {R : Ret → Env → Prop} {n j k0 : Int} {d : D} {c : Bool} {X : Addr} {t u : TT}
/-! raising in parts -/
end
end DL

/-! ### instances of own classes: made, read, written -/
namespace DL
open PySem L2
section
variable {K : PySem.W.Frag} {F : Hp}
end
section
variable {K : PySem.W.Frag} {pr : List Nat} {W : WX} {te ta tv : TE} {ts : TA} {env e1 e2 e : Env} {r : Res} {rs : List Res} {i : Nat} {N B C : Env → Prop} {R : Ret → Env → Prop} {d : D} {ds : List D} {Cc : Addr} {fs : List (Str × D)} {f : Str} {o : OB}
end
/-- a class whose instances are made by a call of its name -/
structure Mf (P : Program) (w : World) (K : PySem.W.Frag) (mg : Str → Option Value) (base : Heap) (k : Nat) (x : Str) (C : Addr) (sp : Sp) : Prop where
  ex : ∃ (f : Addr) (fd : FuncData) (ps : List Str), Mk K C f ∧ FnOk P w K mg base CX0 k f fd ps sp ∧ mg x = some (.ref C) ∧ Binds K fd ps []
section
variable {X : Cx} {k j : Nat} {x : Str} {C : Addr} {sp : Sp} {p pos : Pos} {e : Expr} {es : List Expr} {t : TA}
end
theorem Mf.of {P : Program} {w : World} {K : PySem.W.Frag} {mg : Str → Option Value} {base : Heap} {k : Nat} {x : Str} {C fa : Addr} {fd : FuncData} {ps : List Str} {sp : Sp} (M : Mk K C fa) (h : FnOk P w K mg base CX0 k fa fd ps sp) (hm : mg x = some (.ref C)) (b : Binds K fd ps []) : Mf P w K mg base k x C sp := ⟨fa, fd, ps, M, h, hm, b⟩
end DL
namespace DL
open PySem L2
/-! ### try: .. except C: .. -/
def tTryO (K : PySem.W.Frag) (c : Value) (ts : TS) (tb : WX → TS) : TS := fun D σ H => tb (wOnly K c (fun _ _ _ => ts) (fun _ _ _ _ => False) D) D σ H
section
variable {K : PySem.W.Frag} {pr : List Nat} {W : WX} {env : Env} {N B C M : Env → Prop} {R : Ret → Env → Prop} {c : Value} {tb : WX → TS} {ts : TS}
end
end DL
namespace L2
open PySem PySem.Spec PyProof.Rows
theorem noI_tuple_add : typeLookup (.type "tuple") (dunderI "add") = pure none := by rw [typeLookup_type, builtinLookup_eq_fast]; kernel_rfl
section
variable {prog : Program} {w : World} {A : Around} {E : Value → Shared → Prop} {s : Shared}
theorem icat_tup {t b : Addr} {vs ws : List Value} {Q : Value → Shared → Prop} (ht : IsTup s.heap t vs.toArray) (hb : IsTup s.heap b ws.toArray) (hv : vs ≠ [])
    (h1 : ws = [] → Q (.ref t) s) (h2 : ws ≠ [] → Q (.ref s.heap.objs.size) { s with heap := s.heap.push { cls := .type "tuple", data := .seq (vs ++ ws).toArray } })
    (hsz : vs.length + ws.length ≤ sizeLine) : wpAny (model prog w) A (inplaceOp .Add (.ref t) (.ref b)) Q E s := by
  obtain ⟨⟨cls, dd, data, sl⟩, ho, hc, n, hd⟩ := id ht
  obtain ⟨⟨cls2, dd2, data2, sl2⟩, ho2, hc2, n2, hd2⟩ := id hb
  simp only at hc hd hc2 hd2
  subst hc hd hc2 hd2
  have e : vs.toArray ++ ws.toArray = (vs ++ ws).toArray := by simp
  by_cases hw : ws = []
  · exact wpAny_inplaceOp_concat ⟨_, ho, rfl⟩ ⟨_, ho2, rfl⟩ noI_tuple_add noFill_tuple_add seq_tuple_add (call_meets PySem.F.slot_tuple_add ⟨_, ho, rfl⟩ PySem.F.entry_tuple_add (PySem.F.args_tuple_add_2 _ _)
      (tuple_addW1 t b vs.toArray ws.toArray n n2 dd dd2 sl sl2 (by simpa using hv) (by simp [hw])) ⟨ho, ho2, h1 hw⟩)
  · refine wpAny_inplaceOp_concat ⟨_, ho, rfl⟩ ⟨_, ho2, rfl⟩ noI_tuple_add noFill_tuple_add seq_tuple_add (call_meets PySem.F.slot_tuple_add ⟨_, ho, rfl⟩ PySem.F.entry_tuple_add (PySem.F.args_tuple_add_2 _ _)
      (tuple_addW2 t b vs.toArray ws.toArray n n2 dd dd2 sl sl2 (by simpa using hv) (by simpa using hw) (by rw [List.size_toArray, List.size_toArray]; exact hsz)) ⟨ho, ho2, ?_⟩)
    rw [e]
    exact h2 hw
end
theorem iop_catT {X : Cx} : OpR X (inplaceOp .Add) (rCatT X.K) := by
  intro pins s σ H x y v u Q I rx ry h
  obtain ⟨a, b, xs, ys, rfl, rfl, ha, hb, hx, hz, q1, q2⟩ := h
  cases rx
  cases ry
  obtain ⟨its, r1, p1, _⟩ := I.tuple ha
  obtain ⟨its2, r2, p2, _⟩ := I.tuple hb
  refine icat_tup p1 p2 (fun z => hx (r1.nil_iff.mp z)) (fun z => ⟨.ref a, H, I, rfl, q1 (r2.nil_iff.mp z)⟩) (fun z => ?_) (by rw [← r1.length, ← r2.length]; exact hz)
  refine ⟨.ref s.heap.objs.size, _, I.laid (t' := s.toks) (o := .tup (xs ++ ys)) (fun b ob q => Heap.get?_push_of_some _ q) (Nat.le_refl _) ?_, rfl, q2 (fun w => z (r2.nil_iff.mpr w)) _ (I.hok.fresh (Nat.le_refl _))⟩
  exact ⟨by rw [List.length_append]; exact hz, _, r1.append r2, IsTup.new _ _⟩
end L2
namespace DL
open PySem L2
def ipAddT (K : PySem.W.Frag) : TIp := fun x y H Q => ipAddU x y H Q ∨ rCatT K x y H Q
theorem ip_addT {X : Cx} {K : PySem.W.Frag} (e : X.K = K := by rfl) : PIp X .Add (ipAddT K) := by
  subst e
  intro pins s σ H x y v u Q I rx ry h
  rcases h with h | h
  · exact ip_addU pins s σ H x y v u Q I rx ry h
  · exact iop_catT pins s σ H x y v u Q I rx ry h
section
variable {K : PySem.W.Frag} {pr : List Nat} {W : WX} {te : TE} {env e1 : Env} {i : Nat} {l m : List D} {N B C : Env → Prop} {R : Ret → Env → Prop}
end
end DL

/-! ### repr of tuples, where nothing is under way: in the law's own def, called from the top -/
namespace L2
open PySem PySem.Spec PyProof.Rows
/-- what a def promises where it is called from the top -/
structure RunC (P : Program) (w : World) (K : PySem.W.Frag) (mg : Str → Option Value) (base : Heap) (CX : CXT) (f : Addr) (fd : FuncData) (ps : List Str) (sp : Sp) : Prop where
  run : ∀ (outer : List Env) (s : Shared) (H : Hp) (args : Args) (us : List Value) (vs : List V) (Q : VK) (E : XK), Env0 P w K mg base callerA outer s H → BindsTo s fd args (ps.zip us) → Vals vs us → sp vs H Q E →
    codeAny (model P w) callerA (.call (.ref f) args) (CR CX outer P w H s Q E) s
theorem RunC.imp {P : Program} {w : World} {K : PySem.W.Frag} {mg : Str → Option Value} {base : Heap} {CX : CXT} {f : Addr} {fd : FuncData} {ps : List Str} {sp sp' : Sp} (R : RunC P w K mg base CX f fd ps sp) (h : ∀ vs H Q E, sp' vs H Q E → sp vs H Q E) : RunC P w K mg base CX f fd ps sp' :=
  ⟨fun outer s H args us vs Q E e b r q => R.run outer s H args us vs Q E e b r (h _ _ _ _ q)⟩
end L2

namespace DL
open PySem L2
/-! ### what repr shows of data -/
section
variable {K : PySem.W.Frag} {e : Env} {r : Res} {l : List D}
end
section
variable {P : Program} {w : World} {K : PySem.W.Frag} {mg : Str → Option Value} {base : Heap} {x qn : Str} {st : Stmt} {fa : Addr} {fd : FuncData} {N ps : List Str} {k : Nat}
end
end DL

/-! ### methods of own classes that only read; isinstance of an instance -/
namespace DL
open PySem L2
/-- a method -/
structure Mt (P : Program) (w : World) (K : PySem.W.Frag) (mg : Str → Option Value) (base : Heap) (k : Nat) (C : Addr) (m : Str) (sp : Sp) : Prop where
  ex : ∃ (f : Addr) (fd : FuncData) (ps : List Str), Meth K C m f ∧ FnOk P w K mg base CX0 k f fd ps sp ∧ Binds K fd ps []
theorem Mt.of {P : Program} {w : World} {K : PySem.W.Frag} {mg : Str → Option Value} {base : Heap} {k : Nat} {m : Str} {C fa : Addr} {fd : FuncData} {ps : List Str} {sp : Sp} (M : Meth K C m fa) (h : FnOk P w K mg base CX0 k fa fd ps sp) (b : Binds K fd ps []) : Mt P w K mg base k C m sp := ⟨fa, fd, ps, M, h, b⟩
section
variable {X : Cx} {k j : Nat} {m : Str} {C : Addr} {sp : Sp} {apos pos : Pos} {o e : Expr} {es : List Expr} {t : TA} {ta : TE}
end
theorem look_none : ∀ {ks : List Str} {vs : List V} {ds : List D} {f : Str}, ks.length = ds.length → vs.length = ds.length → (ks.zip ds).lookup f = none → (ks.zip vs).lookup f = none
  | [], _, _, _, _, _, _ => rfl
  | k :: ks, [], _, _, _, _, _ => rfl
  | k :: ks, v :: vs, [], f, h, _, _ => by simp at h
  | k :: ks, v :: vs, d :: ds, f, h, h2, l => by
    rw [List.zip_cons_cons, List.lookup_cons] at l ⊢
    cases q : (f == k) with
    | true => rw [q] at l; cases l
    | false =>
      rw [q] at l
      exact look_none (by simpa using h) (by simpa using h2) l
section
variable {K : PySem.W.Frag} {env e e1 e2 : Env} {f : List D → D → Prop} {rs : List Res} {ds : List D} {d : D} {ta : TE} {ts : TA} {E : XK} {Cc : Addr} {m : Str} {fs : List (Str × D)}
/-- what isinstance asks of an own class -/
structure InC (K : PySem.W.Frag) (C : Addr) : Prop where
  cl : Cls K C
  ha : PySem.W.findIn K (.ref C) "__class__" = some (some (.builtin "object.__class__"))
  hn : PySem.W.specialIn K (.builtin "object.__class__") "__get__" = some (some (.builtin "getset_descriptor.__get__"))
  ht : PySem.W.takesIn K (.builtin "object.__class__") = some true
  hm : PySem.W.mroIn K C (.type "object") = some true
end
end DL
/-! ### repr of tuples, ints and texts, at the top -/
namespace DL
open PySem L2
section
variable {K : PySem.W.Frag} {e : Env} {r : Res} {l : List D} {i : Int} {x : Str}
end
end DL

/-! ### instances made by an __init__ that may raise -/
namespace L2
open PySem PySem.Spec PyProof.Rows
section
variable {X : Cx} {CX : CXT} {k : Nat} {f C : Addr} {fd : FuncData} {ps : List Str} {sp : Sp} {E : St → XK} {x : Str} {p pos : Pos} {e : Expr} {es : List Expr} {t : TA}
theorem run_makeS {pins : List (Addr × Obj)} {σ : St} {H : Hp} {s : Shared} {Q : VK} {us : List Value} {vs : List V} (M : Mk X.K C f) (F : FnOk X.prog X.w X.K X.mg X.base CX k f fd ps sp) (hr : Room (k + 1) X.A) (hb : Binds X.K fd ps [])
    (hx : PassesAt CX X σ (E σ)) (I : Inv X pins σ H s) (r : Vals vs us)
    (h : ∀ x dx, H x = none → H dx = none → dx ≠ x → sp (.ref x :: vs) (upd (upd H dx (.own x)) x (.ins C dx [])) (fun v H2 => v = .non ∧ Q (.ref x) H2) (E σ)) :
    wpAny (model X.prog X.w) X.A (call (.ref C) us) (EP X pins σ Q) X.xe s := by
  have hq := h (s.heap.objs.size + 1) s.heap.objs.size (I.hok.fresh (Nat.le_succ _)) (I.hok.fresh (Nat.le_refl _)) (Nat.ne_of_lt (Nat.lt_succ_self _))
  have I2 := Inv.made (C := C) I
  have r2 : Vals (V.ref (s.heap.objs.size + 1) :: vs) (Value.ref (s.heap.objs.size + 1) :: us) := .cons rfl r
  have hl : (Value.ref (s.heap.objs.size + 1) :: us).length = ps.length := by
    have e := r2.length
    rw [F.len _ _ _ _ hq] at e
    exact e.symm
  have b := hb _ (Value.ref (s.heap.objs.size + 1) :: us) I2.kIn (by rw [List.append_nil]; exact hl)
  rw [List.append_nil] at b
  refine wpAny_call (make_map (f := f) I.kIn M.makes M.init (beq_iff_eq.mp M.fn) (codeAny_mono (F.run _ X.stack _ _ ⟨Value.ref (s.heap.objs.size + 1) :: us, []⟩ (Value.ref (s.heap.objs.size + 1) :: us) _ _ (E σ) (hr.make C us [])
    (I2.env0.make C us []) b r2 hq) fun r s' hq' => ?_))
  cases r with
  | error e => exact hx pins _ _ e s' I2 hq'
  | ok fl =>
    cases fl with
    | ret u =>
      obtain ⟨v, H', I3, rv, ev, q3⟩ := I2.after hq'
      subst ev
      exact ⟨rv, ⟨V.ref (s.heap.objs.size + 1), H', I3, rfl, q3⟩⟩
    | next => exact False.elim hq'
    | brk => exact False.elim hq'
    | cont => exact False.elim hq'
def tMakeS (C : Addr) (sp : Sp) (E : St → XK) (t : TA) : TE := fun σ H Q => t σ H fun vs H1 => ∀ x dx, H1 x = none → H1 dx = none → dx ≠ x →
  sp (.ref x :: vs) (upd (upd H1 dx (.own x)) x (.ins C dx [])) (fun v H2 => v = .non ∧ Q (.ref x) H2) (E σ)
theorem pe_makeS (M : Mk X.K C f) (F : FnOk X.prog X.w X.K X.mg X.base CX k f fd ps sp) (hr : Room (k + 1) X.A) (hg : Gl X x) (hm : X.mg x = some (.ref C)) (hb : Binds X.K fd ps []) (hx : ∀ σ, PassesAt CX X σ (E σ))
    (ha : PA X (e :: es) t) (hdb : (x == ("__debug__" : Str)) = false := by decide) (he : starEach (e :: es) X.env = (false, eval e X.env) :: starEach es X.env := by rfl) (hpl : (backTo pos (starEach es X.env)).any (·.1) = false := by rfl) :
    PE X (.Call (.Name x p) (e :: es) [] pos) (tMakeS C sp E t) := by
  refine ⟨fun pins s σ H Q I h => ?_⟩
  refine wpAny_Call_Name_kw (ld_glob I hg hm ?_ hdb)
  refine PySem.W.callWith_K (h₀ := X.base) I.ok.mod.kin M.kp (thn (ha.run pos pins s σ H _ I h) fun us s1 ⟨vs, H1, I1, r, q⟩ => ⟨I1.kIn, ?_⟩) he hpl
  exact run_makeS M F hr hb (hx σ) I1 r q
end
end L2
namespace DL
open PySem L2
structure Mx (P : Program) (w : World) (K : PySem.W.Frag) (mg : Str → Option Value) (base : Heap) (k : Nat) (x : Str) (C : Addr) (sp : Sp) : Prop where
  ex : ∃ (f : Addr) (fd : FuncData) (ps : List Str), Mk K C f ∧ FnOk P w K mg base (L2.CX P w) k f fd ps sp ∧ mg x = some (.ref C) ∧ Binds K fd ps []
theorem Mx.of {P : Program} {w : World} {K : PySem.W.Frag} {mg : Str → Option Value} {base : Heap} {k : Nat} {x : Str} {C fa : Addr} {fd : FuncData} {ps : List Str} {sp : Sp} (M : Mk K C fa) (h : FnOk P w K mg base (L2.CX P w) k fa fd ps sp) (hm : mg x = some (.ref C)) (b : Binds K fd ps []) : Mx P w K mg base k x C sp := ⟨fa, fd, ps, M, h, hm, b⟩
section
variable {X : Cx} {W : WX} {k j : Nat} {x : Str} {C : Addr} {sp : Sp} {p pos : Pos} {e : Expr} {es : List Expr} {t : TA}
theorem pe_mx (c : Mx X.prog X.w X.K X.mg X.base k x C sp) (tk : Takes X W) (hr : Room j X.A) (hk : k + 1 ≤ j) (hg : Gl X x) (ha : PA X (e :: es) t)
    (hdb : (x == ("__debug__" : Str)) = false := by decide) (he : starEach (e :: es) X.env = (false, eval e X.env) :: starEach es X.env := by rfl) (hpl : (backTo pos (starEach es X.env)).any (·.1) = false := by rfl) :
    PE X (.Call (.Name x p) (e :: es) [] pos) (tMakeS C sp (WE W) t) := by
  obtain ⟨f, fd, ps, M, F, hm, b⟩ := c.ex
  exact pe_makeS M F (hr.mono hk) hg hm b (fun σ => passAt tk σ) ha hdb he hpl
/-- .. and does not raise, where it is made -/
theorem pe_mx0 (c : Mx X.prog X.w X.K X.mg X.base k x C sp) (hr : Room j X.A) (hk : k + 1 ≤ j) (hg : Gl X x) (ha : PA X (e :: es) t)
    (hdb : (x == ("__debug__" : Str)) = false := by decide) (he : starEach (e :: es) X.env = (false, eval e X.env) :: starEach es X.env := by rfl) (hpl : (backTo pos (starEach es X.env)).any (·.1) = false := by rfl) :
    PE X (.Call (.Name x p) (e :: es) [] pos) (tMake C sp [] E0 t) := by
  obtain ⟨f, fd, ps, M, F, hm, b⟩ := c.ex
  exact pe_make M F (hr.mono hk) hg hm b .nil passL ha hdb he hpl
end
section
variable {K : PySem.W.Frag} {pr : List Nat} {W : WX} {ts : TA} {env e1 : Env} {rs : List Res} {ds : List D} {Cc Ce : Addr} {fs : List (Str × D)} {b : Bs} {F1 H1 : Hp} {oa : Nat → Addr} {σ : L2.St} {vs : List V} {x dx : Addr}
end
section
variable {P : Program} {w : World} {K : PySem.W.Frag} {mg : Str → Option Value} {base : Heap} {x qn : Str} {st : Stmt} {fa : Addr} {fd : FuncData} {N ps : List Str} {k : Nat}
end
end DL

namespace DL
open PySem L2
/-! ### rows of bits, in plain Lean -/
def Bits (l : List Int) : Prop := ∀ b, b ∈ l → b = 0 ∨ b = 1
theorem Bits.nil : Bits [] := fun _ h => by cases h
theorem Bits.append {l m : List Int} (h1 : Bits l) (h2 : Bits m) : Bits (l ++ m) := fun b h => by
  rcases List.mem_append.mp h with q | q
  · exact h1 b q
  · exact h2 b q
/-! bytes in bits -/
def val (l : List Int) : Int := l.foldl (fun n b => n * 256 + b) 0
end DL
namespace DL
open PySem L2
theorem sIx_some {n d : Nat} {v : Int} (h : 0 ≤ v) : HT.sIx n d (some v) = min v.toNat n := by
  show (if v < 0 then (v + (n : Int)).toNat else min v.toNat n) = _
  rw [if_neg (by omega)]
end DL

/-! ### texts: one sign in a text, join, index; a written dict; reversed(range(n)) -/
namespace DL
open PySem L2
def rSign (neg : Bool) : R2 := fun x y H Q => ∃ (c : Nat) (z : Str), x = .str ⟨#[c]⟩ ∧ y = .str z ∧ Q (.bl (if neg then !decide (c ∈ z.cps.toList) else decide (c ∈ z.cps.toList))) H
def rJoin (K : PySem.W.Frag) : V → List V → Hp → VK → Prop := fun x xs H Q => ∃ a p, ∃ ys : List Str, x = .str a ∧ xs = [.ref p] ∧ (SqL K H p (ys.map V.str) ∨ SqT K H p (ys.map V.str)) ∧
    (ys.map (·.length)).sum + ys.length * a.length ≤ 16777216 ∧ Q (.str (Txt.join a ys)) H
def rIdxS : V → List V → Hp → VK → Prop := fun x xs H Q => ∃ (a b : Str) (k : Nat), x = .str a ∧ xs = [.str b] ∧ Txt.index0 a b = some k ∧ Q (.int (k : Nat)) H
section
variable {X : Cx} {o e : Expr} {to te : TE} {apos pos : Pos}
theorem pe_joinS {K : PySem.W.Frag} (ho : PE X o to) (he : PE X e te) (hs : starEach [e] X.env = [(false, eval e X.env)] := by rfl) (hbase : attributeBase o "join" X.env (eval o X.env) = eval o X.env := by rfl) (hline : (apos.endLine == pos.line) = true := by rfl) (hK : X.K = K := by rfl) :
    PE X (.Call (.Attribute o "join" apos) [e] [] pos) (tM1 (rJoin K) to te) := by subst hK; exact pe_join ho he hs hbase hline
end
section
variable {K : PySem.W.Frag} {e env e1 e2 : Env} {to te : TE} {r : Res} {a b z : Str} {ys : List Str} {k : Nat} {c : Nat} {neg : Bool} {da : Addr} {w : World} {d : D} {n : Int}
end
end DL

/-! ## plain functions for the defs (no program in sight) -/
namespace SM
open PySem L2

/-- data; an object that may change is told by its place in a plain heap -/
inductive D where
  | non | bl (b : Bool) | int (i : Int) | str (x : Str) | ty (n : String)
  | tup (l : List D) | wt (l : List D) | scr (l : List D) | ref (i : Nat) | nm (x : String) | exc (C : String)
instance : Inhabited D := ⟨.non⟩
inductive O where
  | lst (l : List D)
  /-- t: its keys are tuples; lk: a loop walks it -/
  | dic (t lk : Bool) (kvs : List (D × D))
  | obj (C : String) (fs : List (String × D))
abbrev Hs := List O
abbrev Sl := List (Option D)
inductive RE (α : Type) where
  | ok (a : α) (A : Hs) | exc (C : String) (A : Hs) | stuck
def RE.bind {α β : Type} (r : RE α) (f : α → Hs → RE β) : RE β := match r with
  | .ok a A => f a A
  | .exc C A => .exc C A
  | .stuck => .stuck
/-- an exception has no road from here -/
def RE.noX {α : Type} : RE α → RE α
  | .ok a A => .ok a A
  | _ => .stuck
abbrev E := Sl → Hs → RE D
abbrev Tt := Sl → Hs → RE Bool
abbrev As := Sl → Hs → RE (List D)
abbrev Fn := List D → Hs → RE D
inductive RS where
  | nx (σ : Sl) (A : Hs) | bk (σ : Sl) (A : Hs) | ct (σ : Sl) (A : Hs) | rt (d : D) (A : Hs) | exc (C : String) (σ : Sl) (A : Hs) | stuck
abbrev S := Sl → Hs → RS
/-- a new object -/
def alloc (A : Hs) (o : O) : RE D := .ok (.ref A.length) (A ++ [o])

def eVar (i : Nat) : E := fun env A => match env[i]? with
  | some (some d) => .ok d A
  | _ => .stuck
def eC (d : D) : E := fun _ A => .ok d A
def eOp (o : D → D → Hs → RE D) (a b : E) : E := fun env A => (a env A).bind fun x A1 => (b env A1).bind fun y A2 => o x y A2
def eUn (o : D → Hs → RE D) (a : E) : E := fun env A => (a env A).bind fun x A1 => o x A1
def aNil : As := fun _ A => .ok [] A
def aCons (a : E) (as : As) : As := fun env A => (a env A).bind fun x A1 => (as env A1).bind fun xs A2 => .ok (x :: xs) A2
def eCB (f : List D → Hs → RE D) (as : As) : E := fun env A => (as env A).bind fun ds A1 => f ds A1
/-- a call where nothing that is raised has a road -/
def eCall0 (f : Fn) (as : As) : E := fun env A => (as env A).bind fun ds A1 => (f ds A1).noX
def eCall (f : Fn) (as : As) : E := fun env A => (as env A).bind fun ds A1 => f ds A1
def make (C : String) (f : Fn) (ds : List D) (A1 : Hs) : RE D := match f (.ref A1.length :: ds) (A1 ++ [.obj C []]) with
    | .ok .non A2 => .ok (.ref A1.length) A2
    | .exc X A2 => .exc X A2
    | _ => .stuck
def eMake0 (C : String) (f : Fn) (as : As) : E := fun env A => (as env A).bind fun ds A1 => (make C f ds A1).noX
def eMake (C : String) (f : Fn) (as : As) : E := fun env A => (as env A).bind fun ds A1 => make C f ds A1
/-- the class of an object, its fields -/
def objAt (A : Hs) : D → Option (String × List (String × D))
  | .ref i => match A[i]? with
    | some (.obj C fs) => some (C, fs)
    | _ => none
  | _ => none
/-- what holds of all -/
def AllC (P : String → Prop) : List String → Prop
  | [] => True
  | c :: r => P c ∧ AllC P r
theorem AllC.of {P : String → Prop} {c : String} : ∀ {l : List String}, AllC P l → c ∈ l → P c
  | _ :: r, h, q => by
    rcases List.mem_cons.mp q with z | z
    · rw [z]; exact h.1
    · exact AllC.of h.2 z
def methOf (m : String) (tbl : List (String × Fn)) (A : Hs) (x : D) : Option Fn := match objAt A x with
  | some (C, fs) => if (fs.lookup m).isSome then none else tbl.lookup C
  | none => none
def eMeth (m : String) (tbl : List (String × Fn)) (o : E) (as : As) : E := fun env A => (o env A).bind fun x A1 => match methOf m tbl A1 x with
  | some f => (as env A1).bind fun ds A2 => f (x :: ds) A2
  | none => .stuck
def eMeth0 (m : String) (tbl : List (String × Fn)) (o : E) (as : As) : E := fun env A => (o env A).bind fun x A1 => match methOf m tbl A1 x with
  | some f => (as env A1).bind fun ds A2 => (f (x :: ds) A2).noX
  | none => .stuck
/-- o.f, o of one of the classes cs -/
def getFld (cs : List String) (f : String) (A : Hs) (x : D) : Option D := match objAt A x with
  | some (C, fs) => if C ∈ cs then fs.lookup f else none
  | none => none
def eFld (cs : List String) (f : String) (o : E) : E := fun env A => (o env A).bind fun x A1 => match getFld cs f A1 x with
  | some d => .ok d A1
  | none => .stuck
def eAnd (a b : E) : E := fun env A => (a env A).bind fun x A1 => match x with
  | .bl true => b env A1
  | .bl false => .ok (.bl false) A1
  | _ => .stuck
def eOr (a b : E) : E := fun env A => (a env A).bind fun x A1 => match x with
  | .bl false => b env A1
  | .bl true => .ok (.bl true) A1
  | _ => .stuck
def eNot (a : E) : E := fun env A => (a env A).bind fun x A1 => match x with
  | .bl c => .ok (.bl (!c)) A1
  | _ => .stuck
/-- a < b < c -/
def eCh (o o' : D → D → Hs → RE D) (a b c : E) : E := fun env A => (a env A).bind fun x A1 => (b env A1).bind fun y A2 => (o x y A2).bind fun z A3 => match z with
  | .bl false => .ok (.bl false) A3
  | .bl true => (c env A3).bind fun w A4 => o' y w A4
  | _ => .stuck
def tOf (a : E) : Tt := fun env A => (a env A).bind fun x A1 => match x with
  | .bl c => .ok c A1
  | _ => .stuck
def tAn (a b : Tt) : Tt := fun env A => (a env A).bind fun c A1 => if c = true then b env A1 else .ok false A1
def tOo (a b : Tt) : Tt := fun env A => (a env A).bind fun c A1 => if c = true then .ok true A1 else b env A1
def tNo (a : Tt) : Tt := fun env A => (a env A).bind fun c A1 => .ok (!c) A1
def tYe : Tt := fun _ A => .ok true A
def eIf (t : Tt) (a b : E) : E := fun env A => (t env A).bind fun c A1 => if c = true then a env A1 else b env A1
def eTup (as : As) : E := fun env A => (as env A).bind fun ds A1 => if ds.length ≤ sizeLine then .ok (.tup ds) A1 else .stuck
def eLst (as : As) : E := fun env A => (as env A).bind fun ds A1 => if ds.length ≤ sizeLine then alloc A1 (.lst ds) else .stuck
def eDNew (t : Bool) : E := fun _ A => alloc A (.dic t false [])
def oNo : Sl → Hs → RE (Option Int) := fun _ A => .ok none A
def oSo (a : E) : Sl → Hs → RE (Option Int) := fun env A => (a env A).bind fun x A1 => match x with
  | .int i => .ok (some i) A1
  | _ => .stuck
def eSl (o : D → Option Int → Option Int → Hs → RE D) (a : E) (l h : Sl → Hs → RE (Option Int)) : E := fun env A => (a env A).bind fun x A1 => (l env A1).bind fun lo A2 => (h env A2).bind fun hi A3 => o x lo hi A3

/-! ### statements -/
def sSeq (a b : S) : S := fun env A => match a env A with
  | .nx env' A' => b env' A'
  | r => r
def sNx : S := fun env A => .nx env A
def sBk : S := fun env A => .bk env A
def sCt : S := fun env A => .ct env A
def ofE (env : Sl) (r : RE D) (k : D → Hs → RS) : RS := match r with
  | .ok d A => k d A
  | .exc C A => .exc C env A
  | .stuck => .stuck
def ofT (env : Sl) (r : RE Bool) (k : Bool → Hs → RS) : RS := match r with
  | .ok d A => k d A
  | .exc C A => .exc C env A
  | .stuck => .stuck
def sDrop (a : E) : S := fun env A => ofE env (a env A) fun _ A1 => .nx env A1
def sRet (a : E) : S := fun env A => ofE env (a env A) fun d A1 => .rt d A1
def sRetN : S := fun _ A => .rt .non A
def sIf (t : Tt) (a b : S) : S := fun env A => ofT env (t env A) fun c A1 => if c = true then a env A1 else b env A1
/-- targets -/
abbrev G := D → Sl → Hs → Option Sl
def gN (i : Nat) : G := fun d env _ => some (env.set i (some d))
def gAll : List G → List D → Sl → Hs → Option Sl
  | [], [], env, _ => some env
  | g :: gs, d :: ds, env, A => match g d env A with
    | some env' => gAll gs ds env' A
    | none => none
  | _, _, _, _ => none
def gT (gs : List G) : G := fun d env A => match d with
  | .tup ds => gAll gs ds env A
  | _ => none
def sAsg (a : E) (g : G) : S := fun env A => ofE env (a env A) fun d A1 => match g d env A1 with
  | some env' => .nx env' A1
  | none => .stuck
def sSet (i : Nat) (a : E) : S := fun env A => ofE env (a env A) fun d A1 => .nx (env.set i (some d)) A1
/-- a, b = x, y -/
def sPar (i j : Nat) (as : As) : S := fun env A => match as env A with
  | .ok [x, y] A1 => .nx ((env.set i (some x)).set j (some y)) A1
  | .exc C A1 => .exc C env A1
  | _ => .stuck
def sAug (i : Nat) (o : D → D → Hs → RE D) (a : E) : S := fun env A => match env[i]? with
  | some (some x) => ofE env (a env A) fun y A1 => ofE env (o x y A1) fun z A2 => .nx (env.set i (some z)) A2
  | _ => .stuck
def putF (f : String) (d : D) : List (String × D) → List (String × D)
  | [] => [(f, d)]
  | (g, e) :: r => if g = f then (g, d) :: r else (g, e) :: putF f d r
def setFld (cs : List String) (A : Hs) (x : D) (f : String) (d : D) : Option Hs := match x with
  | .ref i => match A[i]? with
    | some (.obj C fs) => if C ∈ cs ∧ fs.length < 999 then some (A.set i (.obj C (putF f d fs))) else none
    | _ => none
  | _ => none
/-- o.f = e -/
def sFl (cs : List String) (f : String) (o a : E) : S := fun env A => ofE env (a env A) fun d A1 => ofE env (o env A1) fun x A2 => match setFld cs A2 x f d with
  | some A3 => .nx env A3
  | none => .stuck
/-- o.f op= e -/
def sFlAug (cs : List String) (f : String) (op : D → D → Hs → RE D) (o a : E) : S := fun env A => ofE env (o env A) fun x A1 => match getFld cs f A1 x with
  | some v => ofE env (a env A1) fun y A2 => ofE env (op v y A2) fun z A3 => match setFld cs A3 x f z with
    | some A4 => .nx env A4
    | none => .stuck
  | none => .stuck
/-- what is walked: the items; what must stand for the walk to go on -/
structure Wk where
  ds : List D
  gd : Hs → Prop
open Classical in
noncomputable def forL (g : G) (b : S) (gd : Hs → Prop) : List D → S
  | [], env, A => if gd A then .nx env A else .stuck
  | d :: ds, env, A => if gd A then match g d env A with
    | some env1 => match b env1 A with
      | .nx env2 A2 => forL g b gd ds env2 A2
      | .ct env2 A2 => forL g b gd ds env2 A2
      | .bk env2 A2 => .nx env2 A2
      | r => r
    | none => .stuck
    else .stuck
noncomputable def sFor (w : Sl → Hs → RE Wk) (g : G) (b : S) : S := fun env A => match w env A with
  | .ok k A1 => forL g b k.gd k.ds env A1
  | .exc C A1 => .exc C env A1
  | .stuck => .stuck
/-- some turns of a while -/
def whN (t : Tt) (b : S) : Nat → S
  | 0, _, _ => .stuck
  | n + 1, env, A => ofT env (t env A) fun c A1 => if c = true then match b env A1 with
      | .nx env2 A2 => whN t b n env2 A2
      | .ct env2 A2 => whN t b n env2 A2
      | .bk env2 A2 => .nx env2 A2
      | r => r
    else .nx env A1
open Classical in
noncomputable def sWh (t : Tt) (b : S) : S := fun env A => if h : ∃ n, whN t b n env A ≠ .stuck then whN t b h.choose env A else .stuck
/-- the slots of a block's own names, not known -/
def wipeS (env : Sl) : List Nat → Sl
  | [] => env
  | v :: vs => (wipeS env vs).set v none
open Classical in
noncomputable def lcL (g : G) (t : Tt) (a : E) (gd : Hs → Prop) (env : Sl) : List D → List D → Hs → RE (List D)
  | [], acc, A => if gd A then .ok acc A else .stuck
  | d :: ds, acc, A => if gd A then match g d env A with
    | some env1 => match t env1 A with
      | .ok true A1 => match a env1 A1 with
        | .ok x A2 => if acc.length < sizeLine then lcL g t a gd env ds (acc ++ [x]) A2 else .stuck
        | _ => .stuck
      | .ok false A1 => lcL g t a gd env ds acc A1
      | _ => .stuck
    | none => .stuck
    else .stuck
/-- a list comprehension; vs: the block's own slots -/
noncomputable def eLc (w : Sl → Hs → RE Wk) (g : G) (t : Tt) (a : E) (vs : List Nat) : E := fun env A => (w env A).bind fun k A1 => match lcL g t a k.gd (wipeS env vs) k.ds [] A1 with
  | .ok l A2 => alloc A2 (.lst l)
  | _ => .stuck
/-- a def by its body: n parameters, m names -/
def mkFn (n m : Nat) (b : S) : Fn := fun ds A => if ds.length = n then match b (ds.map some ++ List.replicate (m - n) none) A with
    | .nx _ A' => .ok .non A'
    | .rt d A' => .ok d A'
    | .exc C _ A' => .exc C A'
    | _ => .stuck
  else .stuck
/-- raise C('..') -/
def sRaise (C : String) : S := fun env A => .exc C env A
/-- try: b / except (catches) as i: slot j = it -/
def sTryK (catches : List String) (i j : Nat) (b : S) : S := fun env A => match b env A with
  | .exc C env1 A1 => if C ∈ catches then .nx (((env1.set i (some (.exc C))).set j (some (.exc C))).set i none) A1 else .stuck
  | r => r
/-- try: b / except (catches): s -/
def sTryO (catches : List String) (b s : S) : S := fun env A => match b env A with
  | .exc C env1 A1 => if C ∈ catches then s env1 A1 else .stuck
  | r => r

theorem whN_mono {t : Tt} {b : S} : ∀ {n : Nat} {env : Sl} {A : Hs}, whN t b n env A ≠ .stuck → whN t b (n + 1) env A = whN t b n env A := by
  intro n
  induction n with
  | zero => intro env A h; exact absurd rfl h
  | succ n ih =>
    intro env A h
    unfold whN at h ⊢
    cases ht : t env A with
    | stuck => rw [ht] at h; rfl
    | exc C A1 => rfl
    | ok c A1 =>
      rw [ht] at h
      cases c with
      | false => rfl
      | true =>
        simp only [ofT, if_true] at h ⊢
        cases hb : b env A1 with
        | nx e2 A2 => rw [hb] at h; exact ih h
        | ct e2 A2 => rw [hb] at h; exact ih h
        | bk _ _ => rfl
        | rt _ _ => rfl
        | exc _ _ _ => rfl
        | stuck => rfl
theorem whN_le {t : Tt} {b : S} {env : Sl} {A : Hs} {n k : Nat} (h : whN t b n env A ≠ .stuck) : whN t b (n + k) env A = whN t b n env A := by
  induction k with
  | zero => rfl
  | succ k ih => rw [← ih, ← Nat.add_assoc]; exact whN_mono (by rw [ih]; exact h)
theorem sWh_eq {t : Tt} {b : S} {env : Sl} {A : Hs} {n : Nat} (h : whN t b n env A ≠ .stuck) : sWh t b env A = whN t b n env A := by
  have hx : ∃ n, whN t b n env A ≠ .stuck := ⟨n, h⟩
  unfold sWh
  rw [dif_pos hx]
  have h2 := hx.choose_spec
  rcases Nat.le_total hx.choose n with q | q
  · have := whN_le (k := n - hx.choose) h2
    rw [show hx.choose + (n - hx.choose) = n by omega] at this
    exact this.symm
  · have := whN_le (k := hx.choose - n) h
    rw [show n + (hx.choose - n) = hx.choose by omega] at this
    exact this
/-- one turn -/
theorem sWh_turn {t : Tt} {b : S} {env : Sl} {A : Hs} : sWh t b env A = ofT env (t env A) fun c A1 => if c = true then match b env A1 with
      | .nx env2 A2 => sWh t b env2 A2
      | .ct env2 A2 => sWh t b env2 A2
      | .bk env2 A2 => .nx env2 A2
      | r => r
    else .nx env A1 := by
  have back : ∀ {env : Sl} {A : Hs}, sWh t b env A ≠ .stuck → ∃ n, whN t b n env A ≠ .stuck := fun {env A} h => by
    unfold sWh at h
    split at h
    · assumption
    · exact absurd rfl h
  have stk : ∀ {env : Sl} {A : Hs}, (∀ n, whN t b n env A = .stuck) → sWh t b env A = .stuck := fun {env A} h => by
    unfold sWh
    rw [dif_neg]
    rintro ⟨n, hn⟩
    exact hn (h n)
  cases ht : t env A with
  | stuck =>
    rw [stk fun n => by cases n with
      | zero => rfl
      | succ n => unfold whN; rw [ht]; rfl]
    rfl
  | exc C A1 =>
    have e : whN t b 1 env A = .exc C env A1 := by unfold whN; rw [ht]; rfl
    rw [sWh_eq (n := 1) (by rw [e]; simp), e]
    rfl
  | ok c A1 =>
    cases c with
    | false =>
      have e : whN t b 1 env A = .nx env A1 := by unfold whN; rw [ht]; rfl
      rw [sWh_eq (n := 1) (by rw [e]; simp), e]
      rfl
    | true =>
      simp only [ofT, if_true]
      have e : ∀ n, whN t b (n + 1) env A = match b env A1 with
        | .nx env2 A2 => whN t b n env2 A2
        | .ct env2 A2 => whN t b n env2 A2
        | .bk env2 A2 => .nx env2 A2
        | r => r := fun n => by
        conv => lhs; unfold whN
        rw [ht]; rfl
      have fin : ∀ r, r ≠ .stuck → (∀ n, whN t b (n + 1) env A = r) → sWh t b env A = r := fun r hr h => by rw [sWh_eq (n := 1) (by rw [h 0]; exact hr), h 0]
      have again : ∀ e2 A2, (∀ n, whN t b (n + 1) env A = whN t b n e2 A2) → sWh t b env A = sWh t b e2 A2 := fun e2 A2 h => by
        by_cases q : ∃ n, whN t b n e2 A2 ≠ .stuck
        · obtain ⟨n, hn⟩ := q
          rw [sWh_eq hn, sWh_eq (n := n + 1) (by rw [h n]; exact hn), h n]
        · have q' : ∀ n, whN t b n e2 A2 = .stuck := fun n => Classical.byContradiction fun z => q ⟨n, z⟩
          rw [stk q', stk fun n => by cases n with
            | zero => rfl
            | succ n => rw [h n, q' n]]
      cases hb : b env A1 with
      | nx e2 A2 => exact again e2 A2 fun n => by rw [e, hb]
      | ct e2 A2 => exact again e2 A2 fun n => by rw [e, hb]
      | bk e2 A2 => exact fin _ (by simp) fun n => by rw [e, hb]
      | rt d A2 => exact fin _ (by simp) fun n => by rw [e, hb]
      | exc C e2 A2 => exact fin _ (by simp) fun n => by rw [e, hb]
      | stuck => exact stk fun n => by cases n with
          | zero => rfl
          | succ n => rw [e, hb]
end SM

/-! ## how the plain functions stand to the program: the relation of the heaps -/
namespace SM
open PySem L2
open DL (Ex ExK)

/-- m begins m' -/
abbrev Pre (m m' : List Addr) : Prop := ∃ r, m' = m ++ r
theorem Pre.refl (m : List Addr) : Pre m m := ⟨[], by simp⟩
theorem Pre.trans {a b c : List Addr} (x : Pre a b) (y : Pre b c) : Pre a c := by
  obtain ⟨r, rfl⟩ := x; obtain ⟨s, rfl⟩ := y; exact ⟨r ++ s, by simp⟩
theorem Pre.get {m m' : List Addr} {i : Nat} {a : Addr} (x : Pre m m') (h : m[i]? = some a) : m'[i]? = some a := by
  obtain ⟨r, rfl⟩ := x
  rw [List.getElem?_append_left (List.getElem?_eq_some_iff.mp h).1]; exact h
theorem Pre.mem {m m' : List Addr} {a : Addr} (x : Pre m m') (h : a ∈ m) : a ∈ m' := by
  obtain ⟨r, rfl⟩ := x; exact List.mem_append_left _ h

mutual
inductive Rep (K : PySem.W.Frag) (ca : String → Addr) (F : Hp) (m : List Addr) : V → D → Prop
  | non : Rep K ca F m .non .non
  | bl (b : Bool) : Rep K ca F m (.bl b) (.bl b)
  | int (i : Int) : Rep K ca F m (.int i) (.int i)
  | str (x : Str) : Rep K ca F m (.str x) (.str x)
  | ty (n : String) : Rep K ca F m (.ty n) (.ty n)
  | tup {a : Addr} {vs : List V} {l : List D} : F a = some (.tup vs) → RepL K ca F m vs l → Rep K ca F m (.ref a) (.tup l)
  | wt {a : Addr} {vs : List V} {l : List D} : SqT K F a vs → RepL K ca F m vs l → Rep K ca F m (.ref a) (.wt l)
  | scr {a : Addr} {vs : List V} {l : List D} : SqL K F a vs → RepL K ca F m vs l → Rep K ca F m (.ref a) (.scr l)
  | ref {a : Addr} {i : Nat} : m[i]? = some a → Rep K ca F m (.ref a) (.ref i)
  | nm (x : String) : Rep K ca F m (.ref (ca x)) (.nm x)
  | exc {a : Addr} {C : String} : F a = some (ExK (ca C) a) → Rep K ca F m (.ref a) (.exc C)
inductive RepL (K : PySem.W.Frag) (ca : String → Addr) (F : Hp) (m : List Addr) : List V → List D → Prop
  | nil : RepL K ca F m [] []
  | cons {v : V} {vs : List V} {d : D} {ds : List D} : Rep K ca F m v d → RepL K ca F m vs ds → RepL K ca F m (v :: vs) (d :: ds)
end
section
variable {K : PySem.W.Frag} {ca : String → Addr} {F F' : Hp} {m m' : List Addr}
mutual
theorem Rep.mono (e : Ex F F') (p : Pre m m') : ∀ {v : V} {d : D}, Rep K ca F m v d → Rep K ca F' m' v d
  | _, _, .non => .non
  | _, _, .bl b => .bl b
  | _, _, .int i => .int i
  | _, _, .str x => .str x
  | _, _, .ty n => .ty n
  | _, _, .tup h r => .tup (e _ _ h) (RepL.mono e p r)
  | _, _, .wt h r => .wt (e.t h) (RepL.mono e p r)
  | _, _, .scr h r => .scr (e.l h) (RepL.mono e p r)
  | _, _, .ref h => .ref (p.get h)
  | _, _, .nm x => .nm x
  | _, _, .exc h => .exc (e _ _ h)
theorem RepL.mono (e : Ex F F') (p : Pre m m') : ∀ {vs : List V} {ds : List D}, RepL K ca F m vs ds → RepL K ca F' m' vs ds
  | _, _, .nil => .nil
  | _, _, .cons h r => .cons (Rep.mono e p h) (RepL.mono e p r)
end
theorem RepL.length : ∀ {vs : List V} {ds : List D}, RepL K ca F m vs ds → vs.length = ds.length
  | _, _, .nil => rfl
  | _, _, .cons _ r => by rw [List.length_cons, List.length_cons, r.length]
theorem RepL.get : ∀ {vs : List V} {ds : List D} {i : Nat} {d : D}, RepL K ca F m vs ds → ds[i]? = some d → ∃ v, vs[i]? = some v ∧ Rep K ca F m v d
  | _, _, _, _, .nil, h => by simp at h
  | _, _, 0, _, .cons h _, e => by simp at e; subst e; exact ⟨_, rfl, h⟩
  | _, _, i + 1, _, .cons _ r, e => by
    obtain ⟨v, h1, h2⟩ := RepL.get (i := i) r (by simpa using e)
    exact ⟨v, by simpa using h1, h2⟩
theorem RepL.append : ∀ {vs ws : List V} {ds es : List D}, RepL K ca F m vs ds → RepL K ca F m ws es → RepL K ca F m (vs ++ ws) (ds ++ es)
  | _, _, _, _, .nil, s => s
  | _, _, _, _, .cons h r, s => .cons h (RepL.append r s)
theorem RepL.take : ∀ {vs : List V} {ds : List D} (n : Nat), RepL K ca F m vs ds → RepL K ca F m (vs.take n) (ds.take n)
  | _, _, 0, _ => .nil
  | _, _, _ + 1, .nil => .nil
  | _, _, n + 1, .cons h r => .cons h (RepL.take n r)
theorem RepL.drop : ∀ {vs : List V} {ds : List D} (n : Nat), RepL K ca F m vs ds → RepL K ca F m (vs.drop n) (ds.drop n)
  | _, _, 0, r => r
  | _, _, _ + 1, .nil => .nil
  | _, _, n + 1, .cons _ r => RepL.drop n r
theorem RepL.set {v : V} {d : D} (h : Rep K ca F m v d) : ∀ {vs : List V} {ds : List D} (n : Nat), RepL K ca F m vs ds → RepL K ca F m (vs.set n v) (ds.set n d)
  | _, _, _, .nil => .nil
  | _, _, 0, .cons _ r => .cons h r
  | _, _, n + 1, .cons q r => .cons q (RepL.set h n r)
theorem RepL.reverse : ∀ {vs : List V} {ds : List D}, RepL K ca F m vs ds → RepL K ca F m vs.reverse ds.reverse
  | _, _, .nil => .nil
  | _, _, .cons h r => by
    rw [List.reverse_cons, List.reverse_cons]
    exact (RepL.reverse r).append (.cons h .nil)
theorem RepL.eraseIdx : ∀ {vs : List V} {ds : List D} (n : Nat), RepL K ca F m vs ds → RepL K ca F m (vs.eraseIdx n) (ds.eraseIdx n)
  | _, _, _, .nil => .nil
  | _, _, 0, .cons _ r => r
  | _, _, n + 1, .cons q r => .cons q (RepL.eraseIdx n r)
theorem RepL.flatRep {vs : List V} {ds : List D} (h : RepL K ca F m vs ds) : ∀ n : Nat, RepL K ca F m (List.replicate n vs).flatten (List.replicate n ds).flatten
  | 0 => .nil
  | n + 1 => by
    rw [List.replicate_succ, List.replicate_succ, List.flatten_cons, List.flatten_cons]
    exact h.append (RepL.flatRep h n)
/-- ints, truths, texts: the values are those of the data -/
theorem RepL.ints : ∀ {vs : List V} {ns : List Int}, RepL K ca F m vs (ns.map D.int) → vs = ns.map V.int
  | _, [], h => by cases h; rfl
  | _, n :: r, h => by
    cases h with
    | cons q t => cases q; rw [RepL.ints t]; rfl
theorem RepL.bools : ∀ {vs : List V} {ns : List Bool}, RepL K ca F m vs (ns.map D.bl) → vs = ns.map V.bl
  | _, [], h => by cases h; rfl
  | _, n :: r, h => by
    cases h with
    | cons q t => cases q; rw [RepL.bools t]; rfl
theorem RepL.strs : ∀ {vs : List V} {ns : List Str}, RepL K ca F m vs (ns.map D.str) → vs = ns.map V.str
  | _, [], h => by cases h; rfl
  | _, n :: r, h => by
    cases h with
    | cons q t => cases q; rw [RepL.strs t]; rfl
theorem RepL.of_ints : ∀ {ns : List Int}, RepL K ca F m (ns.map V.int) (ns.map D.int)
  | [] => .nil
  | n :: _ => .cons (.int n) RepL.of_ints
end
/-- keys -/
def kD : Key → D
  | .inl i => .int i
  | .inr x => .str x
def kT (l : List Key) : D := .tup (l.map kD)
inductive KvR (K : PySem.W.Frag) (ca : String → Addr) (F : Hp) (m : List Addr) {κ δ : Type} (kd : κ → δ) : List (κ × V) → List (δ × D) → Prop
  | nil : KvR K ca F m kd [] []
  | cons {k : κ} {v : V} {d : D} {r : List (κ × V)} {s : List (δ × D)} : Rep K ca F m v d → KvR K ca F m kd r s → KvR K ca F m kd ((k, v) :: r) ((kd k, d) :: s)
theorem KvR.mono {K : PySem.W.Frag} {ca : String → Addr} {F F' : Hp} {m m' : List Addr} {κ δ : Type} {kd : κ → δ} (e : Ex F F') (p : Pre m m') : ∀ {l : List (κ × V)} {s : List (δ × D)}, KvR K ca F m kd l s → KvR K ca F' m' kd l s
  | _, _, .nil => .nil
  | _, _, .cons h r => .cons (h.mono e p) (KvR.mono e p r)
theorem KvR.length {K : PySem.W.Frag} {ca : String → Addr} {F : Hp} {m : List Addr} {κ δ : Type} {kd : κ → δ} : ∀ {l : List (κ × V)} {s : List (δ × D)}, KvR K ca F m kd l s → l.length = s.length
  | _, _, .nil => rfl
  | _, _, .cons _ r => by rw [List.length_cons, List.length_cons, KvR.length r]
/-- the object u stands at a, locked or not -/
def At (H : Hp) (a : Addr) : Bool → HO → Prop
  | false, u => H a = some u
  | true, u => ∃ od, H a = some (.frz od u)
def fS (f : String) : Str := ⟨(f.toList.map Char.toNat).toArray⟩
theorem fS_inj {f g : String} : fS f = fS g ↔ f = g := by
  refine ⟨fun h => ?_, fun h => by rw [h]⟩
  unfold fS at h
  injection h with h
  have h2 : f.toList.map Char.toNat = g.toList.map Char.toNat := by
    have := congrArg Array.toList h
    simpa using this
  have inj : ∀ a b : Char, a.toNat = b.toNat → a = b := fun a b e => Char.ext (UInt32.toNat_inj.mp e)
  have h3 : ∀ (l m : List Char), l.map Char.toNat = m.map Char.toNat → l = m := by
    intro l
    induction l with
    | nil => intro m h; cases m with
      | nil => rfl
      | cons _ _ => simp at h
    | cons a l ih =>
      intro m h
      cases m with
      | nil => simp at h
      | cons b m =>
        rw [List.map_cons, List.map_cons] at h
        injection h with h1 h2
        rw [inj a b h1, ih m h2]
  exact String.toList_inj.mp (h3 _ _ h2)
/-- fields by their names -/
inductive FdR (K : PySem.W.Frag) (ca : String → Addr) (F : Hp) (m : List Addr) : List (Str × V) → List (String × D) → Prop
  | nil : FdR K ca F m [] []
  | cons {f : String} {v : V} {d : D} {r : List (Str × V)} {s : List (String × D)} : Rep K ca F m v d → FdR K ca F m r s → FdR K ca F m ((fS f, v) :: r) ((f, d) :: s)
theorem FdR.mono {K : PySem.W.Frag} {ca : String → Addr} {F F' : Hp} {m m' : List Addr} (e : Ex F F') (p : Pre m m') : ∀ {l : List (Str × V)} {s : List (String × D)}, FdR K ca F m l s → FdR K ca F' m' l s
  | _, _, .nil => .nil
  | _, _, .cons h r => .cons (h.mono e p) (FdR.mono e p r)
theorem FdR.length {K : PySem.W.Frag} {ca : String → Addr} {F : Hp} {m : List Addr} : ∀ {l : List (Str × V)} {s : List (String × D)}, FdR K ca F m l s → l.length = s.length
  | _, _, .nil => rfl
  | _, _, .cons _ r => by rw [List.length_cons, List.length_cons, FdR.length r]
def ORep (K : PySem.W.Frag) (ca : String → Addr) (F : Hp) (m : List Addr) (H : Hp) (a : Addr) : O → Prop
  | .lst l => ∃ vs, H a = some (.lst vs) ∧ RepL K ca F m vs l
  | .dic false lk l => ∃ kvs, At H a lk (.dK kvs) ∧ KvR K ca F m kD kvs l
  | .dic true lk l => ∃ kvs, At H a lk (.dT kvs) ∧ KvR K ca F m kT kvs l
  | .obj C fs => ∃ dx kvs, H a = some (.ins (ca C) dx kvs) ∧ FdR K ca F m kvs fs
theorem At.mono {H H' : Hp} {a : Addr} {lk : Bool} {u : HO} (h : At H a lk u) (k : ∀ w, H a = some w → H' a = some w) : At H' a lk u := by
  cases lk with
  | false => exact k _ h
  | true => obtain ⟨od, h⟩ := h; exact ⟨od, k _ h⟩
section
variable {K : PySem.W.Frag} {ca : String → Addr} {F F' H H' : Hp} {m m' : List Addr} {a : Addr} {o : O}
theorem ORep.mono (h : ORep K ca F m H a o) (e : Ex F F') (p : Pre m m') (k : ∀ u, H a = some u → H' a = some u) : ORep K ca F' m' H' a o := by
  cases o with
  | lst l => obtain ⟨vs, x, r⟩ := h; exact ⟨vs, k _ x, r.mono e p⟩
  | dic t lk l =>
    cases t with
    | false => obtain ⟨kvs, x, r⟩ := h; exact ⟨kvs, x.mono k, r.mono e p⟩
    | true => obtain ⟨kvs, x, r⟩ := h; exact ⟨kvs, x.mono k, r.mono e p⟩
  | obj C fs => obtain ⟨dx, kvs, x, r⟩ := h; exact ⟨dx, kvs, k _ x, r.mono e p⟩
theorem ORep.ho (h : ORep K ca F m H a o) : ∃ u, H a = some u := by
  cases o with
  | lst l => obtain ⟨vs, x, r⟩ := h; exact ⟨_, x⟩
  | dic t lk l =>
    cases t with
    | false =>
      obtain ⟨kvs, x, r⟩ := h
      cases lk with
      | false => exact ⟨_, x⟩
      | true => obtain ⟨od, x⟩ := x; exact ⟨_, x⟩
    | true =>
      obtain ⟨kvs, x, r⟩ := h
      cases lk with
      | false => exact ⟨_, x⟩
      | true => obtain ⟨od, x⟩ := x; exact ⟨_, x⟩
  | obj C fs => obtain ⟨dx, kvs, x, _⟩ := h; exact ⟨_, x⟩
end
/-- the plain heap A is the heap H: m tells where its objects stand, F what never changes -/
structure Rl (K : PySem.W.Frag) (ca : String → Addr) (F : Hp) (m : List Addr) (A : Hs) (H : Hp) : Prop where
  fh : Ex F H
  len : m.length = A.length
  nd : m.Nodup
  fr : ∀ a ∈ m, F a = none
  ob : ∀ (i : Nat) (o : O) (a : Addr), A[i]? = some o → m[i]? = some a → ORep K ca F m H a o
/-- what a step leaves -/
structure Stp (F : Hp) (m : List Addr) (H F' : Hp) (m' : List Addr) (H' : Hp) : Prop where
  ff : Ex F F'
  mm : Pre m m'
  kp : ∀ a u, H a = some u → a ∉ m → H' a = some u
  gn : ∀ a, F' a ≠ none → F a ≠ none ∨ H a = none
  gm : ∀ a, a ∈ m' → a ∈ m ∨ H a = none
  th : ∀ a, H a ≠ none → H' a ≠ none
  fz : ∀ a o u, H a = some (.frz o u) → H' a = some (.frz o u)
structure Slt (K : PySem.W.Frag) (ca : String → Addr) (F : Hp) (m : List Addr) (σ : L2.St) (env : Sl) : Prop where
  len : σ.length = env.length
  val : ∀ (i : Nat) (d : D), env[i]? = some (some d) → ∃ v : V, σ[i]? = some (some v) ∧ Rep K ca F m v d
section
variable {K : PySem.W.Frag} {ca : String → Addr} {F F1 F2 H H1 H2 : Hp} {m m1 m2 : List Addr} {A : Hs} {σ : L2.St} {env : Sl} {p : Addr} {u : HO} {o : O} {d : D} {v : V} {i : Nat}
theorem Stp.refl : Stp F m H F m H := ⟨Ex.refl _, Pre.refl _, fun _ _ h _ => h, fun a h => .inl h, fun a h => .inl h, fun _ h => h, fun _ _ _ h => h⟩
theorem Stp.none (x : Stp F m H F1 m1 H1) (n : H1 p = none) : H p = none := by
  cases w : H p with
  | none => rfl
  | some v => exact absurd n (x.th p (by rw [w]; simp))
theorem Stp.trans (x : Stp F m H F1 m1 H1) (y : Stp F1 m1 H1 F2 m2 H2) : Stp F m H F2 m2 H2 := by
  refine ⟨x.ff.trans y.ff, x.mm.trans y.mm, fun a u h n => ?_, fun a h => ?_, fun a h => ?_, fun a h => y.th a (x.th a h), fun a o u h => y.fz a o u (x.fz a o u h)⟩
  · refine y.kp a u (x.kp a u h n) fun hm => ?_
    rcases x.gm a hm with q | q
    · exact n q
    · rw [h] at q; cases q
  · rcases y.gn a h with q | q
    · exact x.gn a q
    · exact .inr (x.none q)
  · rcases y.gm a h with q | q
    · exact x.gm a q
    · exact .inr (x.none q)
theorem Slt.mono (S : Slt K ca F m σ env) (e : Ex F F1) (p : Pre m m1) : Slt K ca F1 m1 σ env := ⟨S.len, fun i d h => by
  obtain ⟨v, h1, h2⟩ := S.val i d h
  exact ⟨v, h1, h2.mono e p⟩⟩
theorem Slt.stp (S : Slt K ca F m σ env) (x : Stp F m H F1 m1 H1) : Slt K ca F1 m1 σ env := S.mono x.ff x.mm
theorem Slt.set (S : Slt K ca F m σ env) (r : Rep K ca F m v d) : Slt K ca F m (σ.set i (some v)) (env.set i (some d)) := ⟨by simp [S.len], fun j e h => by
  by_cases q : i = j
  · subst q
    rw [List.getElem?_set] at h ⊢
    have l := S.len
    split at h
    · split at h
      · cases h
        refine ⟨v, ?_, r⟩
        simp_all
      · cases h
    · rename_i z; exact absurd rfl z
  · rw [List.getElem?_set_ne q] at h ⊢
    exact S.val j e h⟩
theorem Slt.unset (S : Slt K ca F m σ env) : Slt K ca F m (σ.set i none) (env.set i none) := ⟨by simp [S.len], fun j e h => by
  by_cases q : i = j
  · subst q
    rw [List.getElem?_set] at h
    split at h
    · split at h <;> cases h
    · rename_i z; exact absurd rfl z
  · rw [List.getElem?_set_ne q] at h ⊢
    exact S.val j e h⟩
theorem Rl.ne (R : Rl K ca F m A H) {a : Addr} (h : a ∈ m) : H a ≠ none := by
  obtain ⟨i, hi⟩ := List.getElem?_of_mem h
  have l : i < A.length := by rw [← R.len]; exact (List.getElem?_eq_some_iff.mp hi).1
  obtain ⟨u, hu⟩ := (R.ob i A[i] a (by simp [l]) hi).ho
  rw [hu]; simp
theorem Rl.out (R : Rl K ca F m A H) {a : Addr} (h : H a = none) : a ∉ m := fun q => R.ne q h
/-- a new thing that stands -/
theorem Rl.new (R : Rl K ca F m A H) (n : H p = none) : Rl K ca (upd F p u) m A (upd H p u) ∧ Stp F m H (upd F p u) m (upd H p u) := by
  have nf := R.fh.back n
  refine ⟨⟨R.fh.both, R.len, R.nd, fun a h => ?_, fun i o a h1 h2 => (R.ob i o a h1 h2).mono (Ex.new nf) (Pre.refl _) fun w hw => Ex.new n a w hw⟩, Ex.new nf, Pre.refl _, fun a w h _ => Ex.new n a w h, fun a h => ?_, fun a h => .inl h, fun a h z => h ((Ex.new n).back z), fun a o w h => Ex.new n a _ h⟩
  · rw [upd_ne (fun z => R.out n (by rw [← z]; exact h))]; exact R.fr a h
  · by_cases q : a = p
    · subst q; exact .inr n
    · rw [upd_ne q] at h; exact .inl h
/-- a new thing that nobody tracks -/
theorem Rl.newH (R : Rl K ca F m A H) (n : H p = none) : Rl K ca F m A (upd H p u) ∧ Stp F m H F m (upd H p u) := by
  refine ⟨⟨R.fh.trans (Ex.new n), R.len, R.nd, R.fr, fun i o a h1 h2 => (R.ob i o a h1 h2).mono (Ex.refl _) (Pre.refl _) fun w hw => Ex.new n a w hw⟩, Ex.refl _, Pre.refl _, fun a w h _ => Ex.new n a w h, fun a h => .inl h, fun a h => .inl h, fun a h z => h ((Ex.new n).back z), fun a o w h => Ex.new n a _ h⟩
/-- what is there is taken into the plain heap -/
theorem Rl.take (R : Rl K ca F m A H) (n : p ∉ m) (nf : F p = none) (r : ORep K ca F (m ++ [p]) H p o) : Rl K ca F (m ++ [p]) (A ++ [o]) H := by
  refine ⟨R.fh, by simp [R.len], ?_, fun a h => ?_, fun i o' a h1 h2 => ?_⟩
  · rw [List.nodup_append]
    refine ⟨R.nd, by simp, fun a h b hb e => ?_⟩
    rw [List.mem_singleton] at hb
    exact n (by rw [← hb, ← e]; exact h)
  · rcases List.mem_append.mp h with q | q
    · exact R.fr a q
    · rw [List.mem_singleton] at q; rw [q]; exact nf
  · by_cases q : i < A.length
    · rw [List.getElem?_append_left q] at h1
      rw [List.getElem?_append_left (by rw [R.len]; exact q)] at h2
      exact (R.ob i o' a h1 h2).mono (Ex.refl _) ⟨[p], rfl⟩ fun _ h => h
    · rw [List.getElem?_append_right (Nat.le_of_not_lt q)] at h1
      rw [List.getElem?_append_right (by rw [R.len]; exact Nat.le_of_not_lt q)] at h2
      rw [R.len] at h2
      have e : i - A.length = 0 := by
        have := (List.getElem?_eq_some_iff.mp h1).1
        simp at this; omega
      rw [e] at h1 h2
      cases h1; cases h2; exact r
/-- a new object of the plain heap -/
theorem Rl.alloc (R : Rl K ca F m A H) (n : H p = none) (r : ORep K ca F (m ++ [p]) (upd H p u) p o) : Rl K ca F (m ++ [p]) (A ++ [o]) (upd H p u) ∧ Stp F m H F (m ++ [p]) (upd H p u) ∧ Rep K ca F (m ++ [p]) (.ref p) (.ref A.length) := by
  obtain ⟨R1, g1⟩ := R.newH (u := u) n
  refine ⟨R1.take (R.out n) (R.fh.back n) r, ⟨Ex.refl _, ⟨[p], rfl⟩, g1.kp, g1.gn, fun a h => ?_, g1.th, g1.fz⟩, .ref (by rw [List.getElem?_append_right (by rw [R.len]; exact Nat.le_refl _), R.len]; simp)⟩
  rcases List.mem_append.mp h with q | q
  · exact .inl q
  · rw [List.mem_singleton] at q; exact .inr (by rw [q]; exact n)
/-- an object of the plain heap is another one now -/
theorem Rl.put {a : Addr} {o' : O} (R : Rl K ca F m A H) (ha : m[i]? = some a) (nz : ∀ od w, H a ≠ some (.frz od w)) (r : ORep K ca F m (upd H a u) a o') : Rl K ca F m (A.set i o') (upd H a u) ∧ Stp F m H F m (upd H a u) := by
  have hm : a ∈ m := List.mem_of_getElem? ha
  have fa := R.fr a hm
  refine ⟨⟨R.fh.right fa, by simp [R.len], R.nd, R.fr, fun j o b h1 h2 => ?_⟩, Ex.refl _, Pre.refl _, fun b w h n => ?_, fun a h => .inl h, fun a h => .inl h, fun b h z => ?_, fun b od w h => ?_⟩
  · by_cases q : i = j
    · subst q
      rw [ha] at h2; cases h2
      rw [List.getElem?_set] at h1
      split at h1
      · split at h1
        · cases h1; exact r
        · cases h1
      · rename_i z; exact absurd rfl z
    · rw [List.getElem?_set_ne q] at h1
      have nb : b ≠ a := fun z => q (by
        subst z
        exact (List.getElem?_inj (List.getElem?_eq_some_iff.mp ha).1 R.nd).mp (ha.trans h2.symm))
      exact (R.ob j o b h1 h2).mono (Ex.refl _) (Pre.refl _) fun w hw => by rw [upd_ne nb]; exact hw
  · rw [upd_ne fun z => n (by rw [z]; exact hm)]; exact h
  · by_cases q : b = a
    · subst q; rw [upd_same] at z; cases z
    · rw [upd_ne q] at z; exact h z
  · rw [upd_ne fun z => nz od w (by rw [← z]; exact h)]; exact h
theorem Rl.at (R : Rl K ca F m A H) (hA : A[i]? = some o) (r : Rep K ca F m v (.ref i)) : ∃ a, v = .ref a ∧ m[i]? = some a ∧ ORep K ca F m H a o := by
  cases r with
  | ref h => exact ⟨_, rfl, h, R.ob i o _ hA h⟩

/-! ### simulations -/
/-- what is wanted behind it, told of the plain end -/
def Po {α β : Type} (K : PySem.W.Frag) (ca : String → Addr) (Rr : Hp → List Addr → β → α → Prop) (F : Hp) (m : List Addr) (H : Hp) (W : WX) (σ : L2.St) (Q : β → Hp → Prop) : RE α → Prop
  | .ok a A' => ∀ v F' m' H', Rl K ca F' m' A' H' → Stp F m H F' m' H' → Rr F' m' v a → Q v H'
  | .exc C A' => ∀ F' m' H', Rl K ca F' m' A' H' → Stp F m H F' m' H' → W (.ref (ca C)) none σ H'
  | .stuck => False
def Sim {α β : Type} (K : PySem.W.Frag) (ca : String → Addr) (Rr : Hp → List Addr → β → α → Prop) (W : WX) (te : L2.St → Hp → (β → Hp → Prop) → Prop) (f : Sl → Hs → RE α) : Prop :=
  ∀ F m A σ H env Q, Rl K ca F m A H → Slt K ca F m σ env → Po K ca Rr F m H W σ Q (f env A) → te σ H Q
def ReqI {α : Type} : Hp → List Addr → α → α → Prop := fun _ _ b c => b = c
abbrev SimE (K : PySem.W.Frag) (ca : String → Addr) (W : WX) (te : TE) (f : E) : Prop := Sim K ca (Rep K ca) W te f
abbrev SimT (K : PySem.W.Frag) (ca : String → Addr) (W : WX) (te : TT) (f : Tt) : Prop := Sim K ca ReqI W te f
abbrev SimA (K : PySem.W.Frag) (ca : String → Addr) (W : WX) (te : TA) (f : As) : Prop := Sim K ca (RepL K ca) W te f
abbrev SimO (K : PySem.W.Frag) (ca : String → Addr) (W : WX) (te : TO) (f : Sl → Hs → RE (Option Int)) : Prop := Sim K ca ReqI W te f
end
section
variable {K : PySem.W.Frag} {ca : String → Addr} {F F1 F2 H H1 H2 : Hp} {m m1 m2 : List Addr} {A : Hs} {σ : L2.St} {env : Sl} {W : WX}
theorem Po.stp {α β : Type} {Rr : Hp → List Addr → β → α → Prop} {Q : β → Hp → Prop} {r : RE α} (h : Po K ca Rr F m H W σ Q r) (g : Stp F m H F1 m1 H1) : Po K ca Rr F1 m1 H1 W σ Q r := by
  cases r with
  | ok a A' => exact fun v F' m' H' R g' q => h v F' m' H' R (g.trans g') q
  | exc C A' => exact fun F' m' H' R g' => h F' m' H' R (g.trans g')
  | stuck => exact h
theorem Po.imp {α β : Type} {Rr : Hp → List Addr → β → α → Prop} {Q Q' : β → Hp → Prop} {r : RE α} (h : Po K ca Rr F m H W σ Q r) (k : ∀ v H, Q v H → Q' v H) : Po K ca Rr F m H W σ Q' r := by
  cases r with
  | ok a A' => exact fun v F' m' H' R g' q => k _ _ (h v F' m' H' R g' q)
  | exc C A' => exact h
  | stuck => exact h
/-- first f, then g -/
theorem Sim.bind {α β γ δ : Type} {Rr : Hp → List Addr → β → α → Prop} {Rs : Hp → List Addr → δ → γ → Prop} {te : L2.St → Hp → (β → Hp → Prop) → Prop} {f : Sl → Hs → RE α} (h : Sim K ca Rr W te f) (R : Rl K ca F m A H) (S : Slt K ca F m σ env) {g : α → Hs → RE γ}
    {Q : δ → Hp → Prop} {T : β → Hp → Prop} (p : Po K ca Rs F m H W σ Q ((f env A).bind g))
    (k : ∀ F1 m1 A1 H1 x a, Rl K ca F1 m1 A1 H1 → Stp F m H F1 m1 H1 → Slt K ca F1 m1 σ env → Rr F1 m1 x a → Po K ca Rs F1 m1 H1 W σ Q (g a A1) → T x H1) : te σ H T := by
  refine h F m A σ H env T R S ?_
  cases q : f env A with
  | ok a A1 =>
    rw [q] at p
    exact fun v F1 m1 H1 R1 g1 r => k F1 m1 A1 H1 v a R1 g1 (S.stp g1) r (Po.stp p g1)
  | exc C A1 => rw [q] at p; exact p
  | stuck => rw [q] at p; exact p
/-! ### expressions -/
variable {ta tb tc te : TE} {a b c : E} {i : Nat} {d : D} {t u : TT} {ft fu : Tt} {ts : TA} {as : As}
theorem se_var : SimE K ca W (tVar i) (eVar i) := fun F m A σ H env Q R S p => by
  unfold eVar at p
  cases q : env[i]? with
  | none => rw [q] at p; exact p.elim
  | some z =>
    cases z with
    | none => rw [q] at p; exact p.elim
    | some d =>
      rw [q] at p
      obtain ⟨v, h1, h2⟩ := S.val i d q
      exact ⟨v, h1, p v F m H R Stp.refl h2⟩
theorem se_c {v : V} (h : ∀ F m, Rep K ca F m v d) : SimE K ca W (tC v) (eC d) := fun F m A σ H env Q R S p => p v F m H R Stp.refl (h F m)
theorem se_int {n : Int} : SimE K ca W (tC (.int n)) (eC (.int n)) := se_c fun _ _ => .int n
theorem se_bl {c : Bool} : SimE K ca W (tC (.bl c)) (eC (.bl c)) := se_c fun _ _ => .bl c
theorem se_non : SimE K ca W (tC .non) (eC .non) := se_c fun _ _ => .non
theorem se_ty {x : String} : SimE K ca W (tC (.ty x)) (eC (.ty x)) := se_c fun _ _ => .ty x
/-- an operator: two operands' values, their data -/
def OpS (K : PySem.W.Frag) (ca : String → Addr) (r : R2) (o : D → D → Hs → RE D) : Prop := ∀ F m A H x y dx dy W σ Q, Rl K ca F m A H → Rep K ca F m x dx → Rep K ca F m y dy → Po K ca (Rep K ca) F m H W σ Q (o dx dy A) → r x y H Q
theorem se_op {r : R2} {o : D → D → Hs → RE D} (h : OpS K ca r o) (ha : SimE K ca W ta a) (hb : SimE K ca W tb b) : SimE K ca W (tOp r ta tb) (eOp o a b) := fun F m A σ H env Q R S p =>
  ha.bind R S p fun F1 m1 A1 H1 x dx R1 g1 S1 rx p1 => hb.bind R1 S1 p1 fun F2 m2 A2 H2 y dy R2 g2 S2 ry p2 => h F2 m2 A2 H2 x y dx dy W σ Q R2 (rx.mono g2.ff g2.mm) ry p2
def UnS (K : PySem.W.Frag) (ca : String → Addr) (r : V → Hp → VK → Prop) (o : D → Hs → RE D) : Prop := ∀ F m A H x dx W σ Q, Rl K ca F m A H → Rep K ca F m x dx → Po K ca (Rep K ca) F m H W σ Q (o dx A) → r x H Q
theorem se_un {r : V → Hp → VK → Prop} {o : D → Hs → RE D} (h : UnS K ca r o) (ha : SimE K ca W ta a) : SimE K ca W (tUn r ta) (eUn o a) := fun F m A σ H env Q R S p =>
  ha.bind R S p fun F1 m1 A1 H1 x dx R1 g1 S1 rx p1 => h F1 m1 A1 H1 x dx W σ Q R1 rx p1
theorem sa_nil : SimA K ca W tNil aNil := fun F m A σ H env Q R S p => p [] F m H R Stp.refl .nil
theorem sa_cons (ha : SimE K ca W ta a) (hs : SimA K ca W ts as) : SimA K ca W (tCons ta ts) (aCons a as) := fun F m A σ H env Q R S p =>
  ha.bind R S p fun F1 m1 A1 H1 x dx R1 g1 S1 rx p1 => hs.bind R1 S1 p1 fun F2 m2 A2 H2 xs ds R2 g2 S2 rs p2 => p2 (x :: xs) F2 m2 H2 R2 Stp.refl (.cons (rx.mono g2.ff g2.mm) rs)
def CbS (K : PySem.W.Frag) (ca : String → Addr) (r : List V → Hp → VK → Prop) (o : List D → Hs → RE D) : Prop := ∀ F m A H xs ds W σ Q, Rl K ca F m A H → RepL K ca F m xs ds → Po K ca (Rep K ca) F m H W σ Q (o ds A) → r xs H Q
theorem se_cb {r : List V → Hp → VK → Prop} {o : List D → Hs → RE D} (h : CbS K ca r o) (hs : SimA K ca W ts as) : SimE K ca W (tCB r ts) (eCB o as) := fun F m A σ H env Q R S p =>
  hs.bind R S p fun F1 m1 A1 H1 xs ds R1 g1 S1 rx p1 => h F1 m1 A1 H1 xs ds W σ Q R1 rx p1
theorem se_and (ha : SimE K ca W ta a) (hb : SimE K ca W tb b) : SimE K ca W (tAndV ta tb) (eAnd a b) := fun F m A σ H env Q R S p =>
  ha.bind R S p fun F1 m1 A1 H1 x dx R1 g1 S1 rx p1 => by
    cases rx with
    | bl c =>
      refine ⟨c, rfl, ?_⟩
      cases c with
      | true => exact hb F1 m1 A1 σ H1 env Q R1 S1 p1
      | false => exact p1 _ F1 m1 H1 R1 Stp.refl (.bl false)
    | _ => exact p1.elim
theorem se_or (ha : SimE K ca W ta a) (hb : SimE K ca W tb b) : SimE K ca W (tOrV ta tb) (eOr a b) := fun F m A σ H env Q R S p =>
  ha.bind R S p fun F1 m1 A1 H1 x dx R1 g1 S1 rx p1 => by
    cases rx with
    | bl c =>
      refine ⟨c, rfl, ?_⟩
      cases c with
      | false => exact hb F1 m1 A1 σ H1 env Q R1 S1 p1
      | true => exact p1 _ F1 m1 H1 R1 Stp.refl (.bl true)
    | _ => exact p1.elim
theorem se_not (ha : SimE K ca W ta a) : SimE K ca W (tNotV ta) (eNot a) := fun F m A σ H env Q R S p =>
  ha.bind R S p fun F1 m1 A1 H1 x dx R1 g1 S1 rx p1 => by
    cases rx with
    | bl c => exact ⟨c, rfl, p1 _ F1 m1 H1 R1 Stp.refl (.bl _)⟩
    | _ => exact p1.elim
theorem se_ch {q q' : R2} {o o' : D → D → Hs → RE D} (h : OpS K ca q o) (h' : OpS K ca q' o') (ha : SimE K ca W ta a) (hb : SimE K ca W tb b) (hc : SimE K ca W tc c) : SimE K ca W (tChain q q' ta tb tc) (eCh o o' a b c) := fun F m A σ H env Q R S p =>
  ha.bind R S p fun F1 m1 A1 H1 x dx R1 g1 S1 rx p1 => hb.bind R1 S1 p1 fun F2 m2 A2 H2 y dy R2 g2 S2 ry p2 => by
    refine h F2 m2 A2 H2 x y dx dy W σ _ R2 (rx.mono g2.ff g2.mm) ry ?_
    cases w : o dx dy A2 with
    | stuck => rw [w] at p2; exact p2
    | exc C A3 => rw [w] at p2; exact p2
    | ok z A3 =>
      rw [w] at p2
      intro v F3 m3 H3 R3 g3 rz
      have p3 := Po.stp p2 g3
      cases rz with
      | bl k =>
        refine ⟨k, rfl, ?_⟩
        cases k with
        | false => exact p3 _ F3 m3 H3 R3 Stp.refl (.bl false)
        | true => exact hc.bind R3 (S2.stp g3) p3 fun F4 m4 A4 H4 w dw R4 g4 S4 rw' p4 => h' F4 m4 A4 H4 y w dy dw W σ Q R4 (ry.mono (g3.ff.trans g4.ff) (g3.mm.trans g4.mm)) rw' p4
      | _ => exact p3.elim
theorem st_test (ha : SimE K ca W ta a) : SimT K ca W (tTest ta) (tOf a) := fun F m A σ H env Q R S p =>
  ha.bind R S p fun F1 m1 A1 H1 x dx R1 g1 S1 rx p1 => by
    cases rx with
    | bl c => exact ⟨c, rfl, p1 _ F1 m1 H1 R1 Stp.refl rfl⟩
    | _ => exact p1.elim
theorem st_b (ha : SimE K ca W ta a) : SimT K ca W (tB ta) (tOf a) := fun F m A σ H env Q R S p =>
  ha.bind R S p fun F1 m1 A1 H1 x dx R1 g1 S1 rx p1 => by
    cases rx with
    | bl c => exact ⟨c, rfl, p1 _ F1 m1 H1 R1 Stp.refl rfl⟩
    | _ => exact p1.elim
theorem st_not (ht : SimT K ca W t ft) : SimT K ca W (tNot t) (tNo ft) := fun F m A σ H env Q R S p =>
  ht.bind R S p fun F1 m1 A1 H1 x dx R1 g1 S1 rx p1 => by
    cases (show x = dx from rx)
    exact p1 _ F1 m1 H1 R1 Stp.refl rfl
theorem st_and (ht : SimT K ca W t ft) (hu : SimT K ca W u fu) : SimT K ca W (tAnd t u) (tAn ft fu) := fun F m A σ H env Q R S p =>
  ht.bind R S p fun F1 m1 A1 H1 x dx R1 g1 S1 rx p1 => by
    cases (show x = dx from rx)
    cases x with
    | true => exact hu F1 m1 A1 σ H1 env Q R1 S1 p1
    | false => exact p1 _ F1 m1 H1 R1 Stp.refl rfl
theorem st_or (ht : SimT K ca W t ft) (hu : SimT K ca W u fu) : SimT K ca W (tOr t u) (tOo ft fu) := fun F m A σ H env Q R S p =>
  ht.bind R S p fun F1 m1 A1 H1 x dx R1 g1 S1 rx p1 => by
    cases (show x = dx from rx)
    cases x with
    | false => exact hu F1 m1 A1 σ H1 env Q R1 S1 p1
    | true => exact p1 _ F1 m1 H1 R1 Stp.refl rfl
theorem st_yes : SimT K ca W tYes tYe := fun F m A σ H env Q R S p => p _ F m H R Stp.refl rfl
theorem se_if (ht : SimT K ca W t ft) (ha : SimE K ca W ta a) (hb : SimE K ca W tb b) : SimE K ca W (tIf t ta tb) (eIf ft a b) := fun F m A σ H env Q R S p =>
  ht.bind R S p fun F1 m1 A1 H1 x dx R1 g1 S1 rx p1 => by
    cases (show x = dx from rx)
    cases x with
    | true => exact ha F1 m1 A1 σ H1 env Q R1 S1 p1
    | false => exact hb F1 m1 A1 σ H1 env Q R1 S1 p1
theorem se_tup (hs : SimA K ca W ts as) : SimE K ca W (tTup ts) (eTup as) := fun F m A σ H env Q R S p =>
  hs.bind R S p fun F1 m1 A1 H1 xs ds R1 g1 S1 rs p1 => by
    split at p1
    · rename_i hl
      refine ⟨by rw [rs.length]; exact hl, fun q hq => ?_⟩
      obtain ⟨R2, g2⟩ := R1.new (u := .tup xs) hq
      exact p1 _ _ _ _ R2 g2 (.tup upd_same (rs.mono g2.ff g2.mm))
    · exact p1.elim
theorem po_alloc {Q : VK} {p : Addr} {u : HO} {o : O} (R : Rl K ca F m A H) (n : H p = none) (r : ORep K ca F (m ++ [p]) (upd H p u) p o) (h : Po K ca (Rep K ca) F m H W σ Q (alloc A o)) : Q (.ref p) (upd H p u) := by
  obtain ⟨R2, g2, q⟩ := R.alloc n r
  exact h _ _ _ _ R2 g2 q
theorem se_lst (hs : SimA K ca W ts as) : SimE K ca W (tLst ts) (eLst as) := fun F m A σ H env Q R S p =>
  hs.bind R S p fun F1 m1 A1 H1 xs ds R1 g1 S1 rs p1 => by
    split at p1
    · rename_i hl
      exact ⟨by rw [rs.length]; exact hl, fun q hq => po_alloc (o := .lst ds) R1 hq ⟨xs, upd_same, rs.mono (Ex.refl _) ⟨_, rfl⟩⟩ p1⟩
    · exact p1.elim
theorem se_dnewK : SimE K ca W tDNewK (eDNew false) := fun F m A σ H env Q R S p q hq => po_alloc (o := .dic false false []) R hq ⟨[], upd_same, .nil⟩ p
theorem so_none : SimO K ca W tNoPart oNo := fun F m A σ H env Q R S p => p _ F m H R Stp.refl rfl
theorem so_some (ha : SimE K ca W ta a) : SimO K ca W (tPart ta) (oSo a) := fun F m A σ H env Q R S p =>
  ha.bind R S p fun F1 m1 A1 H1 x dx R1 g1 S1 rx p1 => by
    cases rx with
    | int i => exact ⟨i, rfl, p1 _ F1 m1 H1 R1 Stp.refl rfl⟩
    | _ => exact p1.elim
def SlS (K : PySem.W.Frag) (ca : String → Addr) (r : V → Option Int → Option Int → Hp → VK → Prop) (o : D → Option Int → Option Int → Hs → RE D) : Prop := ∀ F m A H x dx lo hi W σ Q, Rl K ca F m A H → Rep K ca F m x dx → Po K ca (Rep K ca) F m H W σ Q (o dx lo hi A) → r x lo hi H Q
theorem se_sl {r : V → Option Int → Option Int → Hp → VK → Prop} {o : D → Option Int → Option Int → Hs → RE D} {tl th : TO} {fl fh : Sl → Hs → RE (Option Int)} (h : SlS K ca r o) (ha : SimE K ca W ta a) (hl : SimO K ca W tl fl) (hh : SimO K ca W th fh) : SimE K ca W (tSl r ta tl th) (eSl o a fl fh) := fun F m A σ H env Q R S p =>
  ha.bind R S p fun F1 m1 A1 H1 x dx R1 g1 S1 rx p1 => hl.bind R1 S1 p1 fun F2 m2 A2 H2 lo lo' R2 g2 S2 rl p2 => hh.bind R2 S2 p2 fun F3 m3 A3 H3 hi hi' R3 g3 S3 rh p3 => by
    cases (show lo = lo' from rl)
    cases (show hi = hi' from rh)
    exact h F3 m3 A3 H3 x dx lo hi W σ Q R3 (rx.mono (g2.ff.trans g3.ff) (g2.mm.trans g3.mm)) p3

/-! ### promises -/
def PoF (K : PySem.W.Frag) (ca : String → Addr) (F : Hp) (m : List Addr) (H : Hp) (Q : VK) (E : XK) : RE D → Prop
  | .ok a A' => ∀ v F' m' H', Rl K ca F' m' A' H' → Stp F m H F' m' H' → Rep K ca F' m' v a → Q v H'
  | .exc C A' => ∀ F' m' H', Rl K ca F' m' A' H' → Stp F m H F' m' H' → E (.ref (ca C)) none H'
  | .stuck => False
/-- THE PROMISE: it does what the plain function does -/
def SpF (K : PySem.W.Frag) (ca : String → Addr) (f : Fn) : Sp := fun vs H Q E => ∃ F m A ds, Rl K ca F m A H ∧ RepL K ca F m vs ds ∧ PoF K ca F m H Q E (f ds A)
theorem pof_po {Q : VK} {r : RE D} (h : Po K ca (Rep K ca) F m H W σ Q r) : PoF K ca F m H Q (WE W σ) r := by
  cases r <;> exact h
theorem pof_noX {Q : VK} {X : XK} {r : RE D} (h : Po K ca (Rep K ca) F m H W σ Q r.noX) : PoF K ca F m H Q X r := by
  cases r with
  | ok a A => exact h
  | exc C A => exact h.elim
  | stuck => exact h.elim
theorem se_call {f : Fn} (hs : SimA K ca W ts as) : SimE K ca W (tCallS (SpF K ca f) (WE W) ts) (eCall f as) := fun F m A σ H env Q R S p =>
  hs.bind R S p fun F1 m1 A1 H1 xs ds R1 g1 S1 rs p1 => ⟨F1, m1, A1, ds, R1, rs, pof_po p1⟩
theorem se_call0 {f : Fn} {X : XK} (hs : SimA K ca W ts as) : SimE K ca W (tCall (SpF K ca f) [] X ts) (eCall0 f as) := fun F m A σ H env Q R S p =>
  hs.bind R S p fun F1 m1 A1 H1 xs ds R1 g1 S1 rs p1 => ⟨F1, m1, A1, ds, R1, by rw [List.append_nil]; exact rs, pof_noX p1⟩

/-! ### fields -/
theorem fS_look {f : String} : ∀ {l : List (Str × V)} {s : List (String × D)}, FdR K ca F m l s → (∀ d, s.lookup f = some d → ∃ v, l.lookup (fS f) = some v ∧ Rep K ca F m v d) ∧ (s.lookup f = none → l.lookup (fS f) = none)
  | _, _, .nil => ⟨fun d h => by simp at h, fun _ => rfl⟩
  | _, _, .cons (f := g) (v := v) (d := e) h r => by
    have ih := fS_look (f := f) r
    by_cases q : f = g
    · subst q
      refine ⟨fun d z => ?_, fun z => ?_⟩
      · rw [List.lookup_cons_self] at z; cases z
        exact ⟨v, by rw [List.lookup_cons_self], h⟩
      · rw [List.lookup_cons_self] at z; cases z
    · have q1 : (f == g) = false := by simpa using q
      have q2 : (fS f == fS g) = false := by
        rw [beq_eq_false_iff_ne]
        exact fun z => q (fS_inj.mp z)
      refine ⟨fun d z => ?_, fun z => ?_⟩
      · rw [List.lookup_cons, q1] at z
        obtain ⟨w, h1, h2⟩ := ih.1 d z
        exact ⟨w, by rw [List.lookup_cons, q2]; exact h1, h2⟩
      · rw [List.lookup_cons, q1] at z
        rw [List.lookup_cons, q2]; exact ih.2 z
end
end SM

/-! ## methods that may raise -/
namespace L2
open PySem PySem.Spec PyProof.Rows
def tMethX (C : Addr) (m : Str) (sp : Sp) (E : St → XK) (ta : TE) (t : TA) : TE := fun σ H Q => ta σ H fun x H1 => ∃ a dx fs, x = .ref a ∧ H1 a = some (.ins C dx fs) ∧ fs.lookup m = none ∧
  t σ H1 fun vs H2 => sp (x :: vs) H2 Q (E σ)
section
variable {X : Cx} {CX : CXT} {k : Nat} {f C : Addr} {fd : FuncData} {ps : List Str} {sp : Sp} {E : St → XK} {x m : Str} {p pos apos : Pos} {e o : Expr} {es : List Expr} {ta : TE} {t : TA}
theorem pe_methX {pl : Sem Bool} (he : PE X o ta) (c : Cls X.K C) (hm : Meth X.K C m f) (F : FnOk X.prog X.w X.K X.mg X.base CX k f fd ps sp) (hr : Room k X.A) (hb : Binds X.K fd ps []) (hx : ∀ σ, PassesAt CX X σ (E σ)) (ha : PA X (e :: es) t)
    (hst : starEach (e :: es) X.env = (false, eval e X.env) :: starEach es X.env := by rfl) (hpl : (backTo pos (starEach es X.env)).any (·.1) = false := by rfl)
    (ht : eval (.Call (.Attribute o m apos) (e :: es) [] pos) X.env = (do
      let ov ← eval o X.env
      standAt apos.atName
      let (f, first) ← holding [ov] (getMethod ov m pl)
      callWith pos f first (backTo pos (starEach (e :: es) X.env)) (backToKw pos (keywordEach [] X.env))) := by rfl) :
    PE X (.Call (.Attribute o m apos) (e :: es) [] pos) (tMethX C m sp E ta t) := by
  refine ⟨fun pins s σ H Q I h => ?_⟩
  refine PySem.W.methodCall_KW (pl := pl) (thn (he.run pins s σ H _ I h) fun u s1 ⟨x, H1, I1, rx, a, dx, fs, ex, ea, l, q⟩ => ?_) ht
  subst ex
  obtain rfl : u = Value.ref a := rx
  refine getmeth_ok I1 ea c hm l ?_
  refine PySem.W.callWith_K (first := [.ref a]) (h₀ := X.base) I.ok.mod.kin hm.kp (thn (ha.run pos pins s1 σ H1 _ I1 q) fun us s2 ⟨vs, H2, I2, r, q2⟩ => ⟨I2.kIn, ?_⟩) hst hpl
  exact run_fnS (us := .ref a :: us) (vs := .ref a :: vs) F hr hb (hx σ) I2 (.cons rfl r) q2
/-- o.m() -/
theorem pe_methX0 {pl : Sem Bool} (he : PE X o ta) (c : Cls X.K C) (hm : Meth X.K C m f) (F : FnOk X.prog X.w X.K X.mg X.base CX k f fd ps sp) (hr : Room k X.A) (hb : Binds X.K fd ps []) (hx : ∀ σ, PassesAt CX X σ (E σ))
    (ht : eval (.Call (.Attribute o m apos) [] [] pos) X.env = (do
      let ov ← eval o X.env
      standAt apos.atName
      let (f, first) ← holding [ov] (getMethod ov m pl)
      callWith pos f first (backTo pos (starEach [] X.env)) (backToKw pos (keywordEach [] X.env))) := by rfl) :
    PE X (.Call (.Attribute o m apos) [] [] pos) (tMethX C m sp E ta tNil) := by
  refine ⟨fun pins s σ H Q I h => ?_⟩
  refine PySem.W.methodCall_KW (pl := pl) (thn (he.run pins s σ H _ I h) fun u s1 ⟨x, H1, I1, rx, a, dx, fs, ex, ea, l, q⟩ => ?_) ht
  subst ex
  obtain rfl : u = Value.ref a := rx
  refine getmeth_ok I1 ea c hm l ?_
  exact PySem.W.callWith_K0 (first := [.ref a]) I1.kIn hm.kp (run_fnS (us := [.ref a]) (vs := [.ref a]) F hr hb (hx σ) I1 (.cons rfl .nil) q)
theorem PE.or {X : Cx} {e : Expr} {t u : TE} (h1 : PE X e t) (h2 : PE X e u) : PE X e (fun σ H Q => t σ H Q ∨ u σ H Q) := ⟨fun pins s σ H Q I h => by
  rcases h with h | h
  · exact h1.run pins s σ H Q I h
  · exact h2.run pins s σ H Q I h⟩
theorem PS.or {X : Cx} {st : Stmt} {t u : TS} (h1 : PS X st t) (h2 : PS X st u) : PS X st (fun D σ H => t D σ H ∨ u D σ H) := ⟨fun pins s σ H D I h => by
  rcases h with h | h
  · exact h1.run pins s σ H D I h
  · exact h2.run pins s σ H D I h⟩
end
end L2
/-! ## fields, calls, statements -/
namespace SM
open PySem L2
open DL (Ex ExK tRaise tTry tTryO)
section
variable {K : PySem.W.Frag} {ca : String → Addr} {F F1 F2 H H1 H2 : Hp} {m m1 m2 : List Addr} {A A1 A2 : Hs} {σ : L2.St} {env : Sl} {W : WX}
variable {ta tb tc te : TE} {a b c : E} {i : Nat} {d : D} {t u : TT} {ft fu : Tt} {ts : TA} {as : As} {x : V} {dx : D} {C : String} {fs : List (String × D)} {cs : List String}
theorem obj_at (R : Rl K ca F m A H) (r : Rep K ca F m x dx) (h : objAt A dx = some (C, fs)) : ∃ i a dxx kvs, dx = .ref i ∧ x = .ref a ∧ m[i]? = some a ∧ A[i]? = some (.obj C fs) ∧ H a = some (.ins (ca C) dxx kvs) ∧ FdR K ca F m kvs fs := by
  cases dx with
  | ref i =>
    unfold objAt at h
    cases q : A[i]? with
    | none => simp [q] at h
    | some o =>
      cases o with
      | obj C' fs' =>
        simp [q] at h
        obtain ⟨rfl, rfl⟩ := h
        obtain ⟨a, e, ha, dxx, kvs, h1, h2⟩ := R.at q r
        exact ⟨i, a, dxx, kvs, rfl, e, ha, q, h1, h2⟩
      | lst _ => simp [q] at h
      | dic _ _ _ => simp [q] at h
  | _ => simp [objAt] at h
/-- the classes cs, that know no name f -/
def NoF (K : PySem.W.Frag) (ca : String → Addr) (cs : List String) (f : Str) : Prop := AllC (fun C => Cls K (ca C) ∧ NoAttr K (ca C) f) cs
theorem getFld_at {f : String} {f' : Str} (hf : f' = fS f) (R : Rl K ca F m A H) (r : Rep K ca F m x dx) (kc : NoF K ca cs f') (h : getFld cs f A dx = some d) : ∃ a C dxx kvs v, C ∈ cs ∧ x = .ref a ∧ H a = some (.ins (ca C) dxx kvs) ∧ Cls K (ca C) ∧ NoAttr K (ca C) f' ∧ kvs.lookup f' = some v ∧ Rep K ca F m v d := by
  unfold getFld at h
  cases q : objAt A dx with
  | none => rw [q] at h; cases h
  | some z =>
    obtain ⟨C, fs⟩ := z
    rw [q] at h
    simp only at h
    split at h
    · rename_i hc
      obtain ⟨i, a, dxx, kvs, e1, e2, h1, h2, h3, h4⟩ := obj_at R r q
      obtain ⟨v, h5, h6⟩ := (fS_look (f := f) h4).1 d h
      have kk := AllC.of kc hc
      exact ⟨a, C, dxx, kvs, v, hc, e2, h3, kk.1, kk.2, by rw [hf]; exact h5, h6⟩
    · cases h
theorem se_fld {f : String} {f' : Str} (hf : f' = fS f) (kc : NoF K ca cs f') (ha : SimE K ca W ta a) : SimE K ca W (tFld K ta f') (eFld cs f a) := fun F m A σ H env Q R S p =>
  ha.bind R S p fun F1 m1 A1 H1 x dx R1 g1 S1 rx p1 => by
    cases q : getFld cs f A1 dx with
    | none => simp only [q] at p1; exact p1.elim
    | some d =>
      simp only [q] at p1
      obtain ⟨a, C, dxx, kvs, v, _, e, h1, h2, h3, h4, h5⟩ := getFld_at hf R1 rx kc q
      exact ⟨a, ca C, dxx, kvs, v, e, h1, h2, h3, h4, p1 v F1 m1 H1 R1 Stp.refl h5⟩
theorem putF_rep {f : String} {v : V} (hv : Rep K ca F m v d) : ∀ {kvs : List (Str × V)} {fs : List (String × D)}, FdR K ca F m kvs fs → FdR K ca F m (L2.putF (fS f) v kvs) (putF f d fs)
  | _, _, .nil => .cons hv .nil
  | _, _, .cons (f := g) h r => by
    unfold L2.putF SM.putF
    by_cases q : g = f
    · subst q; rw [if_pos rfl, if_pos rfl]; exact .cons hv r
    · rw [if_neg q, if_neg (fun z => q (fS_inj.mp z))]; exact .cons h (putF_rep hv r)
theorem setFld_at {f : String} {f' : Str} {v : V} (hf : f' = fS f) (R : Rl K ca F m A H) (r : Rep K ca F m x dx) (rv : Rep K ca F m v d) (kc : NoF K ca cs f') (h : setFld cs A dx f d = some A2) :
    ∃ a C dxx kvs, C ∈ cs ∧ x = .ref a ∧ H a = some (.ins (ca C) dxx kvs) ∧ Cls K (ca C) ∧ NoAttr K (ca C) f' ∧ kvs.length < 999 ∧ Rl K ca F m A2 (upd H a (.ins (ca C) dxx (L2.putF f' v kvs))) ∧ Stp F m H F m (upd H a (.ins (ca C) dxx (L2.putF f' v kvs))) := by
  unfold setFld at h
  cases dx with
  | ref i =>
    simp only at h
    cases q : A[i]? with
    | none => simp [q] at h
    | some o =>
      cases o with
      | obj C fs =>
        simp only [q] at h
        split at h
        · rename_i hc
          cases h
          obtain ⟨a, e, ha, dxx, kvs, h1, h2⟩ := R.at q r
          have kk := AllC.of kc hc.1
          obtain ⟨R2, g2⟩ := R.put (u := .ins (ca C) dxx (L2.putF f' v kvs)) (o' := .obj C (putF f d fs)) ha (fun od w z => by rw [h1] at z; cases z) ⟨dxx, _, upd_same, by rw [hf]; exact putF_rep rv h2⟩
          exact ⟨a, C, dxx, kvs, hc.1, e, h1, kk.1, kk.2, by rw [h2.length]; exact hc.2, R2, g2⟩
        · cases h
      | lst _ => simp [q] at h
      | dic _ _ _ => simp [q] at h
  | _ => simp at h

/-! ### statements -/
def PoS (K : PySem.W.Frag) (ca : String → Addr) (F : Hp) (m : List Addr) (H : Hp) (W : WX) (Dn : Ends) : RS → Prop
  | .nx e A' => ∀ F' m' σ' H', Rl K ca F' m' A' H' → Stp F m H F' m' H' → Slt K ca F' m' σ' e → Dn.nx σ' H'
  | .bk e A' => ∀ F' m' σ' H', Rl K ca F' m' A' H' → Stp F m H F' m' H' → Slt K ca F' m' σ' e → Dn.bk σ' H'
  | .ct e A' => ∀ F' m' σ' H', Rl K ca F' m' A' H' → Stp F m H F' m' H' → Slt K ca F' m' σ' e → Dn.ct σ' H'
  | .rt d A' => ∀ v F' m' H', Rl K ca F' m' A' H' → Stp F m H F' m' H' → Rep K ca F' m' v d → Dn.rt v H'
  | .exc C e A' => ∀ F' m' σ' H', Rl K ca F' m' A' H' → Stp F m H F' m' H' → Slt K ca F' m' σ' e → W (.ref (ca C)) none σ' H'
  | .stuck => False
def SimS (K : PySem.W.Frag) (ca : String → Addr) (W : WX) (t : TS) (f : S) : Prop := ∀ F m A σ H env Dn, Rl K ca F m A H → Slt K ca F m σ env → PoS K ca F m H W Dn (f env A) → t Dn σ H
variable {s1 s2 s : TS} {f1 f2 f : S} {Dn : Ends}
theorem PoS.stp {r : RS} (h : PoS K ca F m H W Dn r) (g : Stp F m H F1 m1 H1) : PoS K ca F1 m1 H1 W Dn r := by
  cases r with
  | nx e A' => exact fun F' m' σ' H' R g' q => h F' m' σ' H' R (g.trans g') q
  | bk e A' => exact fun F' m' σ' H' R g' q => h F' m' σ' H' R (g.trans g') q
  | ct e A' => exact fun F' m' σ' H' R g' q => h F' m' σ' H' R (g.trans g') q
  | rt d A' => exact fun v F' m' H' R g' q => h v F' m' H' R (g.trans g') q
  | exc C e A' => exact fun F' m' σ' H' R g' q => h F' m' σ' H' R (g.trans g') q
  | stuck => exact h
/-- the value of an expression, then a statement's rest -/
theorem ofE_bind {k : D → Hs → RS} {T : VK} (h : SimE K ca W te a) (R : Rl K ca F m A H) (S : Slt K ca F m σ env) (p : PoS K ca F m H W Dn (ofE env (a env A) k))
    (kk : ∀ F1 m1 A1 H1 x d, Rl K ca F1 m1 A1 H1 → Stp F m H F1 m1 H1 → Slt K ca F1 m1 σ env → Rep K ca F1 m1 x d → PoS K ca F1 m1 H1 W Dn (k d A1) → T x H1) : te σ H T := by
  refine h F m A σ H env T R S ?_
  cases q : a env A with
  | ok d A1 =>
    rw [q] at p
    exact fun v F1 m1 H1 R1 g1 r => kk F1 m1 A1 H1 v d R1 g1 (S.stp g1) r (PoS.stp p g1)
  | exc C A1 => rw [q] at p; exact fun F1 m1 H1 R1 g1 => p F1 m1 σ H1 R1 g1 (S.stp g1)
  | stuck => rw [q] at p; exact p
theorem ofT_bind {k : Bool → Hs → RS} {T : Bool → Hp → Prop} (h : SimT K ca W t ft) (R : Rl K ca F m A H) (S : Slt K ca F m σ env) (p : PoS K ca F m H W Dn (ofT env (ft env A) k))
    (kk : ∀ F1 m1 A1 H1 c, Rl K ca F1 m1 A1 H1 → Stp F m H F1 m1 H1 → Slt K ca F1 m1 σ env → PoS K ca F1 m1 H1 W Dn (k c A1) → T c H1) : t σ H T := by
  refine h F m A σ H env T R S ?_
  cases q : ft env A with
  | ok d A1 =>
    rw [q] at p
    intro v F1 m1 H1 R1 g1 r
    cases (show v = d from r)
    exact kk F1 m1 A1 H1 d R1 g1 (S.stp g1) (PoS.stp p g1)
  | exc C A1 => rw [q] at p; exact fun F1 m1 H1 R1 g1 => p F1 m1 σ H1 R1 g1 (S.stp g1)
  | stuck => rw [q] at p; exact p
theorem ss_seq (h1 : SimS K ca W s1 f1) (h2 : SimS K ca W s2 f2) : SimS K ca W (tSeq s1 s2) (sSeq f1 f2) := fun F m A σ H env Dn R S p => by
  refine h1 F m A σ H env { Dn with nx := s2 Dn } R S ?_
  unfold sSeq at p
  cases q : f1 env A with
  | nx e A1 =>
    rw [q] at p
    exact fun F' m' σ' H' R' g' S' => h2 F' m' A1 σ' H' e Dn R' S' (PoS.stp p g')
  | bk e A1 => rw [q] at p; exact p
  | ct e A1 => rw [q] at p; exact p
  | rt d A1 => rw [q] at p; exact p
  | exc C e A1 => rw [q] at p; exact p
  | stuck => rw [q] at p; exact p
theorem ss_next : SimS K ca W tNext sNx := fun F m A σ H env Dn R S p => p F m σ H R Stp.refl S
theorem ss_drop (h : SimE K ca W te a) : SimS K ca W (tDrop te) (sDrop a) := fun F m A σ H env Dn R S p => ofE_bind h R S p fun F1 m1 A1 H1 x d R1 g1 S1 rx p1 => p1 F1 m1 σ H1 R1 Stp.refl S1
theorem ss_ret (h : SimE K ca W te a) : SimS K ca W (tRet te) (sRet a) := fun F m A σ H env Dn R S p => ofE_bind h R S p fun F1 m1 A1 H1 x d R1 g1 S1 rx p1 => p1 x F1 m1 H1 R1 Stp.refl rx
theorem ss_retn : SimS K ca W tRetN sRetN := fun F m A σ H env Dn R S p => p .non F m H R Stp.refl .non
theorem ss_if (ht : SimT K ca W t ft) (h1 : SimS K ca W s1 f1) (h2 : SimS K ca W s2 f2) : SimS K ca W (tIfS t s1 s2) (sIf ft f1 f2) := fun F m A σ H env Dn R S p => ofT_bind ht R S p fun F1 m1 A1 H1 c R1 g1 S1 p1 => by
  cases c with
  | true => exact h1 F1 m1 A1 σ H1 env Dn R1 S1 p1
  | false => exact h2 F1 m1 A1 σ H1 env Dn R1 S1 p1
theorem ss_set (h : SimE K ca W te a) : SimS K ca W (tAsg te (gName i)) (sSet i a) := fun F m A σ H env Dn R S p => ofE_bind h R S p fun F1 m1 A1 H1 x d R1 g1 S1 rx p1 => p1 F1 m1 _ H1 R1 Stp.refl (S1.set rx)
/-- targets: slots js alone change -/
def SimG (K : PySem.W.Frag) (ca : String → Addr) (g : TG) (f : G) (js : List Nat) : Prop := ∀ F m A σ H env v d env', Rl K ca F m A H → Slt K ca F m σ env → Rep K ca F m v d → f d env A = some env' → ∀ Q : L2.St → Hp → Prop,
  (∀ σ', Slt K ca F m σ' env' → σ'.length = σ.length → (∀ i : Nat, i ∉ js → σ'[i]? = σ[i]?) → Q σ' H) → g v σ H Q
def SimGs (K : PySem.W.Frag) (ca : String → Addr) (g : TGs) (f : List G) (js : List Nat) : Prop := ∀ F m A σ H env vs ds env', Rl K ca F m A H → Slt K ca F m σ env → RepL K ca F m vs ds → gAll f ds env A = some env' → ∀ Q : L2.St → Hp → Prop,
  (∀ σ', Slt K ca F m σ' env' → σ'.length = σ.length → (∀ i : Nat, i ∉ js → σ'[i]? = σ[i]?) → Q σ' H) → g vs σ H Q
theorem sg_name : SimG K ca (gName i) (gN i) [i] := fun F m A σ H env v d env' R S r h Q k => by
  cases h
  exact k _ (S.set r) (by simp) fun j hj => by rw [List.getElem?_set_ne (by intro z; exact hj (by simp [z]))]
theorem sgs_nil : SimGs K ca gNil [] [] := fun F m A σ H env vs ds env' R S r h Q k => by
  cases r with
  | nil => cases h; exact ⟨rfl, k σ S rfl fun _ _ => rfl⟩
  | cons _ _ => cases h
theorem sgs_cons {g : TG} {gs : TGs} {f : G} {fs : List G} {js ks : List Nat} (h : SimG K ca g f js) (hs : SimGs K ca gs fs ks) : SimGs K ca (gCons g gs) (f :: fs) (js ++ ks) := fun F m A σ H env vs ds env' R S r e Q k => by
  cases r with
  | nil => cases e
  | cons r1 r2 =>
    rename_i v vs d ds
    unfold gAll at e
    cases q : f d env A with
    | none => rw [q] at e; cases e
    | some env1 =>
      rw [q] at e
      refine ⟨v, vs, rfl, h F m A σ H env v d env1 R S r1 q _ fun σ1 S1 l1 k1 => hs F m A σ1 H env1 vs ds env' R S1 r2 e Q fun σ2 S2 l2 k2 => k σ2 S2 (l2.trans l1) fun i hi => ?_⟩
      rw [k2 i (fun z => hi (List.mem_append_right _ z)), k1 i (fun z => hi (List.mem_append_left _ z))]
theorem gAll_len : ∀ {fs : List G} {ds : List D} {env env' : Sl} {A : Hs}, gAll fs ds env A = some env' → ds.length = fs.length
  | [], [], _, _, _, _ => rfl
  | g :: gs, d :: ds, env, env', A, h => by
    unfold gAll at h
    cases q : g d env A with
    | none => rw [q] at h; cases h
    | some e => rw [q] at h; rw [List.length_cons, List.length_cons, gAll_len h]
  | [], _ :: _, _, _, _, h => by cases h
  | _ :: _, [], _, _, _, h => by cases h
theorem sg_tup {gs : TGs} {fs : List G} {js : List Nat} {n : Nat} (h : SimGs K ca gs fs js) (hn : fs.length = n) : SimG K ca (gTup K n gs) (gT fs) js := fun F m A σ H env v d env' R S r e Q k => by
  cases r with
  | tup s p =>
    have e' : gAll fs _ env A = some env' := e
    exact ⟨_, _, rfl, .inl (.inl (R.fh _ _ s)), by rw [p.length, gAll_len e', hn], h F m A σ H env _ _ env' R S p e' Q k⟩
  | _ => cases e
theorem ss_asg {g : TG} {gf : G} {js : List Nat} (h : SimE K ca W te a) (hg : SimG K ca g gf js) : SimS K ca W (tAsg te g) (sAsg a gf) := fun F m A σ H env Dn R S p => ofE_bind h R S p fun F1 m1 A1 H1 x d R1 g1 S1 rx p1 => by
  cases q : gf d env A1 with
  | none => simp only [q] at p1; exact p1.elim
  | some env' =>
    simp only [q] at p1
    exact hg F1 m1 A1 σ H1 env x d env' R1 S1 rx q _ fun σ' S' _ _ => p1 F1 m1 σ' H1 R1 Stp.refl S'
/-- x op= e -/
def IpS (K : PySem.W.Frag) (ca : String → Addr) (r : TIp) (o : D → D → Hs → RE D) : Prop := ∀ F m A H x y dx dy W σ Q, Rl K ca F m A H → Rep K ca F m x dx → Rep K ca F m y dy → Po K ca (Rep K ca) F m H W σ Q (o dx dy A) → r x y H Q
theorem po_ofE {k : D → Hs → RS} {T : VK} {r : RE D} (S : Slt K ca F m σ env) (p : PoS K ca F m H W Dn (ofE env r k)) (kk : ∀ F1 m1 A1 H1 x d, Rl K ca F1 m1 A1 H1 → Stp F m H F1 m1 H1 → Slt K ca F1 m1 σ env → Rep K ca F1 m1 x d → PoS K ca F1 m1 H1 W Dn (k d A1) → T x H1) : Po K ca (Rep K ca) F m H W σ T r := by
  cases r with
  | ok d A1 => exact fun v F1 m1 H1 R1 g1 r => kk F1 m1 A1 H1 v d R1 g1 (S.stp g1) r (PoS.stp p g1)
  | exc C A1 => exact fun F1 m1 H1 R1 g1 => p F1 m1 σ H1 R1 g1 (S.stp g1)
  | stuck => exact p
theorem ss_aug {r : TIp} {o : D → D → Hs → RE D} (ho : IpS K ca r o) (h : SimE K ca W te a) : SimS K ca W (tAug i te r) (sAug i o a) := fun F m A σ H env Dn R S p => by
  unfold sAug at p
  cases q : env[i]? with
  | none => rw [q] at p; exact p.elim
  | some z =>
    cases z with
    | none => rw [q] at p; exact p.elim
    | some dx =>
      rw [q] at p
      obtain ⟨x, h1, h2⟩ := S.val i dx q
      refine ⟨x, h1, ofE_bind h R S p fun F1 m1 A1 H1 y dy R1 g1 S1 ry p1 => ?_⟩
      exact ho F1 m1 A1 H1 x y dx dy W σ _ R1 (h2.mono g1.ff g1.mm) ry (po_ofE S1 p1 fun F2 m2 A2 H2 z dz R2 g2 S2 rz p2 => p2 F2 m2 _ H2 R2 Stp.refl (S2.set rz))
theorem ss_fl {f : String} {f' : Str} {tv : TE} (hf : f' = fS f) (kc : NoF K ca cs f') (ho : SimE K ca W ta a) (hv : SimE K ca W tv b) : SimS K ca W (sFld K ta tv f') (sFl cs f a b) := fun F m A σ H env Dn R S p =>
  ofE_bind hv R S p fun F1 m1 A1 H1 y dy R1 g1 S1 ry p1 => ofE_bind ho R1 S1 p1 fun F2 m2 A2 H2 x dx R2 g2 S2 rx p2 => by
    cases q : setFld cs A2 dx f dy with
    | none => simp only [q] at p2; exact p2.elim
    | some A3 =>
      simp only [q] at p2
      obtain ⟨a, C, dxx, kvs, _, e, h1, h2, h3, h4, R3, g3⟩ := setFld_at hf R2 rx (ry.mono g2.ff g2.mm) kc q
      exact ⟨a, ca C, dxx, kvs, e, h1, h2, h3, by omega, p2 F2 m2 σ _ R3 g3 S2⟩
theorem ss_raise {C : String} {Ca : Addr} (h : ca C = Ca) : SimS K ca W (tRaise W Ca) (sRaise C) := fun F m A σ H env Dn R S p => by
  subst h; exact p F m σ H R Stp.refl S
/-! ### loops -/
theorem ss_while (ht : SimT K ca W t ft) (h : SimS K ca W s f) : SimS K ca W (tWhile t s) (sWh ft f) := fun F m A σ H env Dn R S p => by
  have hx : ∃ n, whN ft f n env A ≠ .stuck := by
    by_cases q : ∃ n, whN ft f n env A ≠ .stuck
    · exact q
    · unfold sWh at p; rw [dif_neg q] at p; exact p.elim
  obtain ⟨n, hn⟩ := hx
  rw [sWh_eq hn] at p
  refine ⟨fun n σ' H' => ∃ F' m' A' env', Rl K ca F' m' A' H' ∧ Slt K ca F' m' σ' env' ∧ PoS K ca F' m' H' W Dn (whN ft f n env' A'), ⟨n, F, m, A, env, R, S, p⟩, ?_⟩
  rintro n σ' H' ⟨F', m', A', env', R', S', p'⟩
  cases n with
  | zero => exact p'.elim
  | succ n =>
    unfold whN at p'
    refine ofT_bind ht R' S' p' fun F1 m1 A1 H1 c R1 g1 S1 p1 => ?_
    cases c with
    | false => exact p1 F1 m1 σ' H1 R1 Stp.refl S1
    | true =>
      refine ⟨fun σ2 H2 => ∃ F2 m2 A2 env2, Rl K ca F2 m2 A2 H2 ∧ Slt K ca F2 m2 σ2 env2 ∧ PoS K ca F2 m2 H2 W Dn (whN ft f n env2 A2), fun σ2 H2 z => ⟨n, Nat.lt_succ_self n, z⟩, ?_⟩
      refine h F1 m1 A1 σ' H1 env' _ R1 S1 ?_
      simp only [if_true] at p1
      cases q : f env' A1 with
      | nx e A2 => rw [q] at p1; exact fun F2 m2 σ2 H2 R2 g2 S2 => ⟨F2, m2, A2, e, R2, S2, PoS.stp p1 g2⟩
      | ct e A2 => rw [q] at p1; exact fun F2 m2 σ2 H2 R2 g2 S2 => ⟨F2, m2, A2, e, R2, S2, PoS.stp p1 g2⟩
      | bk e A2 => rw [q] at p1; exact p1
      | rt d A2 => rw [q] at p1; exact p1
      | exc C e A2 => rw [q] at p1; exact p1
      | stuck => rw [q] at p1; exact p1
/-- what is walked -/
def PoW (K : PySem.W.Frag) (ca : String → Addr) (F : Hp) (m : List Addr) (H : Hp) (W : WX) (σ : L2.St) (R : It → Hp → Prop) : RE Wk → Prop
  | .ok k A' => ∀ J F' m' H', Rl K ca F' m' A' H' → Stp F m H F' m' H' → (∃ (G : Hp → Prop) (Y : Nat → Hp → V → Hp → Prop), Walk J k.ds.length G Y ∧
      (∀ F2 m2 A2 H2, k.gd A2 → Rl K ca F2 m2 A2 H2 → Stp F' m' H' F2 m2 H2 → G H2) ∧
      ∀ i d x F2 m2 A2 H2 H3, k.ds[i]? = some d → k.gd A2 → Rl K ca F2 m2 A2 H2 → Stp F' m' H' F2 m2 H2 → Y i H2 x H3 → (H3 = H2 ∧ Rep K ca F2 m2 x d) ∨ (∃ T vs l, d = .tup l ∧ x = .ref T ∧ H2 T = none ∧ H3 = upd H2 T (.tup vs) ∧ RepL K ca F2 m2 vs l)) → R J H'
  | .exc C A' => ∀ F' m' H', Rl K ca F' m' A' H' → Stp F m H F' m' H' → W (.ref (ca C)) none σ H'
  | .stuck => False
def SimI (K : PySem.W.Frag) (ca : String → Addr) (W : WX) (wi : TI) (f : Sl → Hs → RE Wk) : Prop := ∀ F m A σ H env R, Rl K ca F m A H → Slt K ca F m σ env → PoW K ca F m H W σ R (f env A) → wi σ H R
theorem ss_for {wi : TI} {w : Sl → Hs → RE Wk} {g : TG} {gf : G} {js : List Nat} (hi : SimI K ca W wi w) (hg : SimG K ca g gf js) (h : SimS K ca W s f) : SimS K ca W (tFor wi g s) (sFor w gf f) := fun F m A σ H env Dn R S p => by
  refine hi F m A σ H env _ R S ?_
  unfold sFor at p
  cases q : w env A with
  | stuck => rw [q] at p; exact p
  | exc C A1 => rw [q] at p; exact fun F1 m1 H1 R1 g1 => p F1 m1 σ H1 R1 g1 (S.stp g1)
  | ok k A1 =>
    rw [q] at p
    rintro J F1 m1 H1 R1 g1 ⟨G, Y, wk, hG, hY⟩
    refine for_it wk (fun i σ' H' => ∃ F' m' A' env', Rl K ca F' m' A' H' ∧ Slt K ca F' m' σ' env' ∧ Stp F1 m1 H1 F' m' H' ∧ PoS K ca F' m' H' W Dn (forL gf f k.gd (k.ds.drop i) env' A')) ⟨F1, m1, A1, env, R1, S.stp g1, Stp.refl, PoS.stp p g1⟩ ?_ ?_ ?_
    · rintro i σ' H' hi ⟨F', m', A', env', R', S', g', p'⟩
      refine hG F' m' A' H' ?_ R' g'
      cases z : k.ds.drop i with
      | nil => rw [z] at p'; unfold forL at p'; split at p'; assumption; exact p'.elim
      | cons d ds => rw [z] at p'; unfold forL at p'; split at p'; assumption; exact p'.elim
    · rintro i x σ2 H2 H3 hlt ⟨F2, m2, A2, env2, R2, S2, g2, p2⟩ y
      rw [List.drop_eq_getElem_cons hlt] at p2
      have gd2 : k.gd A2 := by
        by_cases z : k.gd A2
        · exact z
        · unfold forL at p2; rw [if_neg z] at p2; exact p2.elim
      have st3 : ∃ F3, Rl K ca F3 m2 A2 H3 ∧ Stp F2 m2 H2 F3 m2 H3 ∧ Rep K ca F3 m2 x k.ds[i] := by
        rcases hY i k.ds[i] x F2 m2 A2 H2 H3 (by simp [hlt]) gd2 R2 g2 y with ⟨e, rp⟩ | ⟨T, vs, l, q1, q2, q3, q4, q5⟩
        · subst e; exact ⟨F2, R2, Stp.refl, rp⟩
        · subst q4
          rw [q1, q2]
          obtain ⟨R3, g3⟩ := R2.new (u := .tup vs) q3
          exact ⟨_, R3, g3, .tup upd_same (q5.mono g3.ff g3.mm)⟩
      obtain ⟨F3, R3, g3, rp⟩ := st3
      have p3 := PoS.stp p2 g3
      unfold forL at p3
      rw [if_pos gd2] at p3
      cases z : gf k.ds[i] env2 A2 with
      | none => rw [z] at p3; exact p3.elim
      | some env3 =>
        rw [z] at p3
        refine hg F3 m2 A2 σ2 H3 env2 x k.ds[i] env3 R3 (S2.stp g3) rp z _ fun σ3 S3 _ _ => ?_
        refine h F3 m2 A2 σ3 H3 env3 _ R3 S3 ?_
        cases y : f env3 A2 with
        | nx e A4 => simp only [y] at p3; exact fun F4 m4 σ4 H4 R4 g4 S4 => ⟨F4, m4, A4, e, R4, S4, (g2.trans g3).trans g4, PoS.stp p3 g4⟩
        | ct e A4 => simp only [y] at p3; exact fun F4 m4 σ4 H4 R4 g4 S4 => ⟨F4, m4, A4, e, R4, S4, (g2.trans g3).trans g4, PoS.stp p3 g4⟩
        | bk e A4 => simp only [y] at p3; exact p3
        | rt d A4 => simp only [y] at p3; exact p3
        | exc C e A4 => simp only [y] at p3; exact p3
        | stuck => simp only [y] at p3; exact p3
    · rintro σ' H' ⟨F', m', A', env', R', S', g', p'⟩
      rw [List.drop_length] at p'
      unfold forL at p'
      split at p'
      · exact p' F' m' σ' H' R' Stp.refl S'
      · exact p'.elim
end
end SM

/-! ## comprehensions, new instances, methods, defs -/
namespace SM
open PySem L2
open DL (Ex ExK)
section
variable {K : PySem.W.Frag} {ca : String → Addr} {F F1 F2 H H1 H2 : Hp} {m m1 m2 : List Addr} {A A1 A2 : Hs} {σ : L2.St} {env : Sl} {W : WX}
variable {ta tb tc te : TE} {a b c : E} {i : Nat} {d : D} {t u : TT} {ft fu : Tt} {ts : TA} {as : As} {x : V} {dx : D} {C : String} {fs : List (String × D)} {cs : List String}
theorem Slt.wiped (S : Slt K ca F m σ env) : ∀ vs : List Nat, Slt K ca F m (L2.wipe σ vs) (wipeS env vs)
  | [] => S
  | v :: vs => (Slt.wiped S vs).unset
theorem wipe_same {σ : L2.St} {σ2 : L2.St} {vs js : List Nat} (hj : ∀ j ∈ js, j ∈ vs) (l4 : σ2.length = (L2.wipe σ vs).length) (q4 : ∀ i : Nat, i ∉ js → σ2[i]? = (L2.wipe σ vs)[i]?) : L2.wipe σ2 vs = L2.wipe σ vs := by
  have len : ∀ (a : L2.St) (us : List Nat), (L2.wipe a us).length = a.length := fun a us => wipe_length a us
  have inn : ∀ (a : L2.St) (us : List Nat) (n : Nat), n ∈ us → n < a.length → (L2.wipe a us)[n]? = some none := fun a us => by
    induction us with
    | nil => intro n h _; simp at h
    | cons v us ih =>
      intro n h hl
      unfold L2.wipe
      by_cases z : v = n
      · subst z; rw [List.getElem?_set_self (by rw [len]; exact hl)]
      · rw [List.getElem?_set_ne z]
        exact ih n (by simp only [List.mem_cons] at h; rcases h with h | h; exact absurd h.symm z; exact h) hl
  apply List.ext_getElem?
  intro n
  by_cases z : n ∈ vs
  · by_cases hl : n < σ.length
    · rw [inn σ2 vs n z (by rw [l4, len]; exact hl), inn σ vs n z hl]
    · rw [List.getElem?_eq_none (by rw [len, l4, len]; omega), List.getElem?_eq_none (by rw [len]; omega)]
  · rw [DL.wipe_out z, q4 n (fun y => z (hj n y)), DL.wipe_out z]
theorem se_lc {wi : TI} {w : Sl → Hs → RE Wk} {g : TG} {gf : G} {js vs : List Nat} {W2 : WX} (hi : SimI K ca W wi w) (hg : SimG K ca g gf js) (hj : ∀ j ∈ js, j ∈ vs) (ht : SimT K ca W2 t ft) (ha : SimE K ca W2 ta a) : SimE K ca W (tLc wi g t ta vs) (eLc w gf ft a vs) := fun F m A σ H env Q R S p => by
  refine hi F m A σ H env _ R S ?_
  unfold eLc at p
  cases q : w env A with
  | stuck => rw [q] at p; exact p
  | exc C A1 => rw [q] at p; exact p
  | ok k A1 =>
    rw [q] at p
    rintro J F1 m1 H1 R1 g1 ⟨G, Y, wk, hG, hY⟩ Dl hD
    have p := Po.stp (r := match lcL gf ft a k.gd (wipeS env vs) k.ds [] A1 with
      | .ok l A2 => alloc A2 (.lst l)
      | _ => .stuck) p g1
    obtain ⟨R2, g2⟩ := R1.newH (u := .lst []) hD
    -- the plain run from turn i
    let run := fun (i : Nat) (acc : List D) (A' : Hs) => match lcL gf ft a k.gd (wipeS env vs) (k.ds.drop i) acc A' with
      | .ok l A2 => alloc A2 (.lst l)
      | _ => RE.stuck
    refine lc_it wk (fun i H' => ∃ F' m' A' acc ws, Rl K ca F' m' A' H' ∧ Stp F1 m1 H1 F' m' H' ∧ H' Dl = some (.lst ws) ∧ Dl ∉ m' ∧ F' Dl = none ∧ RepL K ca F' m' ws acc ∧ Po K ca (Rep K ca) F1 m1 H1 W σ Q (run i acc A')) ?_ ?_ ?_ ?_
    · exact ⟨F1, m1, A1, [], [], R2, g2, upd_same, R1.out hD, R1.fh.back hD, .nil, p⟩
    · rintro i H' hi ⟨F', m', A', acc, ws, R', g', d1, d2, d3, rs, p'⟩
      refine hG F' m' A' H' ?_ R' g'
      show k.gd A'
      dsimp only [run] at p'
      cases z : k.ds.drop i with
      | nil =>
        rw [z] at p'; unfold lcL at p'
        by_cases y : k.gd A'
        · exact y
        · rw [if_neg y] at p'; exact p'.elim
      | cons d ds =>
        rw [z] at p'; unfold lcL at p'
        by_cases y : k.gd A'
        · exact y
        · rw [if_neg y] at p'; exact p'.elim
    · rintro i x H2 H3 hlt ⟨F2, m2, A2, acc, ws, R2, g2, d1, d2, d3, rs, p2⟩ y
      have gd2 : k.gd A2 := by
        dsimp only [run] at p2
        rw [List.drop_eq_getElem_cons hlt] at p2
        by_cases z : k.gd A2
        · exact z
        · unfold lcL at p2; rw [if_neg z] at p2; exact p2.elim
      have st3 : ∃ F3, Rl K ca F3 m2 A2 H3 ∧ Stp F2 m2 H2 F3 m2 H3 ∧ Rep K ca F3 m2 x k.ds[i] ∧ H3 Dl = some (.lst ws) ∧ F3 Dl = none := by
        rcases hY i k.ds[i] x F2 m2 A2 H2 H3 (by simp [hlt]) gd2 R2 g2 y with ⟨e, rp⟩ | ⟨T, us, l, q1, q2, q3, q4, q5⟩
        · subst e; exact ⟨F2, R2, Stp.refl, rp, d1, d3⟩
        · subst q4
          rw [q1, q2]
          obtain ⟨R3, g3⟩ := R2.new (u := .tup us) q3
          have nT : Dl ≠ T := fun z => by rw [← z, d1] at q3; cases q3
          exact ⟨_, R3, g3, .tup upd_same (q5.mono g3.ff g3.mm), by rw [upd_ne nT]; exact d1, by rw [upd_ne nT]; exact d3⟩
      obtain ⟨F3, R3, g3, rp, e1, e3⟩ := st3
      have rs3 := rs.mono g3.ff g3.mm
      have p3 := p2
      dsimp only [run] at p3
      rw [List.drop_eq_getElem_cons hlt] at p3
      unfold lcL at p3
      by_cases gd : k.gd A2
      · rw [if_pos gd] at p3
        cases z : gf k.ds[i] (wipeS env vs) A2 with
        | none => rw [z] at p3; exact p3.elim
        | some env3 =>
          rw [z] at p3
          have S3 := (((S.stp g1).stp g2).stp g3).wiped vs
          refine hg F3 m2 A2 (L2.wipe σ vs) H3 _ x k.ds[i] env3 R3 S3 rp z _ fun σ3 S4 l4 k4 => ?_
          refine ⟨wipe_same hj l4 k4, ?_⟩
          -- what a step keeps of the new list
          have keep : ∀ {F' m' A' H'}, Rl K ca F' m' A' H' → Stp F3 m2 H3 F' m' H' → H' Dl = some (.lst ws) ∧ Dl ∉ m' ∧ F' Dl = none := fun R' g' => by
            have h1 := g'.kp Dl _ e1 d2
            refine ⟨h1, fun z => ?_, ?_⟩
            · rcases g'.gm Dl z with y | y
              · exact d2 y
              · rw [e1] at y; cases y
            · rename_i F' m' A' H'
              cases w : F' Dl with
              | none => rfl
              | some v =>
                rcases g'.gn Dl (by rw [w]; simp) with y | y
                · exact absurd e3 y
                · rw [e1] at y; cases y
          refine ht F3 m2 A2 σ3 H3 env3 _ R3 S4 ?_
          cases y : ft env3 A2 with
          | stuck => simp only [y] at p3; exact p3.elim
          | exc C A4 => simp only [y] at p3; exact p3.elim
          | ok bb A4 =>
            intro v F4 m4 H4 R4 g4 ev
            cases (show v = bb from ev)
            cases bb with
            | false =>
              simp only [y] at p3
              obtain ⟨f1, f2, f3⟩ := keep R4 g4
              exact ⟨F4, m4, A4, acc, ws, R4, (g2.trans g3).trans g4, f1, f2, f3, rs3.mono g4.ff g4.mm, p3⟩
            | true =>
              simp only [y] at p3
              have p4 := p3
              refine ha F4 m4 A4 σ3 H4 env3 _ R4 (S4.stp g4) ?_
              cases y2 : a env3 A4 with
              | stuck => simp only [y2] at p4; exact p4.elim
              | exc C A5 => simp only [y2] at p4; exact p4.elim
              | ok dz A5 =>
                simp only [y2] at p4
                by_cases hl : acc.length < sizeLine
                · rw [if_pos hl] at p4
                  intro v F5 m5 H5 R5 g5 rv
                  obtain ⟨f1, f2, f3⟩ := keep R5 (g4.trans g5)
                  refine ⟨ws, f1, by rw [rs.length]; exact hl, ?_⟩
                  have rs5 := rs3.mono (g4.trans g5).ff (g4.trans g5).mm
                  -- the new list grows
                  have ne : ∀ a, a ∈ m5 → a ≠ Dl := fun a ha z => f2 (by rw [← z]; exact ha)
                  have R6 : Rl K ca F5 m5 A5 (upd H5 Dl (.lst (ws ++ [v]))) := ⟨R5.fh.right f3, R5.len, R5.nd, R5.fr, fun j o b h1 h2 => (R5.ob j o b h1 h2).mono (Ex.refl _) (Pre.refl _) fun w hw => by
                    rw [upd_ne (ne b (List.mem_of_getElem? h2))]; exact hw⟩
                  have nD0 : H1 Dl = none := hD
                  have gA : Stp F1 m1 H1 F5 m5 H5 := ((g2.trans g3).trans g4).trans g5
                  have gB : Stp F1 m1 H1 F5 m5 (upd H5 Dl (.lst (ws ++ [v]))) := ⟨gA.ff, gA.mm, fun b w h n => by
                      rw [upd_ne fun z => by rw [z, nD0] at h; cases h]; exact gA.kp b w h n, gA.gn, gA.gm, fun b h z => by
                      by_cases w : b = Dl
                      · rw [w, nD0] at h; exact h rfl
                      · rw [upd_ne w] at z; exact gA.th b h z, fun b od w h => by
                      rw [upd_ne fun z => by rw [z, nD0] at h; cases h]; exact gA.fz b od w h⟩
                  refine ⟨F5, m5, A5, acc ++ [dz], ws ++ [v], R6, gB, upd_same, f2, f3, rs5.append (.cons rv .nil), p4⟩
                · rw [if_neg hl] at p4; exact p4.elim
      · rw [if_neg gd] at p3; exact p3.elim
    · rintro H' ⟨F', m', A', acc, ws, R', g', d1, d2, d3, rs, p'⟩
      dsimp only [run] at p'
      rw [List.drop_length] at p'
      unfold lcL at p'
      by_cases gd : k.gd A'
      · rw [if_pos gd] at p'
        have R2 := R'.take (o := .lst acc) d2 d3 ⟨ws, d1, rs.mono (Ex.refl _) ⟨_, rfl⟩⟩
        refine p' (.ref Dl) F' (m' ++ [Dl]) H' R2 ⟨g'.ff, g'.mm.trans ⟨_, rfl⟩, g'.kp, g'.gn, fun b h => ?_, g'.th, g'.fz⟩ (.ref (by rw [List.getElem?_append_right (by rw [R'.len]; exact Nat.le_refl _), R'.len]; simp))
        rcases List.mem_append.mp h with z | z
        · exact g'.gm b z
        · rw [List.mem_singleton] at z; rw [z]; exact .inr hD
      · rw [if_neg gd] at p'; exact p'.elim

/-! ### new instances -/
theorem make_sim {f : Fn} {vs : List V} {ds : List D} {Q : VK} {X : XK} {x dx : Addr} (R1 : Rl K ca F m A H) (rs : RepL K ca F m vs ds) (hx : H x = none) (hdx : H dx = none) (hne : dx ≠ x) (p : PoF K ca F m H Q X (make C f ds A)) :
    SpF K ca f (.ref x :: vs) (upd (upd H dx (.own x)) x (.ins (ca C) dx [])) (fun v H2 => v = .non ∧ Q (.ref x) H2) X := by
  obtain ⟨R2, g2⟩ := R1.newH (u := .own x) hdx
  have hx2 : (upd H dx (.own x)) x = none := by rw [upd_ne (Ne.symm hne)]; exact hx
  obtain ⟨R3, g3, r3⟩ := R2.alloc (u := .ins (ca C) dx []) (o := .obj C []) hx2 ⟨dx, [], upd_same, .nil⟩
  have g := g2.trans g3
  refine ⟨F, m ++ [x], A ++ [.obj C []], .ref A.length :: ds, R3, .cons r3 (rs.mono g.ff g.mm), ?_⟩
  unfold make at p
  cases q : f (.ref A.length :: ds) (A ++ [.obj C []]) with
  | stuck => rw [q] at p; exact p
  | exc Ce A2 => rw [q] at p; exact fun F' m' H' R' g' => p F' m' H' R' (g.trans g')
  | ok d A2 =>
    rw [q] at p
    intro v F' m' H' R' g' rv
    cases rv with
    | non => exact ⟨rfl, p (.ref x) F' m' H' R' (g.trans g') (r3.mono g'.ff g'.mm)⟩
    | _ => exact p.elim
theorem se_make {f : Fn} (hs : SimA K ca W ts as) : SimE K ca W (tMakeS (ca C) (SpF K ca f) (WE W) ts) (eMake C f as) := fun F m A σ H env Q R S p =>
  hs.bind R S p fun F1 m1 A1 H1 xs ds R1 g1 S1 rs p1 => fun x dx hx hdx hne => make_sim R1 rs hx hdx hne (pof_po p1)
/-! ### methods, by the classes at hand -/
theorem methX_sim {f : Fn} {mm : String} {mm' : Str} {Q : VK} {X : XK} (hf : mm' = fS mm) (R : Rl K ca F m A H) (S : Slt K ca F m σ env) (hs : SimA K ca W ts as) (rx : Rep K ca F m x dx) {fs : List (String × D)} (ho : objAt A dx = some (C, fs)) (hn : fs.lookup mm = none)
    {k : RE D → RE D} (hk : ∀ {F1 m1 H1 r}, Po K ca (Rep K ca) F1 m1 H1 W σ Q (k r) → PoF K ca F1 m1 H1 Q X r)
    (p : Po K ca (Rep K ca) F m H W σ Q ((as env A).bind fun ds A2 => k (f (dx :: ds) A2))) : ∃ a dxx kvs, x = .ref a ∧ H a = some (.ins (ca C) dxx kvs) ∧ kvs.lookup mm' = none ∧ ts σ H fun vs H2 => SpF K ca f (x :: vs) H2 Q X := by
  obtain ⟨i, a, dxx, kvs, e1, e2, h1, h2, h3, h4⟩ := obj_at R rx ho
  refine ⟨a, dxx, kvs, e2, h3, by rw [hf]; exact (fS_look (f := mm) h4).2 hn, ?_⟩
  exact hs.bind R S p fun F1 m1 A1 H1 xs ds R1 g1 S1 rs p1 => ⟨F1, m1, A1, dx :: ds, R1, .cons (rx.mono g1.ff g1.mm) rs, hk p1⟩
theorem methOf_one {mm : String} {C : String} {f f' : Fn} {A : Hs} {x : D} (q : methOf mm [(C, f)] A x = some f') : f' = f ∧ ∃ fs, objAt A x = some (C, fs) ∧ fs.lookup mm = none := by
  unfold methOf at q
  cases z : objAt A x with
  | none => rw [z] at q; cases q
  | some w =>
    obtain ⟨C', fs⟩ := w
    rw [z] at q
    simp only at q
    split at q
    · cases q
    · rename_i hn
      rw [List.lookup_cons] at q
      cases y : (C' == C) with
      | false => rw [y] at q; cases q
      | true =>
        rw [y] at q
        cases q
        have e := eq_of_beq y
        subst e
        exact ⟨rfl, fs, rfl, by cases w : fs.lookup mm with
          | none => rfl
          | some _ => rw [w] at hn; exact absurd rfl hn⟩
theorem meth_one {mm : String} {mm' : Str} {f : Fn} (hf : mm' = fS mm) (ho : SimE K ca W ta a) (hs : SimA K ca W ts as) : SimE K ca W (tMethX (ca C) mm' (SpF K ca f) (WE W) ta ts) (eMeth mm [(C, f)] a as) := fun F m A σ H env Q R S p =>
  ho.bind R S p fun F1 m1 A1 H1 x dx R1 g1 S1 rx p1 => by
    cases q : methOf mm [(C, f)] A1 dx with
    | none => simp only [q] at p1; exact p1.elim
    | some f' =>
      simp only [q] at p1
      obtain ⟨rfl, fs, z, hn⟩ := methOf_one q
      exact methX_sim (k := fun r => r) hf R1 S1 hs rx z hn pof_po p1
theorem meth0_one {mm : String} {mm' : Str} {f : Fn} {X : XK} (hf : mm' = fS mm) (ho : SimE K ca W ta a) (hs : SimA K ca W ts as) : SimE K ca W (tMeth (ca C) mm' (SpF K ca f) [] X ta ts) (eMeth0 mm [(C, f)] a as) := fun F m A σ H env Q R S p =>
  ho.bind R S p fun F1 m1 A1 H1 x dx R1 g1 S1 rx p1 => by
    cases q : methOf mm [(C, f)] A1 dx with
    | none => simp only [q] at p1; exact p1.elim
    | some f' =>
      simp only [q] at p1
      obtain ⟨rfl, fs, z, hn⟩ := methOf_one q
      obtain ⟨a', b', c', e, h1, h2, h3⟩ := methX_sim (X := X) (k := fun r => r.noX) hf R1 S1 hs rx z hn pof_noX p1
      refine ⟨a', b', c', e, h1, h2, ?_⟩
      simp only [List.append_nil]
      exact h3
end

/-! ### defs -/
section
variable {P : Program} {w : World} {K : PySem.W.Frag} {ca : String → Addr} {mg : Str → Option Value} {base : Heap} {x qn : Str} {st : Stmt} {fa : Addr} {fd : FuncData} {N ps : List Str} {k : Nat}
theorem spF_len {n mm : Nat} {b : S} {vs : List V} {H : Hp} {Q : VK} {E : XK} (h : SpF K ca (mkFn n mm b) vs H Q E) : vs.length = n := by
  obtain ⟨F, m, A, ds, R, rs, p⟩ := h
  rw [rs.length]
  unfold mkFn at p
  split at p
  · assumption
  · exact p.elim
theorem run_SpF {n : Nat} {b : S} {t : TS} {vs : List V} {H : Hp} {Q : VK} {E : XK} (h : SpF K ca (mkFn n N.length b) vs H Q E) (hb : SimS K ca (fun cls d _ H => E cls d H) t b) : t { nx := fun _ H' => Q .non H', rt := Q } (L2.start N vs) H := by
  have hl := spF_len h
  obtain ⟨F, m, A, ds, R, rs, p⟩ := h
  have hn : ds.length = n := by rw [← rs.length, hl]
  unfold mkFn at p
  rw [if_pos hn] at p
  have S : Slt K ca F m (L2.start N vs) (ds.map some ++ List.replicate (N.length - n) none) := by
    refine ⟨by unfold L2.start; simp [hl, hn], fun i d h => ?_⟩
    by_cases hi : i < ds.length
    · rw [List.getElem?_append_left (by simpa using hi), List.getElem?_map] at h
      cases z : ds[i]? with
      | none => rw [z] at h; cases h
      | some d' =>
        rw [z] at h; cases h
        obtain ⟨v, h1, h2⟩ := rs.get z
        refine ⟨v, ?_, h2⟩
        unfold L2.start
        have hv : i < vs.length := (List.getElem?_eq_some_iff.mp h1).1
        rw [List.getElem?_append_left (by simpa using hv), List.getElem?_map, h1]; rfl
    · rw [List.getElem?_append_right (by simpa using Nat.le_of_not_lt hi)] at h
      obtain ⟨h1, h2⟩ := List.getElem?_eq_some_iff.mp h
      rw [List.getElem_replicate] at h2
      cases h2
  refine hb F m A _ H _ _ R S ?_
  cases q : b (ds.map some ++ List.replicate (N.length - n) none) A with
  | nx e A' => rw [q] at p; exact fun F' m' σ' H' R' g' S' => p .non F' m' H' R' g' .non
  | rt d A' => rw [q] at p; exact p
  | exc C e A' => rw [q] at p; exact fun F' m' σ' H' R' g' S' => p F' m' H' R' g'
  | bk e A' => rw [q] at p; exact p.elim
  | ct e A' => rw [q] at p; exact p.elim
  | stuck => rw [q] at p; exact p.elim
/-- a def that may raise -/
theorem Fn.ofF {n : Nat} {b : S} (F : Fun K x qn st fa fd) (S : FnScope N ps (defScope st)) (hn : ps.length = n)
    (body : ∀ (cdv : Value) (A : Around) (outer : List PySem.Env) (s : Shared) (H : Hp) (E : XK), Room k (A.deeper (PyProof.Rows.envOfC qn (defScope st) s.heap.objs.size fa cdv)) →
      ∃ t, PSs (cxOf (L2.CX P w) P w K mg base N qn (defScope st) fa cdv A outer s H E) (defBody st) t ∧ SimS K ca (fun cls d _ H => E cls d H) t b) : FnOk P w K mg base (L2.CX P w) (k + 1) fa fd ps (SpF K ca (mkFn n N.length b)) :=
  F.okX S (fun vs H Q E h => by rw [hn]; exact spF_len h) fun cdv A outer s H vs Q E hr h => by
    obtain ⟨t, h1, h2⟩ := body cdv A outer s H E hr
    exact ⟨t, h1, run_SpF h h2⟩
/-- a def that lets nothing out -/
theorem Fn.ofF0 {n : Nat} {b : S} (F : Fun K x qn st fa fd) (S : FnScope N ps (defScope st)) (hn : ps.length = n)
    (body : ∀ (cdv : Value) (A : Around) (outer : List PySem.Env) (s : Shared) (H : Hp) (E : XK), Room k (A.deeper (PyProof.Rows.envOfC qn (defScope st) s.heap.objs.size fa cdv)) →
      ∃ t, PSs (cxOf CX0 P w K mg base N qn (defScope st) fa cdv A outer s H E).nox (defBody st) t ∧ SimS K ca (fun cls d _ H => E cls d H) t b) : FnOk P w K mg base CX0 (k + 1) fa fd ps (SpF K ca (mkFn n N.length b)) :=
  F.ok S (fun vs H Q E h => by rw [hn]; exact spF_len h) fun cdv A outer s H vs Q E hr h => by
    obtain ⟨t, h1, h2⟩ := body cdv A outer s H E hr
    exact ⟨t, h1, run_SpF h h2⟩
end
/-! ### methods by name -/
structure Mt (P : Program) (w : World) (K : PySem.W.Frag) (mg : Str → Option Value) (base : Heap) (k : Nat) (C : Addr) (mm : Str) (sp : Sp) : Prop where
  ex : ∃ (f : Addr) (fd : FuncData) (ps : List Str), Meth K C mm f ∧ FnOk P w K mg base (L2.CX P w) k f fd ps sp ∧ Binds K fd ps []
theorem Mt.of {P : Program} {w : World} {K : PySem.W.Frag} {mg : Str → Option Value} {base : Heap} {k : Nat} {C fa : Addr} {mm : Str} {fd : FuncData} {ps : List Str} {sp : Sp} (M : Meth K C mm fa) (h : FnOk P w K mg base (L2.CX P w) k fa fd ps sp) (b : Binds K fd ps []) : Mt P w K mg base k C mm sp := ⟨fa, fd, ps, M, h, b⟩
section
variable {X : Cx} {W : WX} {k j : Nat} {x mm : Str} {C : Addr} {sp : Sp} {p pos apos : Pos} {o e : Expr} {es : List Expr} {t : TA} {ta : TE}
theorem pe_mtX {pl : Sem Bool} (c : Mt X.prog X.w X.K X.mg X.base k C mm sp) (tk : Takes X W) (hr : Room j X.A) (hk : k ≤ j) (cl : Cls X.K C) (he : PE X o ta) (ha : PA X (e :: es) t)
    (hst : starEach (e :: es) X.env = (false, eval e X.env) :: starEach es X.env := by rfl) (hpl : (backTo pos (starEach es X.env)).any (·.1) = false := by rfl)
    (ht : eval (.Call (.Attribute o mm apos) (e :: es) [] pos) X.env = (do
      let ov ← eval o X.env
      standAt apos.atName
      let (f, first) ← holding [ov] (getMethod ov mm pl)
      callWith pos f first (backTo pos (starEach (e :: es) X.env)) (backToKw pos (keywordEach [] X.env))) := by rfl) :
    PE X (.Call (.Attribute o mm apos) (e :: es) [] pos) (tMethX C mm sp (WE W) ta t) := by
  obtain ⟨f, fd, ps, M, F, b⟩ := c.ex
  exact pe_methX he cl M F (hr.mono hk) b (fun σ => passAt tk σ) ha hst hpl ht
theorem pe_mtX0 {pl : Sem Bool} (c : Mt X.prog X.w X.K X.mg X.base k C mm sp) (tk : Takes X W) (hr : Room j X.A) (hk : k ≤ j) (cl : Cls X.K C) (he : PE X o ta)
    (ht : eval (.Call (.Attribute o mm apos) [] [] pos) X.env = (do
      let ov ← eval o X.env
      standAt apos.atName
      let (f, first) ← holding [ov] (getMethod ov mm pl)
      callWith pos f first (backTo pos (starEach [] X.env)) (backToKw pos (keywordEach [] X.env))) := by rfl) :
    PE X (.Call (.Attribute o mm apos) [] [] pos) (tMethX C mm sp (WE W) ta tNil) := by
  obtain ⟨f, fd, ps, M, F, b⟩ := c.ex
  exact pe_methX0 he cl M F (hr.mono hk) b (fun σ => passAt tk σ) ht
theorem pe_mtN {pl : Sem Bool} (c : Mt X.prog X.w X.K X.mg X.base k C mm sp) (hr : Room j X.A) (hk : k ≤ j) (cl : Cls X.K C) (he : PE X o ta) (ha : PA X (e :: es) t)
    (hst : starEach (e :: es) X.env = (false, eval e X.env) :: starEach es X.env := by rfl) (hpl : (backTo pos (starEach es X.env)).any (·.1) = false := by rfl)
    (ht : eval (.Call (.Attribute o mm apos) (e :: es) [] pos) X.env = (do
      let ov ← eval o X.env
      standAt apos.atName
      let (f, first) ← holding [ov] (getMethod ov mm pl)
      callWith pos f first (backTo pos (starEach (e :: es) X.env)) (backToKw pos (keywordEach [] X.env))) := by rfl) :
    PE X (.Call (.Attribute o mm apos) (e :: es) [] pos) (tMeth C mm sp [] E0 ta t) := by
  obtain ⟨f, fd, ps, M, F, b⟩ := c.ex
  exact pe_meth he cl M F (hr.mono hk) b .nil passL ha hst hpl ht
open DL (Dx)
end
end SM

/-! ## == and in, of data of any texts -/
namespace L2
open PySem PySem.Spec PyProof.Rows
/-- two lists of different lengths -/
def UnL (H : Hp) (x y : V) : Prop := ∃ a b xs ys, x = .ref a ∧ y = .ref b ∧ H a = some (.lst xs) ∧ H b = some (.lst ys) ∧ xs.length ≠ ys.length
def rEqP (K : PySem.W.Frag) : R2 := fun x y H Q => (∃ d e, Dp K H x d ∧ Dp K H y e ∧ d.plain = true ∧ e.plain = true ∧ d.depth ≤ 60 ∧ Q (.bl (PyData.eqv d e)) H) ∨ (UnL H x y ∧ Q (.bl false) H)
def rNeP (K : PySem.W.Frag) : R2 := fun x y H Q => (∃ d e, Dp K H x d ∧ Dp K H y e ∧ d.plain = true ∧ e.plain = true ∧ d.depth ≤ 60 ∧ Q (.bl (!PyData.eqv d e)) H) ∨ (UnL H x y ∧ Q (.bl true) H)
theorem op_eqP {X : Cx} (hu : X.A.units + 64 < cLine) : OpR X (compareOp .Eq) (rEqP X.K) := by
  intro pins s σ H x y v u Q I rx ry h
  rcases h with ⟨d, e, hd, he, sd, se, dp, q⟩ | ⟨⟨a, b, xs, ys, rfl, rfl, ha, hb, hl⟩, q⟩
  · obtain ⟨as, r1⟩ := Dp.reads I d x v hd rx
    obtain ⟨bs, r2⟩ := Dp.reads I e y u he ry
    exact PySem.SeqAt.eq_plain r1 r2 sd se (by omega) ⟨.bl _, H, I, rfl, q⟩
  · cases (show v = Value.ref a from rx)
    cases (show u = Value.ref b from ry)
    obtain ⟨us, r1, p1, _⟩ := I.list (.inl (.inl ha))
    obtain ⟨ws, r2, p2, _⟩ := I.list (.inl (.inl hb))
    refine PySem.SeqAt.eq_list_lengthsAt p1.isList p2.isList ?_ (by omega) ⟨.bl _, H, I, rfl, q⟩
    rw [List.size_toArray, List.size_toArray, ← r1.length, ← r2.length]
    simpa using hl
theorem op_neP {X : Cx} (hu : X.A.units + 64 < cLine) : OpR X (compareOp .NotEq) (rNeP X.K) := by
  intro pins s σ H x y v u Q I rx ry h
  rcases h with ⟨d, e, hd, he, sd, se, dp, q⟩ | ⟨⟨a, b, xs, ys, rfl, rfl, ha, hb, hl⟩, q⟩
  · obtain ⟨as, r1⟩ := Dp.reads I d x v hd rx
    obtain ⟨bs, r2⟩ := Dp.reads I e y u he ry
    exact PySem.SeqAt.ne_plain r1 r2 sd se (by omega) ⟨.bl _, H, I, rfl, q⟩
  · cases (show v = Value.ref a from rx)
    cases (show u = Value.ref b from ry)
    obtain ⟨us, r1, p1, _⟩ := I.list (.inl (.inl ha))
    obtain ⟨ws, r2, p2, _⟩ := I.list (.inl (.inl hb))
    refine PySem.SeqAt.RcNeAt.lists_lengths p1.isList p2.isList ?_ (by omega) X.prog X.w _ _ ⟨.bl _, H, I, rfl, q⟩
    rw [List.size_toArray, List.size_toArray, ← r1.length, ← r2.length]
    simpa using hl
end L2
namespace SM
open PySem L2
open DL (Ex ExK rAddU rSubU rMulA rDivU rModU rPowU rShlU rShrU rAndU rOrU rXorU rLtU rLeU rGtU rGeU rIsU rNotU)

/-! ### data read as Python's -/
def allSome {α : Type} : List (Option α) → Option (List α)
  | [] => some []
  | some a :: r => (allSome r).map (a :: ·)
  | none :: _ => none
def pyA (A : Hs) : Nat → D → Option PyData
  | _, .non => some .none
  | _, .bl b => some (.bool b)
  | _, .int i => some (.int i)
  | _, .str x => some (.str x)
  | n + 1, .tup l => (allSome (l.map (pyA A n))).map .tuple
  | n + 1, .wt l => (allSome (l.map (pyA A n))).map .tuple
  | n + 1, .scr l => (allSome (l.map (pyA A n))).map .list
  | n + 1, .ref i => match A[i]? with
    | some (.lst l) => (allSome (l.map (pyA A n))).map .list
    | _ => none
  | _, _ => none

/-- two lists of different lengths -/
def unL (A : Hs) (x y : D) : Option Bool := match x, y with
  | .ref i, .ref j => match A[i]?, A[j]? with
    | some (.lst l), some (.lst k) => if l.length = k.length then none else some false
    | _, _ => none
  | _, _ => none
def eqA (A : Hs) (x y : D) : Option Bool := match pyA A 40 x, pyA A 40 y with
  | some p, some q => some (PyData.eqv p q)
  | _, _ => unL A x y
def oB (f : Hs → D → D → Option Bool) (x y : D) (A : Hs) : RE D := match f A x y with
  | some b => .ok (.bl b) A
  | none => .stuck
def oEq : D → D → Hs → RE D := oB eqA
def oNe : D → D → Hs → RE D := oB fun A x y => (eqA A x y).map (!·)
section
variable {K : PySem.W.Frag} {ca : String → Addr} {F F1 F2 H H1 H2 : Hp} {m m1 m2 : List Addr} {A A1 A2 : Hs} {σ : L2.St} {env : Sl} {W : WX} {Q : VK}
theorem dp_all {n : Nat} (R : Rl K ca F m A H) (ih : ∀ {v : V} {d : D} {p : PyData}, Rep K ca F m v d → pyA A n d = some p → Dp K H v p ∧ p.plain = true ∧ p.depth ≤ n) :
    ∀ {vs : List V} {l : List D} {ps : List PyData}, RepL K ca F m vs l → allSome (l.map (pyA A n)) = some ps → DpAll K H vs ps ∧ PyData.plainAll ps = true ∧ PyData.depthAll ps ≤ n
  | _, _, _, .nil, h => by cases h; exact ⟨.nil, rfl, Nat.zero_le _⟩
  | _, _, _, .cons (d := d) (ds := ds) r rs, h => by
    rw [List.map_cons] at h
    cases q : pyA A n d with
    | none => rw [q] at h; cases h
    | some p =>
      rw [q] at h
      unfold allSome at h
      cases q2 : allSome (ds.map (pyA A n)) with
      | none => rw [q2] at h; cases h
      | some ps =>
        rw [q2] at h
        cases h
        obtain ⟨h1, h2, h3⟩ := ih r q
        obtain ⟨g1, g2, g3⟩ := dp_all R ih rs q2
        exact ⟨.cons h1 g1, by unfold PyData.plainAll; rw [h2, g2]; rfl, by unfold PyData.depthAll; omega⟩
theorem dp_of (R : Rl K ca F m A H) : ∀ {n : Nat} {v : V} {d : D} {p : PyData}, Rep K ca F m v d → pyA A n d = some p → Dp K H v p ∧ p.plain = true ∧ p.depth ≤ n := by
  intro n
  induction n with
  | zero =>
    intro v d p r h
    cases r <;> simp [pyA] at h <;> subst h <;> exact ⟨by constructor, rfl, Nat.zero_le _⟩
  | succ n ih =>
    intro v d p r h
    cases r with
    | non => simp [pyA] at h; subst h; exact ⟨.non, rfl, Nat.zero_le _⟩
    | bl b => simp [pyA] at h; subst h; exact ⟨.bl b, rfl, Nat.zero_le _⟩
    | int i => simp [pyA] at h; subst h; exact ⟨.int i, rfl, Nat.zero_le _⟩
    | str x => simp [pyA] at h; subst h; exact ⟨.str x, rfl, Nat.zero_le _⟩
    | ty n => simp [pyA] at h
    | nm x => simp [pyA] at h
    | exc h' => simp [pyA] at h
    | tup s rs =>
      unfold pyA at h
      cases q : allSome (List.map (pyA A n) _) with
      | none => rw [q] at h; cases h
      | some ps =>
        rw [q] at h; cases h
        obtain ⟨h1, h2, h3⟩ := dp_all R ih rs q
        exact ⟨.tup (.inl (.inl (R.fh _ _ s))) h1, h2, by unfold PyData.depth; omega⟩
    | wt s rs =>
      unfold pyA at h
      cases q : allSome (List.map (pyA A n) _) with
      | none => rw [q] at h; cases h
      | some ps =>
        rw [q] at h; cases h
        obtain ⟨h1, h2, h3⟩ := dp_all R ih rs q
        exact ⟨.tup (R.fh.t s) h1, h2, by unfold PyData.depth; omega⟩
    | scr s rs =>
      unfold pyA at h
      cases q : allSome (List.map (pyA A n) _) with
      | none => rw [q] at h; cases h
      | some ps =>
        rw [q] at h; cases h
        obtain ⟨h1, h2, h3⟩ := dp_all R ih rs q
        exact ⟨.lst (R.fh.l s) h1, h2, by unfold PyData.depth; omega⟩
    | ref hm =>
      rename_i a i
      unfold pyA at h
      cases q0 : A[i]? with
      | none => simp [q0] at h
      | some o =>
        cases o with
        | lst l =>
          simp only [q0] at h
          obtain ⟨a', e, ha, vs, h1, h2⟩ := R.at (v := .ref a) q0 (.ref hm)
          cases e
          cases q : allSome (List.map (pyA A n) l) with
          | none => rw [q] at h; cases h
          | some ps =>
            rw [q] at h; cases h
            obtain ⟨h3, h4, h5⟩ := dp_all R ih h2 q
            exact ⟨.lst (.inl (.inl h1)) h3, h4, by unfold PyData.depth; omega⟩
        | dic _ _ _ => simp [q0] at h
        | obj _ _ => simp [q0] at h
theorem po_ok {α β : Type} {Rr : Hp → List Addr → β → α → Prop} {Q : β → Hp → Prop} {v : β} {d : α} (R : Rl K ca F m A H) (r : Rr F m v d) (p : Po K ca Rr F m H W σ Q (.ok d A)) : Q v H := p v F m H R Stp.refl r
theorem unL_of {x y : V} {dx dy : D} {b : Bool} (R : Rl K ca F m A H) (rx : Rep K ca F m x dx) (ry : Rep K ca F m y dy) (h : unL A dx dy = some b) : b = false ∧ UnL H x y := by
  unfold unL at h
  split at h
  · rename_i i j
    cases q1 : A[i]? with
    | none => simp [q1] at h
    | some o1 =>
      cases o1 with
      | lst l =>
        cases q2 : A[j]? with
        | none => simp [q1, q2] at h
        | some o2 =>
          cases o2 with
          | lst k =>
            simp only [q1, q2] at h
            split at h
            · cases h
            · rename_i hn
              obtain ⟨a, e, _, vs, h1, h2⟩ := R.at q1 rx
              obtain ⟨a', e', _, vs', h1', h2'⟩ := R.at q2 ry
              refine ⟨(Option.some.inj h).symm, a, a', vs, vs', e, e', h1, h1', ?_⟩
              rw [h2.length, h2'.length]
              exact hn
          | dic _ _ _ => simp [q1, q2] at h
          | obj _ _ => simp [q1, q2] at h
      | dic _ _ _ => simp [q1] at h
      | obj _ _ => simp [q1] at h
  · cases h
theorem os_eq : OpS K ca (rEqP K) oEq := fun F m A H x y dx dy W σ Q R rx ry p => by
  unfold oEq oB at p
  cases q : eqA A dx dy with
  | none => rw [q] at p; exact p.elim
  | some b =>
    rw [q] at p
    unfold eqA at q
    split at q
    · rename_i p1 p2 q1 q2
      obtain ⟨a1, a2, a3⟩ := dp_of R rx q1
      obtain ⟨b1, b2, b3⟩ := dp_of R ry q2
      cases q
      exact .inl ⟨p1, p2, a1, b1, a2, b2, by omega, po_ok R (.bl _) p⟩
    · obtain ⟨rfl, u⟩ := unL_of R rx ry q
      exact .inr ⟨u, po_ok R (.bl _) p⟩
theorem os_ne : OpS K ca (rNeP K) oNe := fun F m A H x y dx dy W σ Q R rx ry p => by
  unfold oNe oB at p
  cases q : eqA A dx dy with
  | none => simp only [q, Option.map] at p; exact p.elim
  | some b =>
    simp only [q, Option.map] at p
    unfold eqA at q
    split at q
    · rename_i p1 p2 q1 q2
      obtain ⟨a1, a2, a3⟩ := dp_of R rx q1
      obtain ⟨b1, b2, b3⟩ := dp_of R ry q2
      cases q
      exact .inl ⟨p1, p2, a1, b1, a2, b2, by omega, po_ok R (.bl _) p⟩
    · obtain ⟨rfl, u⟩ := unL_of R rx ry q
      exact .inr ⟨u, po_ok R (.bl _) p⟩

/-! ### operators on ints -/
def oII (f : Int → Int → Option D) (x y : D) (A : Hs) : RE D := match x, y with
  | .int i, .int j => match f i j with
    | some d => .ok d A
    | none => .stuck
  | _, _ => .stuck
theorem os_ii {r : R2} {f : Int → Int → Option D} (h : ∀ i j d, f i j = some d → ∃ z, (∀ F m, Rep K ca F m z d) ∧ ∀ H Q, Q z H → r (.int i) (.int j) H Q) : OpS K ca r (oII f) := fun F m A H x y dx dy W σ Q R rx ry p => by
  cases rx with
  | int i =>
    cases ry with
    | int j =>
      unfold oII at p
      simp only at p
      cases q : f i j with
      | none => rw [q] at p; exact p.elim
      | some d =>
        rw [q] at p
        obtain ⟨z, hz, k⟩ := h i j d q
        exact k H Q (po_ok R (hz F m) p)
    | _ => exact p.elim
  | _ => exact p.elim
def oSub := oII fun i j => some (.int (i - j))
def oDiv := oII fun i j => if 0 < j ∧ j.natAbs.log2 < 9000 then some (.int (i / j)) else none
def oMod := oII fun i j => if 0 < j then some (.int (i % j)) else none
open Classical in
noncomputable def oPow := oII fun i j => if CPow i j then some (.int (i ^ j.toNat)) else none
def oLt := oII fun i j => some (.bl (decide (i < j)))
def oLe := oII fun i j => some (.bl (decide (i ≤ j)))
def oGt := oII fun i j => some (.bl (decide (j < i)))
def oGe := oII fun i j => some (.bl (decide (j ≤ i)))
theorem os_sub : OpS K ca rSubU oSub := os_ii fun i j d h => by cases h; exact ⟨_, fun _ _ => .int _, fun H Q q => ⟨i, j, rfl, rfl, q⟩⟩
theorem os_div : OpS K ca rDivU oDiv := os_ii fun i j d h => by
  split at h
  · rename_i z; cases h; exact ⟨_, fun _ _ => .int _, fun H Q q => ⟨i, j, rfl, rfl, z, q⟩⟩
  · cases h
theorem os_mod : OpS K ca rModU oMod := os_ii fun i j d h => by
  split at h
  · rename_i z; cases h; exact ⟨_, fun _ _ => .int _, fun H Q q => ⟨i, j, rfl, rfl, z, q⟩⟩
  · cases h
theorem os_pow : OpS K ca rPowU oPow := os_ii fun i j d h => by
  split at h
  · rename_i z; cases h; exact ⟨_, fun _ _ => .int _, fun H Q q => ⟨i, j, rfl, rfl, z, q⟩⟩
  · cases h
theorem os_lt : OpS K ca rLtU oLt := os_ii fun i j d h => by cases h; exact ⟨_, fun _ _ => .bl _, fun H Q q => ⟨i, j, rfl, rfl, q⟩⟩
theorem os_le : OpS K ca rLeU oLe := os_ii fun i j d h => by cases h; exact ⟨_, fun _ _ => .bl _, fun H Q q => ⟨i, j, rfl, rfl, q⟩⟩
theorem os_gt : OpS K ca rGtU oGt := os_ii fun i j d h => by cases h; exact ⟨_, fun _ _ => .bl _, fun H Q q => ⟨i, j, rfl, rfl, q⟩⟩
theorem os_ge : OpS K ca rGeU oGe := os_ii fun i j d h => by cases h; exact ⟨_, fun _ _ => .bl _, fun H Q q => ⟨i, j, rfl, rfl, q⟩⟩
def oNeg (x : D) (A : Hs) : RE D := match x with
  | .int i => .ok (.int (-i)) A
  | _ => .stuck
theorem us_neg : UnS K ca (rU fun i => .int (-i)) oNeg := fun F m A H x dx W σ Q R rx p => by
  cases rx with
  | int i => exact ⟨i, rfl, po_ok R (.int _) p⟩
  | _ => exact p.elim
/-- a list that may be read -/
def seqL (A : Hs) : D → Option (List D)
  | .ref i => match A[i]? with
    | some (.lst l) => some l
    | _ => none
  | .scr l => some l
  | _ => none
def seqT : D → Option (List D)
  | .tup l => some l
  | .wt l => some l
  | _ => none
theorem seqL_at {x : V} {d : D} {l : List D} (R : Rl K ca F m A H) (r : Rep K ca F m x d) (h : seqL A d = some l) : ∃ a vs, x = .ref a ∧ SqL K H a vs ∧ RepL K ca F m vs l := by
  cases r with
  | ref hm =>
    rename_i a i
    unfold seqL at h
    simp only at h
    cases q : A[i]? with
    | none => simp [q] at h
    | some o =>
      cases o with
      | lst l' =>
        simp [q] at h; subst h
        obtain ⟨a', e, ha, vs, h1, h2⟩ := R.at (v := .ref a) q (.ref hm)
        cases e
        exact ⟨a, vs, rfl, .inl (.inl h1), h2⟩
      | dic _ _ _ => simp [q] at h
      | obj _ _ => simp [q] at h
  | scr s rs => cases h; exact ⟨_, _, rfl, R.fh.l s, rs⟩
  | _ => cases h
theorem seqT_at {x : V} {d : D} {l : List D} (R : Rl K ca F m A H) (r : Rep K ca F m x d) (h : seqT d = some l) : ∃ a vs, x = .ref a ∧ SqT K H a vs ∧ RepL K ca F m vs l := by
  cases r with
  | tup s rs => cases h; exact ⟨_, _, rfl, .inl (.inl (R.fh _ _ s)), rs⟩
  | wt s rs => cases h; exact ⟨_, _, rfl, R.fh.t s, rs⟩
  | _ => cases h
/-- a list of the plain heap -/
theorem lst_at {x : V} {i : Nat} {l : List D} (R : Rl K ca F m A H) (r : Rep K ca F m x (.ref i)) (h : A[i]? = some (.lst l)) : ∃ a vs, x = .ref a ∧ m[i]? = some a ∧ H a = some (.lst vs) ∧ RepL K ca F m vs l := by
  obtain ⟨a, e, ha, vs, h1, h2⟩ := R.at h r
  exact ⟨a, vs, e, ha, h1, h2⟩
theorem lst_put {i : Nat} {l' : List D} {vs' : List V} (R : Rl K ca F m A H) {a : Addr} {vs : List V} (ha : m[i]? = some a) (h1 : H a = some (.lst vs)) (r : RepL K ca F m vs' l') :
    Rl K ca F m (A.set i (.lst l')) (upd H a (.lst vs')) ∧ Stp F m H F m (upd H a (.lst vs')) :=
  R.put (o' := .lst l') ha (fun od w z => by rw [h1] at z; cases z) ⟨vs', upd_same, r⟩

/-! ### + -/
def oAdd (x y : D) (A : Hs) : RE D := match x, y with
  | .int i, .int j => .ok (.int (i + j)) A
  | .str a, .str b => if a.length + b.length ≤ sizeLine then .ok (.str (a ++ b)) A else .stuck
  | .tup l, .tup k => if l.length + k.length ≤ sizeLine then .ok (.tup (l ++ k)) A else .stuck
  | .wt l, .tup k => if l ≠ [] ∧ l.length + k.length ≤ sizeLine then .ok (if k.isEmpty then .wt l else .tup (l ++ k)) A else .stuck
  | .tup l, .wt k => if k ≠ [] ∧ l.length + k.length ≤ sizeLine then .ok (if l.isEmpty then .wt k else .tup (l ++ k)) A else .stuck
  | .ref i, .ref j => match A[i]?, A[j]? with
    | some (.lst l), some (.lst k) => if l.length + k.length ≤ sizeLine then alloc A (.lst (l ++ k)) else .stuck
    | _, _ => .stuck
  | _, _ => .stuck
theorem os_add : OpS K ca (rAddU K) oAdd := fun F m A H x y dx dy W σ Q R rx ry p => by
  cases rx with
  | int i =>
    cases ry with
    | int j => exact .inl ⟨i, j, rfl, rfl, po_ok R (.int _) p⟩
    | _ => exact p.elim
  | str a =>
    cases ry with
    | str b =>
      unfold oAdd at p
      simp only at p
      split at p
      · rename_i hl; exact .inr (.inl ⟨a, b, rfl, rfl, hl, po_ok R (.str _) p⟩)
      · exact p.elim
    | _ => exact p.elim
  | tup s rs =>
    cases ry with
    | tup s' rs' =>
      rename_i a vs l b ws k
      unfold oAdd at p
      simp only at p
      split at p
      · rename_i hl
        refine .inr (.inr (.inl ⟨a, b, vs, ws, rfl, rfl, .inl (.inl (R.fh _ _ s)), .inl (.inl (R.fh _ _ s')), by rw [rs.length, rs'.length]; exact hl, fun e => ?_, fun _ e => ?_, fun _ _ q hq => ?_⟩))
        · subst e; cases rs; exact po_ok R (.tup s' rs') p
        · subst e; cases rs'; rw [List.append_nil] at p; exact po_ok R (.tup s rs) p
        · obtain ⟨R2, g2⟩ := R.new (u := .tup (vs ++ ws)) hq
          exact p _ _ _ _ R2 g2 (.tup upd_same ((rs.append rs').mono g2.ff g2.mm))
      · exact p.elim
    | wt s' rs' =>
      rename_i a vs l b ws k
      unfold oAdd at p
      simp only at p
      split at p
      · rename_i hl
        refine .inr (.inr (.inl ⟨a, b, vs, ws, rfl, rfl, .inl (.inl (R.fh _ _ s)), R.fh.t s', by rw [rs.length, rs'.length]; exact hl.2, fun e => ?_, fun _ e => ?_, fun n1 _ q hq => ?_⟩))
        · subst e; cases rs; exact po_ok R (.wt s' rs') p
        · subst e; cases rs'; exact absurd rfl hl.1
        · obtain ⟨R2, g2⟩ := R.new (u := .tup (vs ++ ws)) hq
          have : l.isEmpty = false := by
            cases rs with
            | nil => exact absurd rfl n1
            | cons _ _ => rfl
          rw [this] at p
          exact p _ _ _ _ R2 g2 (.tup upd_same ((rs.append rs').mono g2.ff g2.mm))
      · exact p.elim
    | _ => exact p.elim
  | wt s rs =>
    cases ry with
    | tup s' rs' =>
      rename_i a vs l b ws k
      unfold oAdd at p
      simp only at p
      split at p
      · rename_i hl
        refine .inr (.inr (.inl ⟨a, b, vs, ws, rfl, rfl, R.fh.t s, .inl (.inl (R.fh _ _ s')), by rw [rs.length, rs'.length]; exact hl.2, fun e => ?_, fun _ e => ?_, fun _ n2 q hq => ?_⟩))
        · subst e; cases rs; exact absurd rfl hl.1
        · subst e; cases rs'; exact po_ok R (.wt s rs) p
        · obtain ⟨R2, g2⟩ := R.new (u := .tup (vs ++ ws)) hq
          have : k.isEmpty = false := by
            cases rs' with
            | nil => exact absurd rfl n2
            | cons _ _ => rfl
          rw [this] at p
          exact p _ _ _ _ R2 g2 (.tup upd_same ((rs.append rs').mono g2.ff g2.mm))
      · exact p.elim
    | _ => exact p.elim
  | ref hm =>
    cases ry with
    | ref hm' =>
      rename_i a i b j
      unfold oAdd at p
      simp only at p
      split at p
      · rename_i l k q1 q2
        split at p
        · rename_i hl
          obtain ⟨a', vs, e1, h1, h2, h3⟩ := lst_at R (.ref hm) q1
          obtain ⟨b', ws, e2, h4, h5, h6⟩ := lst_at R (.ref hm') q2
          refine .inr (.inr (.inr ⟨a', b', vs, ws, e1, e2, h2, h5, by rw [h3.length, h6.length]; exact hl, fun q hq => ?_⟩))
          exact po_alloc (o := .lst (l ++ k)) R hq ⟨_, upd_same, (h3.append h6).mono (Ex.refl _) ⟨_, rfl⟩⟩ p
        · exact p.elim
      · exact p.elim
    | _ => exact p.elim
  | _ => exact p.elim
/-! ### * -/
open Classical in
noncomputable def oMul (x y : D) (A : Hs) : RE D := match x, y with
  | .int i, .int j => if CMul i j ∨ CMulX i j then .ok (.int (i * j)) A else .stuck
  | .tup l, .int j => if l.length ≤ 1000 ∧ -1000 ≤ j ∧ j ≤ 4000 then .ok (.tup (List.replicate j.toNat l).flatten) A else .stuck
  | .ref i, .int j => match A[i]? with
    | some (.lst l) => if -(2 ^ 63) ≤ j ∧ j < 2 ^ 63 ∧ l.length * j.toNat ≤ sizeLine then alloc A (.lst (List.replicate j.toNat l).flatten) else .stuck
    | _ => .stuck
  | _, _ => .stuck
theorem os_mul : OpS K ca (rMulA K) oMul := fun F m A H x y dx dy W σ Q R rx ry p => by
  cases ry with
  | int j =>
    cases rx with
    | int i =>
      unfold oMul at p
      simp only at p
      split at p
      · rename_i hc
        refine .inl ?_
        rcases hc with hc | hc
        · exact .inl ⟨i, j, rfl, rfl, hc, po_ok R (.int _) p⟩
        · exact .inr (.inl ⟨i, j, rfl, rfl, hc, po_ok R (.int _) p⟩)
      · exact p.elim
    | tup s rs =>
      rename_i a vs l
      unfold oMul at p
      simp only at p
      split at p
      · rename_i hc
        have lv := rs.length
        refine .inr ⟨a, j, vs, rfl, rfl, .inl (.inl (R.fh _ _ s)), hc.2.2, hc.2.1, by omega, fun e => ?_, fun e => ?_, fun n1 n2 q hq => ?_⟩
        · subst e; cases rs
          have : (List.replicate j.toNat ([] : List D)).flatten = [] := by simp
          rw [this] at p
          exact po_ok R (.tup s .nil) p
        · subst e
          have : (List.replicate (1 : Int).toNat l).flatten = l := by simp
          rw [this] at p
          exact po_ok R (.tup s rs) p
        · obtain ⟨R2, g2⟩ := R.new (u := .tup (List.replicate j.toNat vs).flatten) hq
          exact p _ _ _ _ R2 g2 (.tup upd_same ((rs.flatRep _).mono g2.ff g2.mm))
      · exact p.elim
    | ref hm =>
      rename_i a i
      unfold oMul at p
      simp only at p
      split at p
      · rename_i l q1
        split at p
        · rename_i hc
          obtain ⟨a', vs, e1, h1, h2, h3⟩ := lst_at R (.ref hm) q1
          refine .inl (.inr (.inr ⟨a', j, vs, e1, rfl, h2, hc.1, hc.2.1, by rw [h3.length]; exact hc.2.2, fun q hq => ?_⟩))
          exact po_alloc (o := .lst (List.replicate j.toNat l).flatten) R hq ⟨_, upd_same, (h3.flatRep _).mono (Ex.refl _) ⟨_, rfl⟩⟩ p
        · exact p.elim
      · exact p.elim
    | _ => exact p.elim
  | _ => cases rx <;> exact p.elim
/-! ### is -/
def isNon : D → Bool
  | .non => true
  | _ => false
theorem rep_non {v : V} {d : D} (h : Rep K ca F m v d) : decide (v = V.non) = isNon d := by
  cases h <;> first | rfl | simp [isNon]
def oIs (x y : D) (A : Hs) : RE D := match y with
  | .non => .ok (.bl (isNon x)) A
  | .bl c => match x with
    | .bl b => .ok (.bl (decide (b = c))) A
    | _ => .stuck
  | _ => .stuck
def oIsNot (x y : D) (A : Hs) : RE D := match y with
  | .non => .ok (.bl (!isNon x)) A
  | .bl c => match x with
    | .bl b => .ok (.bl (!decide (b = c))) A
    | _ => .stuck
  | _ => .stuck
theorem os_is : OpS K ca rIsU oIs := fun F m A H x y dx dy W σ Q R rx ry p => by
  cases ry with
  | non => refine .inl ⟨rfl, ?_⟩; rw [rep_non rx]; exact po_ok R (.bl _) p
  | bl c =>
    cases rx with
    | bl b => exact .inr ⟨b, c, rfl, rfl, po_ok R (.bl _) p⟩
    | _ => exact p.elim
  | _ => exact p.elim
theorem os_isnot : OpS K ca rNotU oIsNot := fun F m A H x y dx dy W σ Q R rx ry p => by
  cases ry with
  | non => refine .inl ⟨rfl, ?_⟩; rw [rep_non rx]; exact po_ok R (.bl _) p
  | bl c =>
    cases rx with
    | bl b => exact .inr ⟨b, c, rfl, rfl, po_ok R (.bl _) p⟩
    | _ => exact p.elim
  | _ => exact p.elim
/-! ### subscripts -/
def oIx (x y : D) (A : Hs) : RE D := match y with
  | .int i => match seqL A x with
    | some l => match atI l i with
      | some d => .ok d A
      | none => .stuck
    | none => match seqT x with
      | some l => match atI l i with
        | some d => .ok d A
        | none => .stuck
      | none => match x with
        | .str z => if z.length ≤ sizeLine then match atI z.cps.toList i with
            | some c => .ok (.str ⟨#[c]⟩) A
            | none => .stuck
          else .stuck
        | _ => .stuck
  | _ => .stuck
theorem atI_rep {vs : List V} {l : List D} {i : Int} {d : D} (p : RepL K ca F m vs l) (h : atI l i = some d) : ∃ v, atI vs i = some v ∧ Rep K ca F m v d := by
  unfold atI at h ⊢
  obtain ⟨n, e, g⟩ := Option.bind_eq_some_iff.mp h
  obtain ⟨z, z1, z2⟩ := p.get g
  exact ⟨z, by rw [p.length, e]; exact z1, z2⟩
theorem os_ix : OpS K ca (rIx K) oIx := fun F m A H x y dx dy W σ Q R rx ry p => by
  cases ry with
  | int i =>
    unfold oIx at p
    simp only at p
    split at p
    · rename_i l hl
      split at p
      · rename_i d hd
        obtain ⟨a, vs, e, h1, h2⟩ := seqL_at R rx hl
        obtain ⟨v, h3, h4⟩ := atI_rep h2 hd
        exact .inl ⟨a, vs, i, v, e, rfl, h1, h3, po_ok R h4 p⟩
      · exact p.elim
    · split at p
      · rename_i l hl
        split at p
        · rename_i d hd
          obtain ⟨a, vs, e, h1, h2⟩ := seqT_at R rx hl
          obtain ⟨v, h3, h4⟩ := atI_rep h2 hd
          exact .inr (.inl ⟨a, vs, i, v, e, rfl, h1, h3, po_ok R h4 p⟩)
        · exact p.elim
      · cases rx with
        | str z =>
          simp only at p
          split at p
          · rename_i hz
            split at p
            · rename_i c hc
              exact .inr (.inr ⟨z, i, c, rfl, rfl, hz, hc, po_ok R (.str _) p⟩)
            · exact p.elim
          · exact p.elim
        | _ => exact p.elim
  | _ => exact p.elim
def cutD {α : Type} (xs : List α) (lo hi : Option Int) : List α := (xs.drop (HT.sIx xs.length 0 lo)).take (HT.sIx xs.length xs.length hi - HT.sIx xs.length 0 lo)
theorem cut_rep {vs : List V} {l : List D} {lo hi : Option Int} (h : RepL K ca F m vs l) : RepL K ca F m (cutV vs lo hi) (cutD l lo hi) := by
  unfold cutV cutD
  rw [h.length]
  exact (h.drop _).take _
def oSl (x : D) (lo hi : Option Int) (A : Hs) : RE D := match seqL A x with
  | some l => alloc A (.lst (cutD l lo hi))
  | none => match x with
    | .tup l => .ok (.tup (cutD l lo hi)) A
    | .str z => if z.length ≤ sizeLine then .ok (.str (cutS z lo hi)) A else .stuck
    | _ => .stuck
theorem sls_all : SlS K ca (DL.rSlU K) oSl := fun F m A H x dx lo hi W σ Q R rx p => by
  unfold oSl at p
  split at p
  · rename_i l hl
    obtain ⟨a, vs, e, h1, h2⟩ := seqL_at R rx hl
    exact .inl ⟨a, vs, e, h1, fun q hq => po_alloc (o := .lst (cutD l lo hi)) R hq ⟨_, upd_same, (cut_rep h2).mono (Ex.refl _) ⟨_, rfl⟩⟩ p⟩
  · cases rx with
    | @tup a vs l s rs =>
      refine .inr (.inl ⟨a, vs, rfl, .inl (.inl (R.fh _ _ s)), fun hw => ?_, fun _ q hq => ?_⟩)
      · have e : cutD l lo hi = l := by
          unfold cutD
          rw [← rs.length, hw.1, hw.2]
          simp [rs.length]
        simp only [e] at p
        exact po_ok R (.tup s rs) p
      · obtain ⟨R2, g2⟩ := R.new (u := .tup (cutV vs lo hi)) hq
        exact p _ _ _ _ R2 g2 (.tup upd_same ((cut_rep rs).mono g2.ff g2.mm))
    | str z =>
      simp only at p
      split at p
      · rename_i hz; exact .inr (.inr ⟨z, rfl, hz, po_ok R (.str _) p⟩)
      · exact p.elim
    | _ => exact p.elim
def oRev (x : D) (A : Hs) : RE D := match seqL A x with
  | some l => alloc A (.lst l.reverse)
  | none => .stuck
/-! ### which of two readings -/
theorem Sim.pick {α β : Type} {Rr : Hp → List Addr → β → α → Prop} {t u : L2.St → Hp → (β → Hp → Prop) → Prop} {f g h : Sl → Hs → RE α} (h1 : Sim K ca Rr W t g) (h2 : Sim K ca Rr W u h) (k : ∀ env A, f env A = g env A ∨ f env A = h env A) : Sim K ca Rr W (fun σ H Q => t σ H Q ∨ u σ H Q) f := fun F m A σ H env Q R S p => by
  rcases k env A with q | q
  · rw [q] at p; exact .inl (h1 F m A σ H env Q R S p)
  · rw [q] at p; exact .inr (h2 F m A σ H env Q R S p)
end
end SM

namespace L2
open PySem PySem.Spec PyProof.Rows
/-- x in a list or tuple of data -/
def rInP (K : PySem.W.Frag) (neg : Bool) : R2 := fun x y H Q => ∃ d ds, Dp K H x d ∧ (Dp K H y (.list ds) ∨ Dp K H y (.tuple ds)) ∧ d.plain = true ∧ PyData.plainAll ds = true ∧ d.depth ≤ 60 ∧ Q (.bl (if neg then !(ds.any fun z => PyData.eqv z d) else ds.any fun z => PyData.eqv z d)) H
theorem op_inP {X : Cx} {K : PySem.W.Frag} (hu : X.A.units + 65 < cLine) (eK : X.K = K := by rfl) : OpR X (compareOp .In) (rInP K false) := by
  subst eK
  intro pins s σ H x y v u Q I rx ry h
  obtain ⟨d, ds, hd, he, sd, se, dp, q⟩ := h
  obtain ⟨as, r1⟩ := Dp.reads I d x v hd rx
  rcases he with he | he
  · obtain ⟨bs, r2⟩ := Dp.reads I _ y u he ry
    exact PySem.SeqAt.in_list_data r2 r1 se sd (by omega) ⟨.bl _, H, I, rfl, q⟩
  · obtain ⟨bs, r2⟩ := Dp.reads I _ y u he ry
    exact PySem.SeqAt.in_tuple_data r2 r1 se sd (by omega) ⟨.bl _, H, I, rfl, q⟩
theorem op_notInP {X : Cx} {K : PySem.W.Frag} (hu : X.A.units + 65 < cLine) (eK : X.K = K := by rfl) : OpR X (compareOp .NotIn) (rInP K true) := by
  subst eK
  intro pins s σ H x y v u Q I rx ry h
  obtain ⟨d, ds, hd, he, sd, se, dp, q⟩ := h
  obtain ⟨as, r1⟩ := Dp.reads I d x v hd rx
  rcases he with he | he
  · obtain ⟨bs, r2⟩ := Dp.reads I _ y u he ry
    exact PySem.SeqAt.notIn_list_data r2 r1 se sd (by omega) ⟨.bl _, H, I, rfl, q⟩
  · obtain ⟨bs, r2⟩ := Dp.reads I _ y u he ry
    exact PySem.SeqAt.notIn_tuple_data r2 r1 se sd (by omega) ⟨.bl _, H, I, rfl, q⟩
/-- y in d -/
def rDIn (neg : Bool) : R2 := fun y x H Q => ∃ a o, x = .ref a ∧ DGet H a y o ∧ Q (.bl (if neg then !o.isSome else o.isSome)) H
theorem op_dIn {X : Cx} (hu : X.A.units + 65 < cLine) : OpR X (compareOp .In) (rDIn false) := by
  intro pins s σ H y x iv u Q I ry rx h
  obtain ⟨a, ov, ex, g, q2⟩ := h
  subst ex
  obtain rfl : u = Value.ref a := rx
  exact d_in (by omega) I g ry fun s3 I3 => ⟨.bl ov.isSome, H, I3, rfl, q2⟩
theorem op_dNotIn {X : Cx} (hu : X.A.units + 65 < cLine) : OpR X (compareOp .NotIn) (rDIn true) := by
  intro pins s σ H y x iv u Q I ry rx h
  obtain ⟨a, ov, ex, g, q2⟩ := h
  subst ex
  obtain rfl : u = Value.ref a := rx
  exact d_notIn (by omega) I g ry fun s3 I3 => ⟨.bl (!ov.isSome), H, I3, rfl, q2⟩
def rInAll (K : PySem.W.Frag) (neg : Bool) : R2 := fun x y H Q => rInP K neg x y H Q ∨ (DL.rSign neg x y H Q ∨ rDIn neg x y H Q)
theorem op_inAll {X : Cx} {K : PySem.W.Frag} (hu : X.A.units + 65 < cLine) (e : X.K = K := by rfl) : OpR X (compareOp .In) (rInAll K false) := DL.OpR.or (op_inP hu e) (DL.OpR.or op_in_sign (op_dIn hu))
theorem op_notInAll {X : Cx} {K : PySem.W.Frag} (hu : X.A.units + 65 < cLine) (e : X.K = K := by rfl) : OpR X (compareOp .NotIn) (rInAll K true) := DL.OpR.or (op_notInP hu e) (DL.OpR.or op_notIn_sign (op_dNotIn hu))
theorem op_eqPK {X : Cx} {K : PySem.W.Frag} (hu : X.A.units + 65 < cLine) (e : X.K = K := by rfl) : OpR X (compareOp .Eq) (rEqP K) := by subst e; exact op_eqP (by omega)
theorem op_nePK {X : Cx} {K : PySem.W.Frag} (hu : X.A.units + 65 < cLine) (e : X.K = K := by rfl) : OpR X (compareOp .NotEq) (rNeP K) := by subst e; exact op_neP (by omega)
end L2
namespace SM
open PySem L2
open DL (Ex ExK rLenU rAbs rMax2 rMin2 rInt1 rListOf rTupleOf iSeqU rIsiU InC)
section
variable {K : PySem.W.Frag} {ca : String → Addr} {F F1 F2 H H1 H2 : Hp} {m m1 m2 : List Addr} {A A1 A2 : Hs} {σ : L2.St} {env : Sl} {W : WX} {Q : VK}
variable {ta tb tc te : TE} {a b c : E} {i : Nat} {d : D} {ts : TA} {as : As} {x : V} {dx : D}
/-! ### dicts -/
def keyK : D → Option Key
  | .int i => some (.inl i)
  | .str x => some (.inr x)
  | _ => none
def keysK : List D → Option (List Key)
  | [] => some []
  | d :: r => match keyK d, keysK r with
    | some k, some ks => some (k :: ks)
    | _, _ => none
/-- whether two keys are one -/
def keq : D → D → Bool
  | .int i, .int j => decide (i = j)
  | .str x, .str y => decide (x = y)
  | .tup l, .tup k => keqL l k
  | _, _ => false
where keqL : List D → List D → Bool
  | [], [] => true
  | .int i :: r, .int j :: s => decide (i = j) && keqL r s
  | .str x :: r, .str y :: s => decide (x = y) && keqL r s
  | _, _ => false
def kget : List (D × D) → D → Option D
  | [], _ => none
  | (k, v) :: r, y => if keq k y then some v else kget r y
def khas (l : List (D × D)) (y : D) : Bool := l.any fun kv => keq kv.1 y
def kput (l : List (D × D)) (y v : D) : List (D × D) := if khas l y then l.map (fun kv => if keq kv.1 y then (kv.1, v) else kv) else l ++ [(y, v)]
def kdel (l : List (D × D)) (y : D) : List (D × D) := l.filter fun kv => !keq kv.1 y
/-- y may be a key of a dict of the kind t -/
def keyOk : Bool → D → Bool
  | false, y => (keyK y).isSome
  | true, .tup l => (keysK l).isSome
  | true, _ => false
theorem keyK_kD {y : D} {k : Key} (h : keyK y = some k) : y = kD k := by
  cases y <;> simp [keyK] at h <;> subst h <;> rfl
theorem keysK_kT : ∀ {l : List D} {ks : List Key}, keysK l = some ks → l = ks.map kD
  | [], ks, h => by cases h; rfl
  | d :: r, ks, h => by
    unfold keysK at h
    cases q : keyK d with
    | none => rw [q] at h; cases h
    | some k =>
      cases q2 : keysK r with
      | none => rw [q, q2] at h; cases h
      | some s => rw [q, q2] at h; cases h; rw [List.map_cons, ← keyK_kD q, ← keysK_kT q2]
theorem keq_kD (a b : Key) : keq (kD a) (kD b) = decide (a = b) := by
  cases a <;> cases b <;> simp [kD, keq]
theorem keqL_kT : ∀ (a b : List Key), keq.keqL (a.map kD) (b.map kD) = decide (a = b)
  | [], [] => by simp [keq.keqL]
  | [], y :: s => by cases y <;> simp [keq.keqL]
  | x :: r, [] => by cases x <;> simp [keq.keqL]
  | x :: r, y :: s => by
    have ih := keqL_kT r s
    cases x <;> cases y <;> simp [kD, keq.keqL, ih]
theorem keq_kT (a b : List Key) : keq (kT a) (kT b) = decide (a = b) := by
  unfold kT keq; exact keqL_kT a b
section
variable {κ : Type} [DecidableEq κ] {kd : κ → D}
theorem kget_rep (hk : ∀ a b, keq (kd a) (kd b) = decide (a = b)) {k : κ} : ∀ {kvs : List (κ × V)} {l : List (D × D)}, KvR K ca F m kd kvs l → (∀ d, kget l (kd k) = some d → ∃ v, valV kvs k = some v ∧ Rep K ca F m v d) ∧ (kget l (kd k) = none → valV kvs k = none)
  | _, _, .nil => ⟨fun d h => by simp [kget] at h, fun _ => rfl⟩
  | _, _, .cons (k := k') (v := v') h r => by
    have ih := kget_rep hk (k := k) r
    unfold kget valV
    by_cases q : k' = k
    · subst q
      simp only [hk, decide_true, if_true, List.find?_cons]
      exact ⟨fun d e => by cases e; exact ⟨v', by simp, h⟩, fun e => by cases e⟩
    · rw [hk, decide_eq_false q]
      simp only [Bool.false_eq_true, if_false, List.find?_cons, decide_eq_false q]
      exact ih
theorem khas_rep (hk : ∀ a b, keq (kd a) (kd b) = decide (a = b)) {k : κ} : ∀ {kvs : List (κ × V)} {l : List (D × D)}, KvR K ca F m kd kvs l → khas l (kd k) = kvs.any fun kv => decide (kv.1 = k)
  | _, _, .nil => rfl
  | _, _, .cons h r => by
    have ih := khas_rep hk (k := k) r
    unfold khas at ih ⊢
    rw [List.any_cons, List.any_cons, ih, hk]
theorem KvR.snoc {k : κ} {v : V} (hv : Rep K ca F m v d) : ∀ {kvs : List (κ × V)} {l : List (D × D)}, KvR K ca F m kd kvs l → KvR K ca F m kd (kvs ++ [(k, v)]) (l ++ [(kd k, d)])
  | _, _, .nil => .cons hv .nil
  | _, _, .cons h r => .cons h (KvR.snoc hv r)
theorem KvR.remap (hk : ∀ a b, keq (kd a) (kd b) = decide (a = b)) {k : κ} {v : V} (hv : Rep K ca F m v d) : ∀ {kvs : List (κ × V)} {l : List (D × D)}, KvR K ca F m kd kvs l → KvR K ca F m kd (kvs.map fun kv => if kv.1 = k then (kv.1, v) else kv) (l.map fun kv => if keq kv.1 (kd k) then (kv.1, d) else kv)
  | _, _, .nil => .nil
  | _, _, .cons (k := k') h r => by
    rw [List.map_cons, List.map_cons]
    by_cases q : k' = k
    · simp only [q, hk, decide_true, if_true]; exact .cons hv (KvR.remap hk hv r)
    · simp only [q, hk, decide_false, Bool.false_eq_true, if_false]; exact .cons h (KvR.remap hk hv r)
theorem kput_rep (hk : ∀ a b, keq (kd a) (kd b) = decide (a = b)) {k : κ} {v : V} (hv : Rep K ca F m v d) {kvs : List (κ × V)} {l : List (D × D)} (h : KvR K ca F m kd kvs l) : KvR K ca F m kd (putK kvs k v) (kput l (kd k) d) := by
  unfold putK kput
  rw [khas_rep hk h]
  split
  · exact KvR.remap hk hv h
  · exact KvR.snoc hv h
theorem kdel_rep (hk : ∀ a b, keq (kd a) (kd b) = decide (a = b)) {k : κ} : ∀ {kvs : List (κ × V)} {l : List (D × D)}, KvR K ca F m kd kvs l → KvR K ca F m kd (dropK kvs k) (kdel l (kd k))
  | _, _, .nil => .nil
  | _, _, .cons (k := k') h r => by
    have ih := kdel_rep hk (k := k) r
    unfold dropK kdel at ih ⊢
    rw [List.filter_cons, List.filter_cons]
    by_cases q : k' = k
    · simp only [q, hk, decide_true, Bool.not_true, Bool.false_eq_true, if_false, ne_eq, not_true_eq_false, decide_false]; exact ih
    · simp only [q, hk, decide_false, Bool.not_false, if_true, ne_eq, not_false_eq_true, decide_true]; exact .cons h ih
end
/-- the dict at hand: its kind, its pairs -/
def dicAt (A : Hs) : D → Option (Bool × List (D × D))
  | .ref i => match A[i]? with
    | some (.dic t _ l) => some (t, l)
    | _ => none
  | _ => none
theorem rdK {lk : Bool} {a : Addr} {u : HO} (h : At H a lk u) : L2.Rd H a u := by
  cases lk with
  | false => exact .inl h
  | true => exact .inr h
theorem tup_key {y : V} {l : List D} {ks : List Key} (R : Rl K ca F m A H) (r : Rep K ca F m y (.tup l)) (h : keysK l = some ks) : ∃ b, y = .ref b ∧ H b = some (.tup (ks.map kV)) := by
  cases r with
  | tup s rs =>
    refine ⟨_, rfl, ?_⟩
    have e := keysK_kT h
    subst e
    have : ∀ {vs : List V} {ks : List Key}, RepL K ca F m vs (ks.map kD) → vs = ks.map kV := by
      intro vs ks
      induction ks generalizing vs with
      | nil => intro r; cases r; rfl
      | cons k ks ih =>
        intro r
        cases r with
        | cons q t =>
          rw [List.map_cons, ih t]
          cases k with
          | inl i => cases q; rfl
          | inr x => cases q; rfl
    rw [← this rs]
    exact R.fh _ _ s
/-- what the dict holds at a key -/
theorem dic_get {x y : V} {dy : D} {t : Bool} {l : List (D × D)} (R : Rl K ca F m A H) (rx : Rep K ca F m x dx) (ry : Rep K ca F m y dy) (h : dicAt A dx = some (t, l)) (hk : keyOk t dy = true) : ∃ a o, x = .ref a ∧ DGet H a y o ∧ L2.IsD H a ∧ (∀ d, kget l dy = some d → ∃ v, o = some v ∧ Rep K ca F m v d) ∧ (kget l dy = none → o = none) := by
  cases dx with
  | ref i =>
    unfold dicAt at h
    cases q : A[i]? with
    | none => simp [q] at h
    | some o =>
      cases o with
      | dic t' lk l' =>
        simp [q] at h
        obtain ⟨rfl, rfl⟩ := h
        obtain ⟨a, e, ha, r⟩ := R.at q rx
        cases t' with
        | false =>
          obtain ⟨kvs, h1, h2⟩ := r
          cases z : keyK dy with
          | none => simp [keyOk, z] at hk
          | some k =>
            have e2 := keyK_kD z
            subst e2
            obtain ⟨g1, g2⟩ := kget_rep keq_kD (k := k) h2
            refine ⟨a, valV kvs k, e, .inl ⟨kvs, k, rdK h1, ?_, rfl⟩, .inl ⟨kvs, rdK h1⟩, g1, g2⟩
            cases k with
            | inl i => cases ry; rfl
            | inr x => cases ry; rfl
        | true =>
          obtain ⟨kvs, h1, h2⟩ := r
          cases dy with
          | tup dl =>
              cases z : keysK dl with
            | none => simp [keyOk, z] at hk
            | some ks =>
              obtain ⟨b, e3, h3⟩ := tup_key R ry z
              have e2 := keysK_kT z
              subst e2
              obtain ⟨g1, g2⟩ := kget_rep keq_kT (k := ks) h2
              exact ⟨a, valV kvs ks, e, .inr ⟨kvs, ks, b, rdK h1, e3, h3, rfl⟩, .inr ⟨kvs, rdK h1⟩, g1, g2⟩
          | _ => simp [keyOk] at hk
      | lst _ => simp [q] at h
      | obj _ _ => simp [q] at h
  | _ => simp [dicAt] at h
/-- d[y] -/
def oDGet (x y : D) (A : Hs) : RE D := match dicAt A x with
  | some (t, l) => if keyOk t y then match kget l y with
      | some d => .ok d A
      | none => .stuck
    else .stuck
  | none => .stuck
/-- y in c -/
def inData (A : Hs) (x c : D) : Option Bool := match pyA A 40 x, pyA A 40 c with
  | some p, some (.list ps) => some (ps.any fun z => PyData.eqv z p)
  | some p, some (.tuple ps) => some (ps.any fun z => PyData.eqv z p)
  | _, _ => none
def inStr (x : D) (w : Str) : Option Bool := match x with
  | .str z => match z.cps.toList with
    | [k] => some (decide (k ∈ w.cps.toList))
    | _ => none
  | _ => none
def inDic (t : Bool) (l : List (D × D)) (x : D) : Option Bool := if keyOk t x then some (kget l x).isSome else none
def inA (A : Hs) (x c : D) : Option Bool := match dicAt A c with
  | some (t, l) => inDic t l x
  | none => match c with
    | .str w => inStr x w
    | _ => inData A x c
def oIn : D → D → Hs → RE D := oB inA
def oNotIn : D → D → Hs → RE D := oB fun A x y => (inA A x y).map (!·)
theorem in_data {neg b : Bool} {x y : V} {dx dy : D} (R : Rl K ca F m A H) (rx : Rep K ca F m x dx) (ry : Rep K ca F m y dy) (h : inData A dx dy = some b) (q : Q (.bl (if neg then !b else b)) H) : rInAll K neg x y H Q := by
  unfold inData at h
  cases q1 : pyA A 40 dx with
  | none => simp [q1] at h
  | some p1 =>
    cases q2 : pyA A 40 dy with
    | none => simp [q1, q2] at h
    | some p2 =>
      obtain ⟨a1, a2, a3⟩ := dp_of R rx q1
      obtain ⟨b1, b2, b3⟩ := dp_of R ry q2
      cases p2 with
      | list ps =>
        simp only [q1, q2, Option.some.injEq] at h
        subst h
        exact .inl ⟨p1, ps, a1, .inl b1, a2, b2, by omega, q⟩
      | tuple ps =>
        simp only [q1, q2, Option.some.injEq] at h
        subst h
        exact .inl ⟨p1, ps, a1, .inr b1, a2, b2, by omega, q⟩
      | _ => simp [q1, q2] at h
theorem in_core {neg b : Bool} {x y : V} {dx dy : D} (R : Rl K ca F m A H) (rx : Rep K ca F m x dx) (ry : Rep K ca F m y dy) (h : inA A dx dy = some b) (q : Q (.bl (if neg then !b else b)) H) : rInAll K neg x y H Q := by
  unfold inA at h
  cases hd : dicAt A dy with
  | some tl =>
    obtain ⟨t, l⟩ := tl
    simp only [hd, inDic] at h
    split at h
    · rename_i hk
      obtain ⟨a, o, e, h1, _, h2, h3⟩ := dic_get R ry rx hd hk
      refine .inr (.inr ⟨a, o, e, h1, ?_⟩)
      have : o.isSome = b := by
        cases h
        cases z : kget l dx with
        | none => rw [h3 z]; rfl
        | some d => obtain ⟨v, e2, _⟩ := h2 d z; rw [e2]; rfl
      rw [this]; exact q
    · cases h
  | none =>
    simp only [hd] at h
    cases ry with
    | str w =>
      simp only [inStr] at h
      cases rx with
      | str z =>
        simp only at h
        split at h
        · rename_i k hz
          cases h
          have : z = ⟨#[k]⟩ := by
            cases z with
            | mk cps => congr; exact Array.toList_inj.mp (by simpa using hz)
          subst this
          exact .inr (.inl ⟨k, w, rfl, rfl, q⟩)
        · cases h
      | _ => cases h
    | non => exact in_data R rx .non h q
    | bl b => exact in_data R rx (.bl b) h q
    | int b => exact in_data R rx (.int b) h q
    | ty b => exact in_data R rx (.ty b) h q
    | tup s r => exact in_data R rx (.tup s r) h q
    | wt s r => exact in_data R rx (.wt s r) h q
    | scr s r => exact in_data R rx (.scr s r) h q
    | ref s => exact in_data R rx (.ref s) h q
    | nm s => exact in_data R rx (.nm s) h q
    | exc s => exact in_data R rx (.exc s) h q
theorem os_in : OpS K ca (rInAll K false) oIn := fun F m A H x y dx dy W σ Q R rx ry p => by
  unfold oIn oB at p
  cases q : inA A dx dy with
  | none => rw [q] at p; exact p.elim
  | some b => rw [q] at p; exact in_core R rx ry q (po_ok R (.bl _) p)
theorem os_notin : OpS K ca (rInAll K true) oNotIn := fun F m A H x y dx dy W σ Q R rx ry p => by
  unfold oNotIn oB at p
  cases q : inA A dx dy with
  | none => simp only [q] at p; exact p.elim
  | some b => simp only [q, Option.map] at p; exact in_core R rx ry q (po_ok R (.bl _) p)
/-! ### stores -/
/-- xs[i] = v, d[k] = v -/
def setIt (A : Hs) (x y v : D) : Option Hs := match x with
  | .ref i => match A[i]? with
    | some (.lst l) => match y with
      | .int k => match ixN l.length k with
        | some n => some (A.set i (.lst (l.set n v)))
        | none => none
      | _ => none
    | some (.dic t false l) => if keyOk t y && decide (l.length < sizeLine) then some (A.set i (.dic t false (kput l y v))) else none
    | _ => none
  | _ => none
/-- o[i] = e: first e, then o, then i -/
def ofH (env : Sl) : Option Hs → RS
  | some A => .nx env A
  | none => .stuck
def sPut (o i a : E) : S := fun env A => ofE env (a env A) fun v A1 => ofE env (o env A1) fun x A2 => ofE env (i env A2) fun y A3 => ofH env (setIt A3 x y v)
theorem set_lst {x y v : V} {dy dv : D} {i : Nat} {l : List D} (R : Rl K ca F m A H) (rx : Rep K ca F m x (.ref i)) (ry : Rep K ca F m y dy) (rv : Rep K ca F m v dv) (hA : A[i]? = some (.lst l)) (h : setIt A (.ref i) dy dv = some A2) {Dn : Ends} {f : Hp → Prop}
    (k : ∀ H2, Rl K ca F m A2 H2 → Stp F m H F m H2 → f H2) : rSetL x y v H f := by
  unfold setIt at h
  simp only [hA] at h
  cases ry with
  | int j =>
    simp only at h
    cases q : ixN l.length j with
    | none => rw [q] at h; cases h
    | some n =>
      rw [q] at h; cases h
      obtain ⟨a, vs, e, h1, h2, h3⟩ := lst_at R rx hA
      obtain ⟨R2, g2⟩ := lst_put R h1 h2 (h3.set rv n)
      exact ⟨a, vs, j, n, e, rfl, h2, by rw [h3.length]; exact q, k _ R2 g2⟩
  | _ => cases h
theorem set_dic {x y v : V} {dy dv : D} {i : Nat} {t : Bool} {l : List (D × D)} (R : Rl K ca F m A H) (rx : Rep K ca F m x (.ref i)) (ry : Rep K ca F m y dy) (rv : Rep K ca F m v dv) (hA : A[i]? = some (.dic t false l)) (h : setIt A (.ref i) dy dv = some A2) :
    ∃ a H2, x = .ref a ∧ DPut H a y v H2 ∧ Rl K ca F m A2 H2 ∧ Stp F m H F m H2 := by
  unfold setIt at h
  simp only [hA] at h
  split at h
  · rename_i hk
    cases h
    rw [Bool.and_eq_true, decide_eq_true_eq] at hk
    obtain ⟨a, e, ha, r⟩ := R.at hA rx
    cases t with
    | false =>
      obtain ⟨kvs, h1, h2⟩ := r
      cases z : keyK dy with
      | none => simp [keyOk, z] at hk
      | some kk =>
        have e2 := keyK_kD z
        subst e2
        have e3 : y = kV kk := by
          cases kk with
          | inl i => cases ry; rfl
          | inr x => cases ry; rfl
        have h1' : H a = some (.dK kvs) := h1
        obtain ⟨R2, g2⟩ := R.put (u := .dK (putK kvs kk v)) (o' := .dic false false (kput l (kD kk) dv)) ha (fun od w z => by rw [h1'] at z; cases z) ⟨_, upd_same, kput_rep keq_kD rv h2⟩
        exact ⟨a, _, e, .inl ⟨kvs, kk, h1, e3, by rw [h2.length]; exact hk.2, rfl⟩, R2, g2⟩
    | true =>
      obtain ⟨kvs, h1, h2⟩ := r
      cases dy with
      | tup dl =>
          cases z : keysK dl with
        | none => simp [keyOk, z] at hk
        | some ks =>
          obtain ⟨b, e3, h3⟩ := tup_key R ry z
          have e2 := keysK_kT z
          subst e2
          have h1' : H a = some (.dT kvs) := h1
          obtain ⟨R2, g2⟩ := R.put (u := .dT (putK kvs ks v)) (o' := .dic true false (kput l (kT ks) dv)) ha (fun od w z => by rw [h1'] at z; cases z) ⟨_, upd_same, kput_rep keq_kT rv h2⟩
          exact ⟨a, _, e, .inr ⟨kvs, ks, b, h1, e3, h3, by rw [h2.length]; exact hk.2, rfl⟩, R2, g2⟩
      | _ => simp [keyOk] at hk
  · cases h
end
end SM

namespace SM
open PySem L2
open DL (Ex ExK rLenU rAbs rMax2 rMin2 rInt1 rListOf rTupleOf iSeqU rIsiU InC)
section
variable {K : PySem.W.Frag} {ca : String → Addr} {F F1 F2 H H1 H2 : Hp} {m m1 m2 : List Addr} {A A1 A2 : Hs} {σ : L2.St} {env : Sl} {W : WX} {Q : VK}
variable {ta tb tc te to ti : TE} {a b c o : E} {i : Nat} {d : D} {ts : TA} {as : As} {x : V} {dx : D} {t u : TS} {f g h : S}
/-! ### o[i] = e -/
theorem SimS.pick (h1 : SimS K ca W t g) (h2 : SimS K ca W u h) (k : ∀ env A, f env A = g env A ∨ f env A = h env A) : SimS K ca W (fun D σ H => t D σ H ∨ u D σ H) f := fun F m A σ H env Dn R S p => by
  rcases k env A with q | q
  · rw [q] at p; exact .inl (h1 F m A σ H env Dn R S p)
  · rw [q] at p; exact .inr (h2 F m A σ H env Dn R S p)
def isLst (A : Hs) : D → Bool
  | .ref i => match A[i]? with
    | some (.lst _) => true
    | _ => false
  | _ => false
def sPut1 (w : Bool) (o i a : E) : S := fun env A => ofE env (a env A) fun v A1 => ofE env (o env A1) fun x A2 => ofE env (i env A2) fun y A3 => if isLst A3 x = w then ofH env (setIt A3 x y v) else .stuck
theorem put_pick {o i a : E} (env : Sl) (A : Hs) : sPut o i a env A = sPut1 true o i a env A ∨ sPut o i a env A = sPut1 false o i a env A := by
  unfold sPut sPut1
  cases a env A with
  | stuck => exact .inl rfl
  | exc _ _ => exact .inl rfl
  | ok v A1 =>
    simp only [ofE]
    cases o env A1 with
    | stuck => exact .inl rfl
    | exc _ _ => exact .inl rfl
    | ok x A2 =>
      simp only [ofE]
      cases i env A2 with
      | stuck => exact .inl rfl
      | exc _ _ => exact .inl rfl
      | ok y A3 =>
        simp only [ofE]
        cases q : isLst A3 x with
        | true => exact .inl (by simp)
        | false => exact .inr (by simp)
theorem isLst_at {A : Hs} {x : D} {w : Bool} (h : isLst A x = true) : ∃ i l, x = .ref i ∧ A[i]? = some (.lst l) := by
  cases x with
  | ref i =>
    unfold isLst at h
    cases q : A[i]? with
    | none => simp [q] at h
    | some o =>
      cases o with
      | lst l => exact ⟨i, l, rfl, q⟩
      | dic _ _ _ => simp [q] at h
      | obj _ _ => simp [q] at h
  | _ => cases h
theorem setIt_dic {A A2 : Hs} {x y v : D} (h : setIt A x y v = some A2) (n : isLst A x = false) : ∃ i t l, x = .ref i ∧ A[i]? = some (.dic t false l) := by
  unfold setIt at h
  cases x with
  | ref i =>
    unfold isLst at n
    cases q : A[i]? with
    | none => simp [q] at h
    | some o =>
      cases o with
      | lst l => simp [q] at n
      | dic t lk l =>
        cases lk with
        | false => exact ⟨i, t, l, rfl, q⟩
        | true => simp [q] at h
      | obj _ _ => simp [q] at h
  | _ => simp at h
theorem ss_putL (ho : SimE K ca W to o) (hi : SimE K ca W ti b) (ha : SimE K ca W ta a) : SimS K ca W (tAsg ta (gSub to ti rSetL)) (sPut1 true o b a) := fun F m A σ H env Dn R S p =>
  ofE_bind ha R S p fun F1 m1 A1 H1 v dv R1 g1 S1 rv p1 => ofE_bind ho R1 S1 p1 fun F2 m2 A2 H2 x dx R2 g2 S2 rx p2 => ofE_bind hi R2 S2 p2 fun F3 m3 A3 H3 y dy R3 g3 S3 ry p3 => by
    split at p3
    · rename_i hl
      cases hs : setIt A3 dx dy dv with
      | none => rw [hs] at p3; exact p3.elim
      | some A4 =>
        rw [hs] at p3
        obtain ⟨j, l, rfl, hA⟩ := isLst_at (w := true) hl
        exact set_lst (Dn := Dn) R3 (rx.mono g3.ff g3.mm) ry (rv.mono (g2.trans g3).ff (g2.trans g3).mm) hA hs fun H4 R4 g4 => p3 F3 m3 σ H4 R4 g4 (S3.stp g4)
    · exact p3.elim
theorem ss_putD (ho : SimE K ca W to o) (hi : SimE K ca W ti b) (ha : SimE K ca W ta a) : SimS K ca W (sDPut to ti ta) (sPut1 false o b a) := fun F m A σ H env Dn R S p =>
  ofE_bind ha R S p fun F1 m1 A1 H1 v dv R1 g1 S1 rv p1 => ofE_bind ho R1 S1 p1 fun F2 m2 A2 H2 x dx R2 g2 S2 rx p2 => ofE_bind hi R2 S2 p2 fun F3 m3 A3 H3 y dy R3 g3 S3 ry p3 => by
    split at p3
    · rename_i hl
      cases hs : setIt A3 dx dy dv with
      | none => rw [hs] at p3; exact p3.elim
      | some A4 =>
        rw [hs] at p3
        obtain ⟨j, t, l, rfl, hA⟩ := setIt_dic hs hl
        obtain ⟨a', H4, e, h1, R4, g4⟩ := set_dic R3 (rx.mono g3.ff g3.mm) ry (rv.mono (g2.trans g3).ff (g2.trans g3).mm) hA hs
        exact ⟨a', H4, e, h1, p3 F3 m3 σ H4 R4 g4 (S3.stp g4)⟩
    · exact p3.elim
theorem ss_put (ho : SimE K ca W to o) (hi : SimE K ca W ti b) (ha : SimE K ca W ta a) : SimS K ca W (fun D σ H => tAsg ta (gSub to ti rSetL) D σ H ∨ sDPut to ti ta D σ H) (sPut o b a) := SimS.pick (ss_putL ho hi ha) (ss_putD ho hi ha) put_pick
/-! ### built-ins -/
def c1 (f : D → Hs → RE D) : List D → Hs → RE D := fun ds A => match ds with
  | [d] => f d A
  | _ => .stuck
def c2 (f : D → D → Hs → RE D) : List D → Hs → RE D := fun ds A => match ds with
  | [d, e] => f d e A
  | _ => .stuck
theorem cs_1 {r : List V → Hp → VK → Prop} {f : D → Hs → RE D} (h : ∀ F m A H x dx W σ Q, Rl K ca F m A H → Rep K ca F m x dx → Po K ca (Rep K ca) F m H W σ Q (f dx A) → r [x] H Q) : CbS K ca r (c1 f) := fun F m A H xs ds W σ Q R rs p => by
  match ds, xs, rs, p with
  | [d], _, .cons r1 .nil, p => exact h F m A H _ d W σ Q R r1 p
  | [], _, _, p => exact p.elim
  | _ :: _ :: _, _, _, p => exact p.elim
theorem cs_2 {r : List V → Hp → VK → Prop} {f : D → D → Hs → RE D} (h : ∀ F m A H x y dx dy W σ Q, Rl K ca F m A H → Rep K ca F m x dx → Rep K ca F m y dy → Po K ca (Rep K ca) F m H W σ Q (f dx dy A) → r [x, y] H Q) : CbS K ca r (c2 f) := fun F m A H xs ds W σ Q R rs p => by
  match ds, xs, rs, p with
  | [d, e], _, .cons r1 (.cons r2 .nil), p => exact h F m A H _ _ d e W σ Q R r1 r2 p
  | [], _, _, p => exact p.elim
  | [_], _, _, p => exact p.elim
  | _ :: _ :: _ :: _, _, _, p => exact p.elim
def lenA (A : Hs) (x : D) : Option Nat := match seqL A x with
  | some l => some l.length
  | none => match seqT x with
    | some l => some l.length
    | none => match x with
      | .str z => if z.length ≤ sizeLine then some z.length else none
      | .ref i => match A[i]? with
        | some (.dic false false l) => some l.length
        | _ => none
      | _ => none
def oLen (x : D) (A : Hs) : RE D := match lenA A x with
  | some n => .ok (.int (n : Int)) A
  | none => .stuck
theorem cs_len : CbS K ca (rLenU K) (c1 oLen) := cs_1 fun F m A H x dx W σ Q R rx p => by
  unfold oLen at p
  cases q : lenA A dx with
  | none => rw [q] at p; exact p.elim
  | some n =>
    rw [q] at p
    have hq := po_ok R (Rep.int _) p
    unfold lenA at q
    split at q
    · rename_i l hl
      cases q
      obtain ⟨a, vs, e, h1, h2⟩ := seqL_at R rx hl
      subst e
      exact .inl ⟨_, l.length, rfl, .inl ⟨vs, h1, h2.length.symm⟩, hq⟩
    · split at q
      · rename_i l hl
        cases q
        obtain ⟨a, vs, e, h1, h2⟩ := seqT_at R rx hl
        subst e
        exact .inl ⟨_, l.length, rfl, .inr ⟨vs, h1, h2.length.symm⟩, hq⟩
      · cases rx with
        | str z =>
          simp only at q
          split at q
          · rename_i hz; cases q; exact .inl ⟨_, _, rfl, ⟨hz, rfl⟩, hq⟩
          · cases q
        | ref hm =>
          simp only at q
          split at q
          · rename_i l hA
            cases q
            obtain ⟨a, e, ha, kvs, h1, h2⟩ := R.at hA (.ref hm)
            refine .inr ⟨a, kvs, by rw [e], h1, ?_⟩
            rw [h2.length]; exact hq
          · cases q
        | _ => cases q
def boolsOf : List D → Option (List Bool)
  | [] => some []
  | .bl b :: r => (boolsOf r).map (b :: ·)
  | _ :: _ => none
def intsOf : List D → Option (List Int)
  | [] => some []
  | .int b :: r => (intsOf r).map (b :: ·)
  | _ :: _ => none
def strsOf : List D → Option (List Str)
  | [] => some []
  | .str b :: r => (strsOf r).map (b :: ·)
  | _ :: _ => none
theorem boolsOf_eq : ∀ {l : List D} {bs : List Bool}, boolsOf l = some bs → l = bs.map D.bl
  | [], _, h => by cases h; rfl
  | d :: r, bs, h => by
    cases d with
    | bl b =>
      unfold boolsOf at h
      cases q : boolsOf r with
      | none => rw [q] at h; cases h
      | some s => rw [q] at h; cases h; rw [List.map_cons, ← boolsOf_eq q]
    | _ => cases h
theorem strsOf_eq : ∀ {l : List D} {bs : List Str}, strsOf l = some bs → l = bs.map D.str
  | [], _, h => by cases h; rfl
  | d :: r, bs, h => by
    cases d with
    | str b =>
      unfold strsOf at h
      cases q : strsOf r with
      | none => rw [q] at h; cases h
      | some s => rw [q] at h; cases h; rw [List.map_cons, ← strsOf_eq q]
    | _ => cases h
theorem z01 : ∀ bs : List Bool, boolsOf (bs.map D.bl) = some bs
  | [] => rfl
  | b :: r => by rw [List.map_cons]; unfold boolsOf; rw [z01 r]; rfl
theorem z0a : ∀ bs : List Int, intsOf (bs.map D.int) = some bs
  | [] => rfl
  | b :: r => by rw [List.map_cons]; unfold intsOf; rw [z0a r]; rfl
def oAll (x : D) (A : Hs) : RE D := match (seqL A x).bind boolsOf with
  | some bs => .ok (.bl (bs.all id)) A
  | none => .stuck
def oSum (x : D) (A : Hs) : RE D := match (seqL A x).bind intsOf with
  | some ns => .ok (.int ns.sum) A
  | none => .stuck
theorem cs_all : CbS K ca (L2.rAll K) (c1 oAll) := cs_1 fun F m A H x dx W σ Q R rx p => by
  unfold oAll at p
  split at p
  · rename_i bs hb
    obtain ⟨l, h1, h2⟩ := Option.bind_eq_some_iff.mp hb
    obtain ⟨a, vs, e, h3, h4⟩ := seqL_at R rx h1
    have e2 := boolsOf_eq h2
    subst e2
    have e3 := h4.bools
    subst e3 e
    exact ⟨a, bs, rfl, h3, po_ok R (.bl _) p⟩
  · exact p.elim
def oMax2 := oII fun i j => some (.int (if j > i then j else i))
def oMin2 := oII fun i j => some (.int (if j < i then j else i))
theorem cs_max2 : CbS K ca rMax2 (c2 oMax2) := cs_2 fun F m A H x y dx dy W σ Q R rx ry p => by
  cases rx with
  | int i =>
    cases ry with
    | int j => exact ⟨i, j, rfl, po_ok R (.int _) p⟩
    | _ => exact p.elim
  | _ => exact p.elim
theorem cs_min2 : CbS K ca rMin2 (c2 oMin2) := cs_2 fun F m A H x y dx dy W σ Q R rx ry p => by
  cases rx with
  | int i =>
    cases ry with
    | int j => exact ⟨i, j, rfl, po_ok R (.int _) p⟩
    | _ => exact p.elim
  | _ => exact p.elim
def oInt (x : D) (A : Hs) : RE D := match x with
  | .int i => .ok (.int i) A
  | .bl b => .ok (.int (if b then 1 else 0)) A
  | _ => .stuck
theorem cs_int : CbS K ca rInt1 (c1 oInt) := cs_1 fun F m A H x dx W σ Q R rx p => by
  cases rx with
  | int i => exact .inl ⟨i, rfl, po_ok R (.int _) p⟩
  | bl b => exact .inr ⟨b, rfl, po_ok R (.int _) p⟩
  | _ => exact p.elim
def seqA (A : Hs) (x : D) : Option (List D) := match seqL A x with
  | some l => some l
  | none => seqT x
def oList (x : D) (A : Hs) : RE D := match seqL A x with
  | some l => alloc A (.lst l)
  | none => match seqT x with
    | some l => alloc A (.lst l)
    | none => .stuck
def oTuple (x : D) (A : Hs) : RE D := match seqL A x with
  | some l => .ok (.tup l) A
  | none => match x with
    | .tup l => .ok (.tup l) A
    | _ => .stuck
theorem cs_tuple : CbS K ca (rTupleOf K) (c1 oTuple) := cs_1 fun F m A H x dx W σ Q R rx p => by
  unfold oTuple at p
  split at p
  · rename_i l hl
    obtain ⟨a, vs, e, h3, h4⟩ := seqL_at R rx hl
    subst e
    refine ⟨a, vs, rfl, .inl ⟨h3, fun q hq => ?_⟩⟩
    obtain ⟨R2, g2⟩ := R.new (u := .tup vs) hq
    exact p _ _ _ _ R2 g2 (.tup upd_same (h4.mono g2.ff g2.mm))
  · cases rx with
    | tup s rs => exact ⟨_, _, rfl, .inr ⟨.inl (.inl (R.fh _ _ s)), po_ok R (.tup s rs) p⟩⟩
    | _ => exact p.elim
/-! ### isinstance -/
/-- the class that a thing is of; os, xs: own classes, own exceptions at hand -/
def kdOf (os xs : List String) (A : Hs) : D → Option String
  | .non => some "NoneType"
  | .bl _ => some "bool"
  | .int _ => some "int"
  | .str _ => some "str"
  | .tup _ => some "tuple"
  | .scr _ => none
  | .exc C => if C ∈ xs then some C else none
  | .ref i => match A[i]? with
    | some (.lst _) => some "list"
    | some (.dic t lk _) => if t && lk then none else some "dict"
    | some (.obj C _) => if C ∈ os then some C else none
    | none => none
  | _ => none
def btn (n : String) : Bool := n == "NoneType" || n == "bool" || n == "int" || n == "str" || n == "tuple" || n == "list" || n == "dict" || n == "ValueError"
def clOf : D → Option String
  | .ty n => if btn n then some n else none
  | .nm C => if btn C then none else some C
  | _ => none
/-- a name's class object -/
def vOf (ca : String → Addr) (n : String) : Value := if btn n then .type n else .ref (ca n)
def subB (n c : String) : Bool := n == c || n == "bool" && c == "int"
/-- is the class n one of c: by the built-in ones, else by a table -/
def isiOf (tb : List (String × String × Bool)) (n c : String) : Option Bool := if btn n && btn c && n != "ValueError" then some (subB n c) else (tb.find? fun e => e.1 == n && e.2.1 == c).map (·.2.2)
/-- one of some classes -/
def isiAny (tb : List (String × String × Bool)) (n : String) : List D → Option Bool
  | [] => some false
  | c :: r => match clOf c with
    | some k => match isiOf tb n k with
      | some true => some true
      | some false => isiAny tb n r
      | none => none
    | none => none
def isiAll : List D → Bool
  | [] => true
  | c :: r => (clOf c).isSome && isiAll r
def isiD (os xs : List String) (tb : List (String × String × Bool)) (A : Hs) (x c : D) : Option Bool := match kdOf os xs A x with
  | none => none
  | some n => match c with
    | .tup l => if isiAll l then isiAny tb n l else none
    | c => match clOf c with
      | some k => isiOf tb n k
      | none => none
def oIsi (os xs : List String) (tb : List (String × String × Bool)) (x c : D) (A : Hs) : RE D := match isiD os xs tb A x c with
  | some b => .ok (.bl b) A
  | none => .stuck
inductive TbOk (K : PySem.W.Frag) (ca : String → Addr) : List (String × String × Bool) → Prop
  | nil : TbOk K ca []
  | cons {n c : String} {b : Bool} {r : List (String × String × Bool)} : PySem.W.kitOne K (vOf ca n) (vOf ca c) = some b → TbOk K ca r → TbOk K ca ((n, c, b) :: r)
theorem TbOk.of {tb : List (String × String × Bool)} (h : TbOk K ca tb) {n c : String} {b : Bool} (q : (tb.find? fun e => e.1 == n && e.2.1 == c).map (·.2.2) = some b) : PySem.W.kitOne K (vOf ca n) (vOf ca c) = some b := by
  induction h with
  | nil => cases q
  | cons h1 h2 ih =>
    rename_i n' c' b' r
    rw [List.find?_cons] at q
    cases z : (n' == n && c' == c) with
    | true =>
      simp only [z] at q
      cases q
      rw [Bool.and_eq_true] at z
      rw [← eq_of_beq z.1, ← eq_of_beq z.2]; exact h1
    | false => simp only [z] at q; exact ih q
def btns : List String := ["NoneType", "bool", "int", "str", "tuple", "list", "dict", "ValueError"]
theorem btn_mem {n : String} (h : btn n = true) : n ∈ btns := by
  simp only [btn, Bool.or_eq_true, beq_iff_eq] at h
  simp only [btns, List.mem_cons, List.mem_nil_iff, or_false]
  rcases h with ((((((h | h) | h) | h) | h) | h) | h) | h <;> simp [h]
theorem isi_all : ∀ n ∈ btns, ∀ c ∈ btns, (n != "ValueError") = true → kitB n c = some (subB n c) := by decide +kernel
theorem isi_sub {n c : String} (h1 : btn n = true) (h2 : btn c = true) (h3 : (n != "ValueError") = true) : kitB n c = some (subB n c) := isi_all n (btn_mem h1) c (btn_mem h2) h3
theorem isi_of {tb : List (String × String × Bool)} (h : TbOk K ca tb) {n c : String} {b : Bool} (q : isiOf tb n c = some b) : PySem.W.kitOne K (vOf ca n) (vOf ca c) = some b := by
  unfold isiOf at q
  split at q
  · rename_i z
    rw [Bool.and_eq_true, Bool.and_eq_true] at z
    cases q
    unfold vOf
    rw [if_pos z.1.1, if_pos z.1.2]
    exact kit_ty (isi_sub z.1.1 z.1.2 z.2)
  · exact h.of q
theorem cl_at {y : V} {dy : D} {k : String} (r : Rep K ca F m y dy) (h : clOf dy = some k) : ClsV y (vOf ca k) := by
  cases r with
  | ty n =>
    unfold clOf at h
    simp only at h
    split at h
    · rename_i z; cases h; unfold vOf; rw [if_pos z]; exact .ty _
    · cases h
  | nm C =>
    unfold clOf at h
    simp only at h
    split at h
    · cases h
    · rename_i z; cases h; unfold vOf; rw [if_neg z]; exact .own _
  | _ => cases h
/-- how isinstance sees a thing -/
inductive Sees (K : PySem.W.Frag) (H : Hp) (x : V) (u : Value) : Prop
  | ty : TyX K H x u → Sees K H x u
  | exc {a C : Addr} : x = .ref a → u = .ref C → H a = some (ExK C a) → ExcC K C → Sees K H x u
theorem sees_of {os xs : List String} {x : V} {n : String} (ho : AllC (fun C => InC K (ca C) ∧ btn C = false) os) (hx : AllC (fun C => ExcC K (ca C) ∧ btn C = false) xs) (R : Rl K ca F m A H) (rx : Rep K ca F m x dx) (h : kdOf os xs A dx = some n) : Sees K H x (vOf ca n) := by
  cases rx with
  | non => cases h; exact .ty (.base .non)
  | bl b => cases h; exact .ty (.base (.bl b))
  | int b => cases h; exact .ty (.base (.int b))
  | str b => cases h; exact .ty (.base (.str b))
  | tup s r => cases h; exact .ty (.base (.tup (R.fh _ _ s)))
  | exc s =>
    rename_i a C
    unfold kdOf at h
    simp only at h
    split at h
    · rename_i z; cases h
      have k := AllC.of hx z
      refine .exc rfl ?_ (R.fh _ _ s) k.1
      unfold vOf; rw [k.2]; rfl
    · cases h
  | ref hm =>
    unfold kdOf at h
    simp only at h
    split at h
    · rename_i l hA
      cases h
      obtain ⟨a, vs, e, h1, h2, h3⟩ := lst_at R (.ref hm) hA
      rw [e]
      exact .ty (.base (.lst h2))
    · rename_i t lk l hA
      split at h
      · cases h
      · rename_i z
        cases h
        obtain ⟨a, e, ha, r⟩ := R.at hA (.ref hm)
        rw [e]
        cases t with
        | false =>
          obtain ⟨kvs, h1, _⟩ := r
          cases lk with
          | false => exact .ty (.base (.dK h1))
          | true => obtain ⟨od, h1⟩ := h1; exact .ty (.fDict h1)
        | true =>
          obtain ⟨kvs, h1, _⟩ := r
          cases lk with
          | false => exact .ty (.base (.dT h1))
          | true => exact absurd rfl z
    · rename_i C fs hA
      split at h
      · rename_i z
        cases h
        obtain ⟨a, e, ha, dxx, kvs, h1, _⟩ := R.at hA (.ref hm)
        rw [e]
        have k := AllC.of ho z
        have i := k.1
        refine .ty (.base ?_)
        unfold vOf
        rw [k.2]
        exact .ins h1 i.cl i.ha i.hn i.ht i.hm
      · cases h
    · cases h
  | _ => cases h
theorem isiAny_kit {tb : List (String × String × Bool)} (ht : TbOk K ca tb) {n : String} : ∀ {vs : List V} {l : List D} {b : Bool}, RepL K ca F m vs l → isiAll l = true → isiAny tb n l = some b → ∃ us, Paired ClsV vs us ∧ PySem.W.kitAny K (vOf ca n) us = some b
  | _, _, _, .nil, _, h => by cases h; exact ⟨[], .nil, kitAny_nil⟩
  | _, _, _, .cons r rs, ha, h => by
    unfold isiAll at ha
    rw [Bool.and_eq_true] at ha
    unfold isiAny at h
    cases q : clOf _ with
    | none => rw [q] at h; cases h
    | some k =>
      rw [q] at h
      simp only at h
      cases q2 : isiOf tb n k with
      | none => rw [q2] at h; cases h
      | some c =>
        rw [q2] at h
        have k1 := isi_of ht q2
        cases c with
        | true =>
          cases h
          -- the rest only has to be classes
          have rest : ∀ {vs : List V} {l : List D}, RepL K ca F m vs l → isiAll l = true → ∃ us, Paired ClsV vs us := by
            intro vs l
            induction l generalizing vs with
            | nil => intro r _; cases r; exact ⟨[], .nil⟩
            | cons d l ih =>
              intro r hl
              cases r with
              | cons r1 r2 =>
                unfold isiAll at hl
                rw [Bool.and_eq_true] at hl
                obtain ⟨us, hus⟩ := ih r2 hl.2
                cases z : clOf d with
                | none => rw [z] at hl; cases hl.1
                | some kk => exact ⟨_ :: us, .cons (cl_at r1 z) hus⟩
          obtain ⟨us, hus⟩ := rest rs ha.2
          exact ⟨_ :: us, .cons (cl_at r q) hus, kitAny_cons k1 (fun z => by cases z) fun _ => rfl⟩
        | false =>
          obtain ⟨us, h1, h2⟩ := isiAny_kit ht rs ha.2 h
          exact ⟨_ :: us, .cons (cl_at r q) h1, kitAny_cons k1 (fun _ => h2) fun z => by cases z⟩
/-- isinstance(x, c) -/
theorem cs_isi {os xs : List String} {tb : List (String × String × Bool)} (ho : AllC (fun C => InC K (ca C) ∧ btn C = false) os) (hx : AllC (fun C => ExcC K (ca C) ∧ btn C = false) xs) (ht : TbOk K ca tb) : CbS K ca (rIsiU K) (c2 (oIsi os xs tb)) := cs_2 fun F m A H x y dx dy W σ Q R rx ry p => by
  unfold oIsi at p
  cases q : isiD os xs tb A dx dy with
  | none => rw [q] at p; exact p.elim
  | some b =>
    rw [q] at p
    have hq := po_ok R (Rep.bl _) p
    unfold isiD at q
    cases z : kdOf os xs A dx with
    | none => rw [z] at q; cases q
    | some n =>
      rw [z] at q
      have sees := sees_of ho hx R rx z
      have one : ∀ k, clOf dy = some k → isiOf tb n k = some b → rIsiU K [x, y] H Q := fun k h1 h2 => by
        have kit := isi_of ht h2
        have cl := cl_at ry h1
        cases sees with
        | ty t => exact .inl ⟨x, y, _, _, b, rfl, cl, t, kit, hq⟩
        | exc e1 e2 e3 e4 =>
          subst e1
          rw [e2] at kit
          exact .inr (.inr (.inl ⟨_, _, y, _, b, rfl, e3, e4, cl, kit, hq⟩))
      cases ry with
      | tup s rs =>
        simp only at q
        split at q
        · rename_i ha
          obtain ⟨us, h1, h2⟩ := isiAny_kit ht rs ha q
          cases sees with
          | ty t => exact .inr (.inl ⟨x, _, _, _, us, b, rfl, R.fh _ _ s, h1, t, h2, hq⟩)
          | exc e1 e2 e3 e4 =>
            subst e1
            rw [e2] at h2
            exact .inr (.inr (.inr ⟨_, _, _, _, us, b, rfl, e3, e4, R.fh _ _ s, h1, h2, hq⟩))
        · cases q
      | ty n' =>
        simp only at q
        split at q
        · rename_i k hk; exact one k hk q
        · cases q
      | nm n' =>
        simp only at q
        split at q
        · rename_i k hk; exact one k hk q
        · cases q
      | _ => simp [clOf] at q
end
end SM

namespace L2
open PySem PySem.Spec PyProof.Rows
theorem extT_go (l : Addr) (items : Array Value) (n : Nat) (b : Addr) (items2 : Array Value) (n2 : Nat) (dd : Option Addr) (sl : Array (Option Value)) (hs0 : ¬(!items.isEmpty && Builtin.List.listTooLong (items.size + items2.size)) = true) (hs1 : items.size ≤ sizeLine) (hs2 : items.size + items2.size ≤ sizeLine + 1) :
    Meets (Builtin.«list.extend» ⟨[.ref l, .ref b], []⟩) (fun _ R s => s.heap.get? l = some { cls := .type "list", dict := none, data := .seq items n, slots := #[] } ∧ s.heap.get? b = some { cls := .type "tuple", dict := dd, data := .seq items2 n2, slots := sl } ∧ R (.ok (.ret Value.none)) { s with heap := s.heap.update l (Obj.mapSeq fun x => x ++ items2), toks := s.toks }) :=
  .of_wp fun prog w A R s h => by
    obtain ⟨hp, g, d, tk, os⟩ := s; obtain ⟨hl, hb, h⟩ := h
    have f1 := AutoSeq1.idx_int; have f2 := AutoSeq1.sub_tuple_tuple; have f3 := AutoSeq1.sub_list_list; have f4 := AutoSeq1.sub_tuple_list; have f5 := AutoSeq1.sub_list_tuple
    have hz' : (items ++ items2).size ≤ sizeLine + 1 := by rw [Array.size_append]; exact hs2
    wp_walk using (wpAny_updateSeq hl rfl (hz := hs1) (_hz' := hz')), wpAny_loadPart' hl, wpAny_loadPart' hb; exact ⟨_, rfl, h⟩
/-- xs.extend(tuple) -/
def rExtT (K : PySem.W.Frag) : V → List V → Hp → VK → Prop := fun x vs H Q => ∃ l b xs zs, x = .ref l ∧ vs = [.ref b] ∧ H l = some (.lst xs) ∧ H b = some (.tup zs) ∧ xs.length + zs.length ≤ sizeLine ∧ Q .non (upd H l (.lst (xs ++ zs)))
theorem mt_extT {X : Cx} : MtR X "list.extend" (rExtT X.K) := by
  intro pins s σ H x vs v us Q I rx rv h
  obtain ⟨l, b, xs, zs, rfl, rfl, hH, hB, hz, q⟩ := h
  cases rx
  obtain ⟨u, rfl, ru⟩ := rv.one
  cases ru
  obtain ⟨z, its, n, r, hl, e⟩ := I.lstM hH
  obtain ⟨z2, its2, r2, ⟨oc, od, dt, sl⟩, e2, hc2, n2, hd2⟩ := (show ObjOk X.prog X.w H s.heap b (.tup zs) from I.hok b _ hB)
  dsimp only at hc2 hd2
  subst hc2 hd2
  have hl2 := r2.length
  have hsz : its.toArray.size + its2.toArray.size ≤ sizeLine := by rw [List.size_toArray, List.size_toArray]; omega
  have hlong : ¬ (!its.toArray.isEmpty && Builtin.List.listTooLong (its.toArray.size + its2.toArray.size)) = true := by
    rw [notLongL hsz, Bool.and_false]
    exact Bool.false_ne_true
  refine call_meets F.slot_list_extend ⟨_, e, rfl⟩ F.entry_list_extend (F.args_list_extend_2 _ _)
    (extT_go l its.toArray n b its2.toArray n2 od sl hlong (by rw [List.size_toArray]; omega) (by omega)) ⟨e, e2, ?_⟩
  refine ⟨.non, _, I.lset (its' := its ++ its2) hH e (by simp) (r.append r2) ?_, rfl, q⟩
  rw [List.length_append]
  omega
def rExtA (K : PySem.W.Frag) : V → List V → Hp → VK → Prop := fun x vs H Q => rExtend x vs H Q ∨ rExtT K x vs H Q
end L2
namespace SM
open PySem L2
open DL (Ex ExK rInt1 iSeqU rng rngC rng_len rngC_len rng_get rngC_get enumD enumD_len enumD_get zipD)
section
variable {K : PySem.W.Frag} {ca : String → Addr} {F F1 F2 H H1 H2 : Hp} {m m1 m2 : List Addr} {A A1 A2 : Hs} {σ : L2.St} {env : Sl} {W : WX} {Q : VK}
variable {ta tb tc te to ti : TE} {a b c o : E} {i : Nat} {d : D} {ts : TA} {as : As} {x : V} {dx : D}
/-! ### what is walked -/
theorem SimI.pick {t u : TI} {f g h : Sl → Hs → RE Wk} (h1 : SimI K ca W t g) (h2 : SimI K ca W u h) (k : ∀ env A, f env A = g env A ∨ f env A = h env A) : SimI K ca W (fun σ H R => t σ H R ∨ u σ H R) f := fun F m A σ H env Q R S p => by
  rcases k env A with q | q
  · rw [q] at p; exact .inl (h1 F m A σ H env Q R S p)
  · rw [q] at p; exact .inr (h2 F m A σ H env Q R S p)
def tt : Hs → Prop := fun _ => True
/-- the signs of a text -/
def signsOf (z : Str) : List D := z.cps.toList.map fun c => .str ⟨#[c]⟩
def wkL (A : Hs) (x : D) : Option Wk := match x with
  | .ref i => match A[i]? with
    | some (.lst l) => some ⟨l, fun A' => A'[i]? = some (.lst l)⟩
    | _ => none
  | .scr l => some ⟨l, tt⟩
  | _ => none
def wkT (_ : Hs) (x : D) : Option Wk := match x with
  | .tup l => some ⟨l, tt⟩
  | .wt l => some ⟨l, tt⟩
  | _ => none
def wkS (_ : Hs) (x : D) : Option Wk := match x with
  | .str z => some ⟨signsOf z, tt⟩
  | _ => none
/-- a list, a tuple, a text -/
def wkA (A : Hs) (x : D) : Option Wk := match x with
  | .ref _ => wkL A x
  | .scr _ => wkL A x
  | .tup _ => wkT A x
  | .wt _ => wkT A x
  | _ => wkS A x
def wOf (f : Hs → D → Option Wk) (a : E) : Sl → Hs → RE Wk := fun env A => (a env A).bind fun x A1 => match f A1 x with
  | some k => .ok k A1
  | none => .stuck
def wSeq (a : E) : Sl → Hs → RE Wk := wOf wkA a
theorem wOf_bind {f : Hs → D → Option Wk} {R' : It → Hp → Prop} {T : VK} (h : SimE K ca W te a) (R : Rl K ca F m A H) (S : Slt K ca F m σ env) (p : PoW K ca F m H W σ R' (wOf f a env A))
    (k : ∀ F1 m1 A1 H1 x d kk, Rl K ca F1 m1 A1 H1 → Rep K ca F1 m1 x d → f A1 d = some kk → PoW K ca F1 m1 H1 W σ R' (.ok kk A1) → T x H1) : te σ H T := by
  refine h F m A σ H env T R S ?_
  unfold wOf at p
  cases q : a env A with
  | ok d A1 =>
    rw [q] at p
    intro v F1 m1 H1 R1 g1 r
    simp only [RE.bind] at p
    cases z : f A1 d with
    | none => rw [z] at p; exact p.elim
    | some kk =>
      rw [z] at p
      exact k F1 m1 A1 H1 v d kk R1 r z fun J F' m' H' R2 g2 hh => p J F' m' H' R2 (g1.trans g2) hh
  | exc C A1 => rw [q] at p; exact p
  | stuck => rw [q] at p; exact p
/-- the list at a, as it is at each turn -/
theorem walk_live {a : Addr} {n : Nat} : Walk (Itl K a) n (fun H => ∃ vs, SqL K H a vs ∧ vs.length = n) (fun i H x H' => H' = H ∧ ∀ xs, SqL K H a xs → xs[i]? = some x) :=
  ⟨fun i _ hi ⟨vs, q, e⟩ => ⟨vs, vs[i]'(by omega), q, by simp [show i < vs.length by omega]⟩, fun _ ⟨vs, q, e⟩ => ⟨vs, q, by omega⟩, fun _ _ _ _ _ _ y => y⟩
theorem sw_list (h : SimE K ca W te a) : SimI K ca W (iList K te) (wOf wkL a) := fun F m A σ H env Q R S p => wOf_bind h R S p fun F1 m1 A1 H1 x d kk R1 r hk p1 => by
  cases r with
  | ref hm =>
    rename_i aa i
    unfold wkL at hk
    simp only at hk
    cases hA : A1[i]? with
    | none => simp [hA] at hk
    | some o =>
      cases o with
      | lst l =>
        simp only [hA, Option.some.injEq] at hk
        subst hk
        obtain ⟨a', vs, e, h1, h2, h3⟩ := lst_at R1 (.ref hm) hA
        cases e
        refine ⟨aa, rfl, ⟨vs, .inl (.inl h2)⟩, p1 _ F1 m1 H1 R1 Stp.refl ⟨_, _, walk_live, fun F2 m2 A2 H2 hg R2 g2 => ?_, fun i' d' x' F2 m2 A2 H2 H3 e hg R2 g2 y => .inl ⟨y.1, ?_⟩⟩⟩
        · obtain ⟨a2, vs2, e2, _, h4, h5⟩ := lst_at R2 (.ref (g2.mm.get h1)) hg
          cases e2
          exact ⟨vs2, .inl (.inl h4), h5.length⟩
        · obtain ⟨a2, vs2, e2, _, h4, h5⟩ := lst_at R2 (.ref (g2.mm.get h1)) hg
          cases e2
          obtain ⟨z, z1, z2⟩ := h5.get e
          have := y.2 vs2 (.inl (.inl h4))
          rw [z1] at this; cases this; exact z2
      | dic _ _ _ => simp [hA] at hk
      | obj _ _ => simp [hA] at hk
  | scr s rs =>
    cases hk
    refine ⟨_, rfl, ⟨_, R1.fh.l s⟩, p1 _ F1 m1 H1 R1 Stp.refl ⟨_, _, walk_live, fun F2 m2 A2 H2 hg R2 g2 => ⟨_, R2.fh.l (g2.ff.l s), rs.length⟩, fun i' d' x' F2 m2 A2 H2 H3 e hg R2 g2 y => .inl ⟨y.1, ?_⟩⟩⟩
    obtain ⟨z, z1, z2⟩ := rs.get e
    have := y.2 _ (R2.fh.l (g2.ff.l s))
    rw [z1] at this; cases this; exact z2.mono g2.ff g2.mm
  | _ => cases hk
theorem sw_tup (h : SimE K ca W te a) : SimI K ca W (iTup K te) (wOf wkT a) := fun F m A σ H env Q R S p => wOf_bind h R S p fun F1 m1 A1 H1 x d kk R1 r hk p1 => by
  have main : ∀ {aa : Addr} {vs : List V} {l : List D}, SqT K F1 aa vs → RepL K ca F1 m1 vs l → kk = ⟨l, tt⟩ → x = .ref aa → ∃ a, x = .ref a ∧ (∃ xs, SqT K H1 a xs) ∧ Q (Itt K a) H1 := fun {aa vs l} s rs e ex => by
    subst e
    refine ⟨aa, ex, ⟨vs, R1.fh.t s⟩, p1 _ F1 m1 H1 R1 Stp.refl ⟨fun H => SqT K H aa vs, YAt vs, by rw [show (Wk.mk l _).ds.length = vs.length from rs.length.symm]; exact walk_tup, fun F2 m2 A2 H2 hg R2 g2 => R2.fh.t (g2.ff.t s), fun i' d' x' F2 m2 A2 H2 H3 e hg R2 g2 y => .inl ⟨y.1, ?_⟩⟩⟩
    obtain ⟨z, z1, z2⟩ := rs.get e
    have := y.2
    rw [z1] at this; cases this; exact z2.mono g2.ff g2.mm
  cases r with
  | tup s rs => cases hk; exact main (.inl (.inl s)) rs rfl rfl
  | wt s rs => cases hk; exact main s rs rfl rfl
  | _ => cases hk
theorem sw_str (h : SimE K ca W te a) : SimI K ca W (iStr te) (wOf wkS a) := fun F m A σ H env Q R S p => wOf_bind h R S p fun F1 m1 A1 H1 x d kk R1 r hk p1 => by
  cases r with
  | str z =>
    cases hk
    refine ⟨z, rfl, p1 _ F1 m1 H1 R1 Stp.refl ⟨fun _ => True, (fun i H v H' => H' = H ∧ ∃ c, z.cps[i]? = some c ∧ v = .str ⟨#[c]⟩), by rw [show (Wk.mk (signsOf z) _).ds.length = z.cps.size by unfold signsOf; simp]; exact walk_str, fun _ _ _ _ _ _ _ => trivial, fun i' d' x' F2 m2 A2 H2 H3 e hg R2 g2 y => .inl ⟨y.1, ?_⟩⟩⟩
    obtain ⟨_, c, h1, h2⟩ := y
    have e' : (signsOf z)[i']? = some d' := e
    unfold signsOf at e'
    rw [List.getElem?_map, Array.getElem?_toList, h1] at e'
    cases e'
    rw [h2]
    exact .str _
  | _ => cases hk
theorem wOf_pick {f g h : Hs → D → Option Wk} {a : E} (k : ∀ A x, f A x = g A x ∨ f A x = h A x) (env : Sl) (A : Hs) : wOf f a env A = wOf g a env A ∨ wOf f a env A = wOf h a env A := by
  unfold wOf
  cases a env A with
  | stuck => exact .inl rfl
  | exc _ _ => exact .inl rfl
  | ok x A1 =>
    simp only [RE.bind]
    rcases k A1 x with q | q
    · rw [q]; exact .inl rfl
    · rw [q]; exact .inr rfl
def wkTS (A : Hs) (x : D) : Option Wk := match x with
  | .tup _ => wkT A x
  | .wt _ => wkT A x
  | _ => wkS A x
theorem sw_seq (h : SimE K ca W te a) : SimI K ca W (iSeqU K te) (wSeq a) := SimI.pick (sw_list h) (SimI.pick (sw_tup h) (sw_str h) (wOf_pick (f := wkTS) fun A x => by cases x <;> first | exact .inl rfl | exact .inr rfl)) (wOf_pick fun A x => by cases x <;> first | exact .inl rfl | exact .inr rfl)
/-! ranges -/
def wAs (f : List D → Option Wk) (as : As) : Sl → Hs → RE Wk := fun env A => (as env A).bind fun ds A1 => match f ds with
  | some k => .ok k A1
  | none => .stuck
theorem wAs_bind {f : List D → Option Wk} {R' : It → Hp → Prop} {T : List V → Hp → Prop} (h : SimA K ca W ts as) (R : Rl K ca F m A H) (S : Slt K ca F m σ env) (p : PoW K ca F m H W σ R' (wAs f as env A))
    (k : ∀ F1 m1 A1 H1 x d kk, Rl K ca F1 m1 A1 H1 → RepL K ca F1 m1 x d → f d = some kk → PoW K ca F1 m1 H1 W σ R' (.ok kk A1) → T x H1) : ts σ H T := by
  refine h F m A σ H env T R S ?_
  unfold wAs at p
  cases q : as env A with
  | ok d A1 =>
    rw [q] at p
    intro v F1 m1 H1 R1 g1 r
    simp only [RE.bind] at p
    cases z : f d with
    | none => rw [z] at p; exact p.elim
    | some kk =>
      rw [z] at p
      exact k F1 m1 A1 H1 v d kk R1 r z fun J F' m' H' R2 g2 hh => p J F' m' H' R2 (g1.trans g2) hh
  | exc C A1 => rw [q] at p; exact p
  | stuck => rw [q] at p; exact p
def big (i : Int) : Prop := -(2 ^ 62) ≤ i ∧ i < 2 ^ 62
def rgL (lo c : Int) (n : Nat) : List D := (List.range n).map fun i => .int (lo + (i : Nat) * c)
theorem rgL_get {lo c : Int} {n i : Nat} {d : D} (h : (rgL lo c n)[i]? = some d) : d = .int (lo + (i : Nat) * c) ∧ i < n := by
  unfold rgL at h
  rw [List.getElem?_map] at h
  by_cases q : i < n
  · rw [List.getElem?_range q] at h; cases h; exact ⟨rfl, q⟩
  · rw [List.getElem?_eq_none (by simpa using Nat.le_of_not_lt q)] at h; cases h
theorem rgL_len {lo c : Int} {n : Nat} : (rgL lo c n).length = n := by unfold rgL; simp
open Classical in
noncomputable def rg1 : List D → Option Wk
  | [.int j] => if big j then some ⟨rgL 0 1 j.toNat, tt⟩ else none
  | _ => none
open Classical in
noncomputable def rg2 : List D → Option Wk
  | [.int i, .int j] => if big i ∧ big j then some ⟨rgL i 1 (j - i).toNat, tt⟩ else none
  | _ => none
def cnt (i j c : Int) : Nat := (if i < j then (j - i - 1) / c + 1 else 0).toNat
open Classical in
noncomputable def rg3 : List D → Option Wk
  | [.int i, .int j, .int c] => if -(2 ^ 60) ≤ i ∧ i < 2 ^ 60 ∧ -(2 ^ 60) ≤ j ∧ j < 2 ^ 60 ∧ 0 < c ∧ c < 1000000 then some ⟨rgL i c (cnt i j c), tt⟩ else none
  | _ => none
theorem sw_r1 (h : SimA K ca W ts as) : SimI K ca W (iRng1 ts) (wAs rg1 as) := fun F m A σ H env Q R S p => wAs_bind h R S p fun F1 m1 A1 H1 x d kk R1 r hk p1 => by
  match d, x, r, hk with
  | [.int j], _, .cons (.int _) .nil, hk =>
    unfold rg1 at hk
    simp only at hk
    split at hk
    · rename_i hb
      cases hk
      refine ⟨j, rfl, hb.1, hb.2, p1 _ F1 m1 H1 R1 Stp.refl ⟨fun _ => True, YFn fun i => .int (0 + i), by rw [show (Wk.mk (rgL 0 1 j.toNat) _).ds.length = j.toNat from rgL_len]; exact walk_range, fun _ _ _ _ _ _ _ => trivial, fun i' d' x' F2 m2 A2 H2 H3 e hg R2 g2 y => .inl ⟨y.1, ?_⟩⟩⟩
      obtain ⟨e1, _⟩ := rgL_get e
      rw [y.2, e1, Int.mul_one]; exact .int _
    · cases hk
/-! enumerate, zip -/
def enumL (l : List D) : List D := l.zipIdx.map fun p => .tup [.int (p.2 : Nat), p.1]
theorem enumL_len {l : List D} : (enumL l).length = l.length := by simp [enumL]
theorem enumL_get {l : List D} {i : Nat} {d : D} (h : (enumL l)[i]? = some d) : ∃ x, l[i]? = some x ∧ d = .tup [.int (i : Nat), x] := by
  unfold enumL at h
  rw [List.getElem?_map, List.getElem?_zipIdx] at h
  cases q : l[i]? with
  | none => rw [q] at h; cases h
  | some x => rw [q] at h; simp at h; exact ⟨x, rfl, h.symm⟩
def wkE (A : Hs) (x : D) : Option Wk := (wkL A x).map fun k => ⟨enumL k.ds, k.gd⟩
theorem walk_enumL {a : Addr} {n : Nat} : Walk (Ite K a) n (fun H => ∃ vs, SqL K H a vs ∧ vs.length = n) (fun i H v H' => ∃ T x, v = .ref T ∧ H T = none ∧ H' = upd H T (.tup [.int (i : Nat), x]) ∧ ∀ xs, SqL K H a xs → xs[i]? = some x) :=
  ⟨fun i _ hi ⟨vs, q, e⟩ => ⟨vs, vs[i]'(by omega), q, by simp [show i < vs.length by omega]⟩, fun _ ⟨vs, q, e⟩ => ⟨vs, q, by omega⟩, fun _ _ _ _ _ _ y => y⟩
theorem sw_enum (h : SimE K ca W te a) : SimI K ca W (iEnum K (tCons te tNil)) (wOf wkE a) := fun F m A σ H env Q R S p => wOf_bind h R S p fun F1 m1 A1 H1 x d kk R1 r hk p1 => by
  cases r with
  | ref hm =>
    rename_i aa i
    unfold wkE wkL at hk
    simp only at hk
    cases hA : A1[i]? with
    | none => simp [hA] at hk
    | some o =>
      cases o with
      | lst l =>
        simp only [hA, Option.map, Option.some.injEq] at hk
        subst hk
        obtain ⟨a', vs, e, h1, h2, h3⟩ := lst_at R1 (.ref hm) hA
        cases e
        refine ⟨aa, vs, rfl, .inl (.inl h2), p1 _ F1 m1 H1 R1 Stp.refl ⟨_, _, walk_enumL, fun F2 m2 A2 H2 hg R2 g2 => ?_, fun i' d' x' F2 m2 A2 H2 H3 e hg R2 g2 y => .inr ?_⟩⟩
        · obtain ⟨a2, vs2, e2, _, h4, h5⟩ := lst_at R2 (.ref (g2.mm.get h1)) hg
          cases e2
          exact ⟨vs2, .inl (.inl h4), by rw [h5.length]; exact enumL_len.symm⟩
        · obtain ⟨a2, vs2, e2, _, h4, h5⟩ := lst_at R2 (.ref (g2.mm.get h1)) hg
          cases e2
          obtain ⟨T, z, y1, y2, y3, y4⟩ := y
          obtain ⟨dx, q1, q2⟩ := enumL_get e
          obtain ⟨w, w1, w2⟩ := h5.get q1
          have := y4 vs2 (.inl (.inl h4))
          rw [w1] at this; cases this
          exact ⟨T, _, _, q2, y1, y2, y3, .cons (.int _) (.cons w2 .nil)⟩
      | dic _ _ _ => simp [hA] at hk
      | obj _ _ => simp [hA] at hk
  | scr s rs =>
    cases hk
    refine ⟨_, _, rfl, R1.fh.l s, p1 _ F1 m1 H1 R1 Stp.refl ⟨_, _, walk_enumL, fun F2 m2 A2 H2 hg R2 g2 => ⟨_, R2.fh.l (g2.ff.l s), by rw [rs.length]; exact enumL_len.symm⟩, fun i' d' x' F2 m2 A2 H2 H3 e hg R2 g2 y => .inr ?_⟩⟩
    obtain ⟨T, z, y1, y2, y3, y4⟩ := y
    obtain ⟨dx, q1, q2⟩ := enumL_get e
    obtain ⟨w, w1, w2⟩ := rs.get q1
    have := y4 _ (R2.fh.l (g2.ff.l s))
    rw [w1] at this; cases this
    exact ⟨T, _, _, q2, y1, y2, y3, .cons (.int _) (.cons (w2.mono g2.ff g2.mm) .nil)⟩
  | _ => cases hk

/-! ### methods of lists -/
def eBL (o : D → List D → Hs → RE D) (a : E) (as : As) : E := fun env A => (a env A).bind fun x A1 => if (seqL A1 x).isSome then (as env A1).bind fun ds A2 => o x ds A2 else .stuck
def eBL0 (o : D → Hs → RE D) (a : E) : E := fun env A => (a env A).bind fun x A1 => if (seqL A1 x).isSome then o x A1 else .stuck
def MbS (K : PySem.W.Frag) (ca : String → Addr) (r : V → List V → Hp → VK → Prop) (o : D → List D → Hs → RE D) : Prop := ∀ F m A H x dx vs ds W σ Q, Rl K ca F m A H → Rep K ca F m x dx → RepL K ca F m vs ds → Po K ca (Rep K ca) F m H W σ Q (o dx ds A) → r x vs H Q
theorem tyL_at {A : Hs} (R : Rl K ca F m A H) (r : Rep K ca F m x dx) (h : (seqL A dx).isSome = true) : tyV K "list" x H := by
  obtain ⟨l, hl⟩ := Option.isSome_iff_exists.mp h
  obtain ⟨a, vs, e, h1, h2⟩ := seqL_at R r hl
  subst e
  exact .inl ⟨rfl, vs, h1⟩
theorem se_bl_ {r : V → List V → Hp → VK → Prop} {o : D → List D → Hs → RE D} (h : MbS K ca r o) (ha : SimE K ca W ta a) (hs : SimA K ca W ts as) : SimE K ca W (tBM K "list" r ta ts) (eBL o a as) := fun F m A σ H env Q R S p =>
  ha.bind R S p fun F1 m1 A1 H1 x dx R1 g1 S1 rx p1 => by
    by_cases q : (seqL A1 dx).isSome = true
    · rw [if_pos q] at p1
      exact ⟨tyL_at R1 rx q, hs.bind R1 S1 p1 fun F2 m2 A2 H2 vs ds R2 g2 S2 rs p2 => h F2 m2 A2 H2 x dx vs ds W σ Q R2 (rx.mono g2.ff g2.mm) rs p2⟩
    · rw [if_neg q] at p1; exact p1.elim
/-- the list that stands at a place -/
def lstAt (A : Hs) : D → Option (Nat × List D)
  | .ref i => match A[i]? with
    | some (.lst l) => some (i, l)
    | _ => none
  | _ => none
theorem lstAt_at {A : Hs} {l : List D} (h : lstAt A dx = some (i, l)) : dx = .ref i ∧ A[i]? = some (.lst l) := by
  cases dx with
  | ref j =>
    unfold lstAt at h
    cases q : A[j]? with
    | none => simp [q] at h
    | some o =>
      cases o with
      | lst l' => simp [q] at h; obtain ⟨rfl, rfl⟩ := h; exact ⟨rfl, q⟩
      | dic _ _ _ => simp [q] at h
      | obj _ _ => simp [q] at h
  | _ => cases h
theorem po_put {v : V} {d : D} {a : Addr} {vs vs' : List V} {l' : List D} (R : Rl K ca F m A H) (ha : m[i]? = some a) (h1 : H a = some (.lst vs)) (r : RepL K ca F m vs' l') (rv : Rep K ca F m v d) (p : Po K ca (Rep K ca) F m H W σ Q (.ok d (A.set i (.lst l')))) : Q v (upd H a (.lst vs')) := by
  obtain ⟨R2, g2⟩ := lst_put R ha h1 r
  exact p _ _ _ _ R2 g2 rv
def oAppend (x : D) (ds : List D) (A : Hs) : RE D := match lstAt A x, ds with
  | some (i, l), [d] => if l.length < sizeLine then .ok .non (A.set i (.lst (l ++ [d]))) else .stuck
  | _, _ => .stuck
theorem ms_append : MbS K ca rAppend oAppend := fun F m A H x dx vs ds W σ Q R rx rs p => by
  unfold oAppend at p
  split at p
  · rename_i i l d hA
    split at p
    · rename_i hl
      obtain ⟨e, hA2⟩ := lstAt_at hA
      subst e
      obtain ⟨a, vs', e, h1, h2, h3⟩ := lst_at R rx hA2
      match vs, rs with
      | [y], .cons r1 .nil => exact ⟨a, vs', y, e, rfl, h2, by rw [h3.length]; exact hl, po_put R h1 h2 (h3.append (.cons r1 .nil)) .non p⟩
    · exact p.elim
  · exact p.elim
def oExtend (x : D) (ds : List D) (A : Hs) : RE D := match lstAt A x, ds with
  | some (i, l), [d] => match lstAt A d with
    | some (_, k) => if l.length + k.length ≤ sizeLine then .ok .non (A.set i (.lst (l ++ k))) else .stuck
    | none => match d with
      | .tup k => if l.length + k.length ≤ sizeLine then .ok .non (A.set i (.lst (l ++ k))) else .stuck
      | _ => .stuck
  | _, _ => .stuck
theorem ms_extend : MbS K ca (rExtA K) oExtend := fun F m A H x dx vs ds W σ Q R rx rs p => by
  unfold oExtend at p
  split at p
  · rename_i i l d hA
    obtain ⟨e, hA2⟩ := lstAt_at hA
    subst e
    obtain ⟨a, vs', e, h1, h2, h3⟩ := lst_at R rx hA2
    match vs, rs with
    | [y], .cons r1 .nil =>
      split at p
      · rename_i j k hB
        split at p
        · rename_i hl
          obtain ⟨e2, hB2⟩ := lstAt_at hB
          subst e2
          obtain ⟨b, ws, e3, h4, h5, h6⟩ := lst_at R r1 hB2
          exact .inl ⟨a, b, vs', ws, e, by rw [e3], h2, h5, by rw [h3.length, h6.length]; exact hl, po_put R h1 h2 (h3.append h6) .non p⟩
        · exact p.elim
      · cases r1 with
        | tup s rs' =>
          simp only at p
          split at p
          · rename_i hl
            exact .inr ⟨a, _, vs', _, e, rfl, h2, R.fh _ _ s, by rw [h3.length, rs'.length]; exact hl, po_put R h1 h2 (h3.append rs') .non p⟩
          · exact p.elim
        | _ => exact p.elim
  · exact p.elim
def oPopAt (x : D) (ds : List D) (A : Hs) : RE D := match lstAt A x, ds with
  | some (i, l), [.int j] => if -(2 ^ 63) ≤ j ∧ j < 2 ^ 63 then match seqIndex? j l.length with
      | some k => match l[k]? with
        | some d => .ok d (A.set i (.lst (l.eraseIdx k)))
        | none => .stuck
      | none => .stuck
    else .stuck
  | _, _ => .stuck
theorem ms_popAt : MbS K ca rPopAt oPopAt := fun F m A H x dx vs ds W σ Q R rx rs p => by
  unfold oPopAt at p
  split at p
  · rename_i i l j hA
    obtain ⟨e, hA2⟩ := lstAt_at hA
    subst e
    obtain ⟨a, vs', e, h1, h2, h3⟩ := lst_at R rx hA2
    split at p
    · rename_i hj
      split at p
      · rename_i k hk
        split at p
        · rename_i d hd
          obtain ⟨v, h4, h5⟩ := h3.get hd
          match vs, rs with
          | [_], .cons (.int _) .nil => exact ⟨a, vs', j, k, v, e, rfl, h2, hj.1, hj.2, by rw [h3.length]; exact hk, h4, po_put R h1 h2 (h3.eraseIdx k) h5 p⟩
        · exact p.elim
      · exact p.elim
    · exact p.elim
  · exact p.elim
def oClear (x : D) (A : Hs) : RE D := match lstAt A x with
  | some (i, _) => .ok .non (A.set i (.lst []))
  | none => .stuck
/-- bs.count(c), bs.index(c), of truths -/
def oCount (x : D) (ds : List D) (A : Hs) : RE D := match (seqL A x).bind boolsOf, ds with
  | some bs, [.bl c] => .ok (.int (bs.count c : Nat)) A
  | _, _ => .stuck
end
end SM

namespace SM
open PySem L2
open DL (Ex ExK rJoin rIdxS)
section
variable {K : PySem.W.Frag} {ca : String → Addr} {F F1 F2 H H1 H2 : Hp} {m m1 m2 : List Addr} {A A1 A2 : Hs} {σ : L2.St} {env : Sl} {W : WX} {Q : VK}
variable {ta tb tc te to ti : TE} {a b c o : E} {i : Nat} {d : D} {ts : TA} {as : As} {x : V} {dx : D}
/-! ### methods of texts, one argument -/
def eSt1 (o : Str → D → Hs → RE D) (a b : E) : E := fun env A => (a env A).bind fun x A1 => match x with
  | .str z => (b env A1).bind fun y A2 => o z y A2
  | _ => .stuck
theorem se_st1 {r : V → List V → Hp → VK → Prop} {f : Str → D → Hs → RE D} (h : ∀ F m A H z y dy W σ Q, Rl K ca F m A H → Rep K ca F m y dy → Po K ca (Rep K ca) F m H W σ Q (f z dy A) → r (.str z) [y] H Q) (ha : SimE K ca W to a) (hb : SimE K ca W te b) : SimE K ca W (tM1 r to te) (eSt1 f a b) := fun F m A σ H env Q R S p =>
  ha.bind R S p fun F1 m1 A1 H1 x dx R1 g1 S1 rx p1 => by
    cases rx with
    | str z => exact ⟨⟨z, rfl⟩, hb.bind R1 S1 p1 fun F2 m2 A2 H2 y dy R2 g2 S2 ry p2 => h F2 m2 A2 H2 z y dy W σ Q R2 ry p2⟩
    | _ => exact p1.elim
/-- z.join(xs) -/
def oJoin (z : Str) (y : D) (A : Hs) : RE D := match (seqA A y).bind strsOf with
  | some ys => if (ys.map (·.length)).sum + ys.length * z.length ≤ 16777216 then .ok (.str (Txt.join z ys)) A else .stuck
  | none => .stuck
theorem se_join (ha : SimE K ca W to a) (hb : SimE K ca W te b) : SimE K ca W (tM1 (rJoin K) to te) (eSt1 oJoin a b) := se_st1 (fun F m A H z y dy W σ Q R ry p => by
  unfold oJoin at p
  split at p
  · rename_i ys hy
    split at p
    · rename_i hl
      obtain ⟨l, h1, h2⟩ := Option.bind_eq_some_iff.mp hy
      have e := strsOf_eq h2
      subst e
      unfold seqA at h1
      split at h1
      · rename_i l' hl'
        cases h1
        obtain ⟨q, ws, e1, h3, h4⟩ := seqL_at R ry hl'
        have e2 := h4.strs
        subst e2
        exact ⟨z, q, ys, rfl, by rw [e1], .inl h3, hl, po_ok R (.str _) p⟩
      · obtain ⟨q, ws, e1, h3, h4⟩ := seqT_at R ry h1
        have e2 := h4.strs
        subst e2
        exact ⟨z, q, ys, rfl, by rw [e1], .inr h3, hl, po_ok R (.str _) p⟩
    · exact p.elim
  · exact p.elim) ha hb
/-! ### methods of dicts -/
def isDic (A : Hs) (x : D) : Bool := (dicAt A x).isSome
theorem isD_of (R : Rl K ca F m A H) (r : Rep K ca F m x dx) (h : isDic A dx = true) : ∃ a, x = .ref a ∧ L2.IsD H a := by
  unfold isDic dicAt at h
  cases r with
  | ref hm =>
    rename_i aa i
    simp only at h
    cases q : A[i]? with
    | none => simp [q] at h
    | some o =>
      cases o with
      | dic t lk l =>
        obtain ⟨a, e, ha, r⟩ := R.at q (.ref hm)
        cases e
        cases t with
        | false => obtain ⟨kvs, h1, _⟩ := r; exact ⟨aa, rfl, .inl ⟨kvs, rdK h1⟩⟩
        | true => obtain ⟨kvs, h1, _⟩ := r; exact ⟨aa, rfl, .inr ⟨kvs, rdK h1⟩⟩
      | lst _ => simp [q] at h
      | obj _ _ => simp [q] at h
  | _ => cases h
def getD (A : Hs) (x y z : D) : Option D := match dicAt A x with
  | some (t, l) => if keyOk t y then some ((kget l y).getD z) else none
  | none => none
def ofO {α : Type} (A : Hs) : Option α → RE α
  | some d => .ok d A
  | none => .stuck
/-- d.get(y, z) -/
def eGet2 (o i e : E) : E := fun env A => (o env A).bind fun x A1 => if isDic A1 x then (i env A1).bind fun y A2 => (e env A2).bind fun z A3 => ofO A3 (getD A3 x y z) else .stuck
/-! ### a dict of the written part -/
inductive TabOk (K : PySem.W.Frag) (w : World) (da : Addr) : List (String × Int) → Prop
  | nil : TabOk K w da []
  | cons {k : String} {k' : Str} {n : Int} {r : List (String × Int)} : k' = fS k → KDct K w da k' (.int n) → TabOk K w da r → TabOk K w da ((k, n) :: r)
theorem TabOk.of {w : World} {da : Addr} {tb : List (String × Int)} (h : TabOk K w da tb) {z : Str} {n : String × Int} (q : (tb.find? fun e => decide (fS e.1 = z)) = some n) : KDct K w da z (.int n.2) := by
  induction h with
  | nil => cases q
  | cons e h1 h2 ih =>
    rename_i k k' n' r
    rw [List.find?_cons] at q
    by_cases c : fS k = z
    · simp only [c, decide_true] at q
      cases q
      rw [← c, ← e]; exact h1
    · simp only [c, decide_false] at q
      exact ih q
end
end SM

namespace DL
open PySem L2
theorem room65w {k : Nat} {A : Around} (r : Room k A) : A.units + 1 < cLine := by have := r.un; omega
end DL
namespace SM
open PySem L2
open DL (Ex ExK)
/-- a written text -/
def dS (s : String) : D := .str (fS s)
section
variable {K : PySem.W.Frag} {ca : String → Addr} {F F1 F2 H H1 H2 : Hp} {m m1 m2 : List Addr} {A A1 A2 A3 : Hs} {σ : L2.St} {env : Sl} {W : WX} {Q : VK}
variable {ta tb tc te to ti tv : TE} {a b c o v : E} {i : Nat} {d : D} {ts : TA} {as : As} {x : V} {dx : D} {cs : List String}
theorem se_strS {x : Str} {s : String} (h : x = fS s) : SimE K ca W (tC (.str x)) (eC (dS s)) := se_c fun _ _ => by subst h; exact .str _
/-- a, b = a list -/
def gL (gs : List G) : G := fun d env A => match seqL A d with
  | some ds => gAll gs ds env A
  | none => none
theorem sg_lst {gs : TGs} {fs : List G} {js : List Nat} {n : Nat} (h : SimGs K ca gs fs js) (hn : fs.length = n) : SimG K ca (gLst K n gs) (gL fs) js := fun F m A σ H env v d env' R S r e Q k => by
  unfold gL at e
  cases hl : seqL A d with
  | none => rw [hl] at e; cases e
  | some ds =>
    rw [hl] at e
    obtain ⟨aa, vs, e1, h1, h2⟩ := seqL_at R r hl
    exact ⟨aa, vs, e1, h1, by rw [h2.length, gAll_len e, hn], h F m A σ H env _ _ env' R S h2 e Q k⟩
/-! ### {k: v, ..} -/
abbrev Dps := Sl → Hs → RE (List (D × D))
def dNil : Dps := fun _ A => .ok [] A
def dCons (k v : E) (r : Dps) : Dps := fun env A => (k env A).bind fun x A1 => (v env A1).bind fun y A2 => (r env A2).bind fun ps A3 => .ok ((x, y) :: ps) A3
def kmerge (l : List (D × D)) : List (D × D) → List (D × D)
  | [] => l
  | (k, v) :: r => kmerge (kput l k v) r
def eDisp (d : Dps) : E := fun env A => (d env A).bind fun ps A1 => if (ps.all fun p => (keyK p.1).isSome) && decide (ps.length ≤ 15) then alloc A1 (.dic false false (kmerge [] ps)) else .stuck
/-! ### op= -/
/-- += : ints, a list longer, a tuple and a tuple, texts -/
def rIAdd (K : PySem.W.Frag) : TIp := fun x y H Q => DL.ipAddT K x y H Q ∨ rAddS x y H Q
theorem ip_addA {X : Cx} {K : PySem.W.Frag} (e : X.K = K := by rfl) : PIp X .Add (rIAdd K) := by
  subst e
  intro pins s σ H x y v u Q I rx ry h
  rcases h with h | h
  · exact DL.ip_addT (X := X) rfl pins s σ H x y v u Q I rx ry h
  · exact in_addS pins s σ H x y v u Q I rx ry h
theorem ia_addA {X : Cx} {K : PySem.W.Frag} (e : X.K = K := by rfl) : InOp X .Add (rIAdd K) := ip_addA e
def oIAdd (x y : D) (A : Hs) : RE D := match x, y with
  | .int i, .int j => .ok (.int (i + j)) A
  | .str z, .str w => if z.length + w.length ≤ sizeLine then .ok (.str (z ++ w)) A else .stuck
  | .tup l, .tup k => if l ≠ [] ∧ l.length + k.length ≤ sizeLine then .ok (.tup (l ++ k)) A else .stuck
  | .ref i, .ref j => match A[i]?, A[j]? with
    | some (.lst l), some (.lst k) => if l.length + k.length ≤ sizeLine then .ok (.ref i) (A.set i (.lst (l ++ k))) else .stuck
    | _, _ => .stuck
  | _, _ => .stuck
theorem ips_add : IpS K ca (rIAdd K) oIAdd := fun F m A H x y dx dy W σ Q R rx ry p => by
  cases rx with
  | int i =>
    cases ry with
    | int j => exact .inl (.inl (.inl ⟨i, j, rfl, rfl, po_ok R (.int _) p⟩))
    | _ => exact p.elim
  | str z =>
    cases ry with
    | str w =>
      unfold oIAdd at p
      simp only at p
      split at p
      · rename_i hl; exact .inr ⟨z, w, rfl, rfl, hl, po_ok R (.str _) p⟩
      · exact p.elim
    | _ => exact p.elim
  | tup s rs =>
    cases ry with
    | tup s' rs' =>
      rename_i a vs l b ws k
      unfold oIAdd at p
      simp only at p
      split at p
      · rename_i hl
        refine .inl (.inr ⟨a, b, vs, ws, rfl, rfl, .inl (.inl (R.fh _ _ s)), .inl (.inl (R.fh _ _ s')), fun z => ?_, by rw [rs.length, rs'.length]; exact hl.2, fun e => ?_, fun _ q hq => ?_⟩)
        · subst z; cases rs; exact hl.1 rfl
        · subst e; cases rs'; rw [List.append_nil] at p; exact po_ok R (.tup s rs) p
        · obtain ⟨R2, g2⟩ := R.new (u := .tup (vs ++ ws)) hq
          exact p _ _ _ _ R2 g2 (.tup upd_same ((rs.append rs').mono g2.ff g2.mm))
      · exact p.elim
    | _ => exact p.elim
  | ref hm =>
    cases ry with
    | ref hm' =>
      rename_i a i b j
      unfold oIAdd at p
      simp only at p
      split at p
      · rename_i l k q1 q2
        split at p
        · rename_i hl
          obtain ⟨a', vs, e1, h1, h2, h3⟩ := lst_at R (.ref hm) q1
          obtain ⟨b', ws, e2, h4, h5, h6⟩ := lst_at R (.ref hm') q2
          rw [e1]
          exact .inl (.inl (.inr ⟨a', b', vs, ws, rfl, e2, h2, h5, by rw [h3.length, h6.length]; exact hl, po_put R h1 h2 (h3.append h6) (.ref h1) p⟩))
        · exact p.elim
      · exact p.elim
    | _ => exact p.elim
  | _ => exact p.elim
theorem ips_sub : IpS K ca (ipI fun i j => i - j) oSub := fun F m A H x y dx dy W σ Q R rx ry p => by
  cases rx with
  | int i =>
    cases ry with
    | int j => exact ⟨i, j, rfl, rfl, po_ok R (.int _) p⟩
    | _ => exact p.elim
  | _ => exact p.elim
theorem ia_subA {X : Cx} : InOp X .Sub (ipI fun i j => i - j) := fun pins s σ H x y u v Q I rx ry ⟨i, j, e1, e2, q⟩ => in_sub pins s σ H x y u v Q I rx ry ⟨i, j, e1, e2, q⟩
/-- o.f op= e -/
theorem ss_flaug {C : String} {r : TIp} {op : D → D → Hs → RE D} {f : String} {f' : Str} (hf : f' = fS f) (kc : NoF K ca [C] f') (hop : IpS K ca r op) (ho : SimE K ca W to o) (hv : SimE K ca W tv v) : SimS K ca W (sFldAug K to tv r f') (sFlAug [C] f op o v) := fun F m A σ H env Dn R S p =>
  ofE_bind ho R S p fun F1 m1 A1 H1 x dx R1 g1 S1 rx p1 => by
    cases q : getFld [C] f A1 dx with
    | none => simp only [q] at p1; exact p1.elim
    | some d =>
      simp only [q] at p1
      obtain ⟨a, Ca, dxx, kvs, w, hC, e, h1, h2, h3, h4, h5⟩ := getFld_at hf R1 rx kc q
      rw [List.mem_singleton] at hC
      subst hC
      refine ⟨a, _, dxx, kvs, w, e, h1, h2, h3, h4, ofE_bind hv R1 S1 p1 fun F2 m2 A2 H2 y dy R2 g2 S2 ry p2 => ?_⟩
      refine hop F2 m2 A2 H2 w y d dy W σ _ R2 (h5.mono g2.ff g2.mm) ry (po_ofE S2 p2 fun F3 m3 A3 H3 z dz R3 g3 S3 rz p3 => ?_)
      cases q2 : setFld [Ca] A3 dx f dz with
      | none => simp only [q2] at p3; exact p3.elim
      | some A4 =>
        simp only [q2] at p3
        obtain ⟨a2, Ca2, dx2, kvs2, hC2, e2, k1, k2, k3, k4, R4, g4⟩ := setFld_at hf R3 (rx.mono (g2.trans g3).ff (g2.trans g3).mm) rz kc q2
        rw [e] at e2; cases e2
        rw [List.mem_singleton] at hC2
        subst hC2
        exact ⟨dx2, kvs2, k1, by omega, p3 F3 m3 σ _ R4 g4 S3⟩
/-! ### d[k] op= e, xs[i] op= e -/
/-- a dict's item -/
def sDAugP (op : D → D → Hs → RE D) (o i a : E) : S := fun env A => ofE env (o env A) fun x A1 => ofE env (i env A1) fun y A2 => ofE env (oDGet x y A2) fun z A3 => ofE env (a env A3) fun v A4 => ofE env (op z v A4) fun r A5 => if isLst A5 x then .stuck else ofH env (setIt A5 x y r)
/-- a list's item, by a place from 0 on -/
def getN (A : Hs) (x y : D) : Option D := match seqL A x, y with
  | some l, .int i => if 0 ≤ i then l[i.toNat]? else none
  | _, _ => none
def sLAugP (op : D → D → Hs → RE D) (o i a : E) : S := fun env A => ofE env (o env A) fun x A1 => ofE env (i env A1) fun y A2 => match getN A2 x y with
  | some z => ofE env (a env A2) fun v A4 => ofE env (op z v A4) fun r A5 => if isLst A5 x then ofH env (setIt A5 x y r) else .stuck
  | none => .stuck
/-! ### min of three -/
def c3 (f : D → D → D → Hs → RE D) : List D → Hs → RE D := fun ds A => match ds with
  | [d, e, g] => f d e g A
  | _ => .stuck
def oMin3 (x y z : D) (A : Hs) : RE D := match x, y, z with
  | .int i, .int j, .int k => .ok (.int (min (min i j) k)) A
  | _, _, _ => .stuck
theorem cs_min3 : CbS K ca (rNuC3 nuMin3) (c3 oMin3) := fun F m A H xs ds W σ Q R rs p => by
  unfold c3 at p
  split at p
  · rename_i d e g
    unfold oMin3 at p
    split at p
    · rename_i i j k
      cases rs with
      | cons r1 rs => cases rs with
        | cons r2 rs => cases rs with
          | cons r3 rs =>
            cases rs; cases r1; cases r2; cases r3
            refine ⟨.int i, .int j, .int k, .int (min (min i j) k), rfl, ?_, po_ok R (.int _) p⟩
            have h1 : ∀ i j : Int, nuMin2 (.int i) (.int j) = some (.int (min i j)) := fun i j => by
              show (some (decide (j < i))).map _ = _
              by_cases q : j < i
              · simp only [q, decide_true, Option.map, if_true, Option.some.injEq, V.int.injEq]; omega
              · simp only [q, decide_false, Option.map, Bool.false_eq_true, if_false, Option.some.injEq, V.int.injEq]; omega
            unfold nuMin3
            rw [h1]
            exact h1 _ _
    · exact p.elim
  · exact p.elim
end
theorem call_min3U {X : Cx} (hc : X.calm = true) : CallR X (.builtin "min") (rNuC3 nuMin3) := call_min3Nu hc
end SM

/-! ## equations for the plain functions -/
namespace SM
open PySem L2
section
variable {α β : Type} {A A1 A2 A3 : Hs} {env e1 e2 : Sl} {a b c o v : E} {as : As} {d d1 d2 x y z : D} {i j k n : Nat} {p q r : Int} {C : String} {f g : S} {F : Fn} {cs os xs : List String} {tb : List (String × String × Bool)} {l l1 l2 : List D} {fs : List (String × D)}
theorem z35 {x : α} {f : α → Hs → RE β} : (RE.ok x A).bind f = f x A := rfl
theorem z1s {f : α → Hs → RE β} : (RE.exc C A : RE α).bind f = .exc C A := rfl
theorem z09 {f : α → Hs → RE β} : (RE.stuck : RE α).bind f = .stuck := rfl
theorem z5x {x : α} : (RE.ok x A).noX = .ok x A := rfl
theorem z41 : (RE.exc C A : RE α).noX = .stuck := rfl
theorem z4j {e : Sl} : eVar 0 (some d :: e) A = .ok d A := rfl
theorem z4w {e : Sl} {s : Option D} : eVar (n + 1) (s :: e) A = eVar n e A := rfl
theorem eC_ : eC d env A = .ok d A := rfl
theorem z87 {o : D → D → Hs → RE D} : eOp o a b env A = (a env A).bind fun x A1 => (b env A1).bind fun y A2 => o x y A2 := rfl
theorem z9q {o : D → Hs → RE D} : eUn o a env A = (a env A).bind fun x A1 => o x A1 := rfl
theorem z6h : aNil env A = .ok [] A := rfl
theorem z5v : aCons a as env A = (a env A).bind fun x A1 => (as env A1).bind fun xs A2 => .ok (x :: xs) A2 := rfl
theorem z9b {f : List D → Hs → RE D} : eCB f as env A = (as env A).bind f := rfl
theorem z4z : eCall F as env A = (as env A).bind F := rfl
theorem z3t : eCall0 F as env A = (as env A).bind fun ds A1 => (F ds A1).noX := rfl
theorem c1_ {f : D → Hs → RE D} : c1 f [d] A = f d A := rfl
theorem c2_ {f : D → D → Hs → RE D} : c2 f [d, d1] A = f d d1 A := rfl
theorem c3_ {f : D → D → D → Hs → RE D} : c3 f [d, d1, d2] A = f d d1 d2 A := rfl
/-- a truth, or stuck -/
def bl_ {α : Type} (r : RE D) (k : Bool → Hs → RE α) : RE α := match r with
  | .ok (.bl c) A => k c A
  | .ok _ _ => .stuck
  | .exc C A => .exc C A
  | .stuck => .stuck
theorem z7c {c : Bool} {k : Bool → Hs → RE α} : bl_ (.ok (.bl c) A) k = k c A := rfl
theorem z5c {k : Bool → Hs → RE α} : bl_ (.exc C A) k = .exc C A := rfl
theorem z72 : eAnd a b env A = bl_ (a env A) fun c A1 => if c = true then b env A1 else .ok (.bl false) A1 := by
  unfold eAnd bl_ RE.bind
  cases a env A with
  | ok x A1 => cases x with
    | bl c => cases c <;> rfl
    | _ => rfl
  | _ => rfl
theorem z9n : eOr a b env A = bl_ (a env A) fun c A1 => if c = true then .ok (.bl true) A1 else b env A1 := by
  unfold eOr bl_ RE.bind
  cases a env A with
  | ok x A1 => cases x with
    | bl c => cases c <;> rfl
    | _ => rfl
  | _ => rfl
theorem z6s : eNot a env A = bl_ (a env A) fun c A1 => .ok (.bl (!c)) A1 := by
  unfold eNot bl_ RE.bind
  cases a env A with
  | ok x A1 => cases x <;> rfl
  | _ => rfl
theorem z8p {o o' : D → D → Hs → RE D} : eCh o o' a b c env A = (a env A).bind fun x A1 => (b env A1).bind fun y A2 => bl_ (o x y A2) fun k A3 => if k = true then (c env A3).bind fun w A4 => o' y w A4 else .ok (.bl false) A3 := by
  unfold eCh bl_ RE.bind
  cases a env A with
  | ok x A1 =>
    simp only
    cases b env A1 with
    | ok y A2 =>
      simp only
      cases o x y A2 with
      | ok z A3 => cases z with
        | bl k => cases k <;> rfl
        | _ => rfl
      | _ => rfl
    | _ => rfl
  | _ => rfl
theorem z84 : tOf a env A = bl_ (a env A) fun c A1 => .ok c A1 := by
  unfold tOf bl_ RE.bind
  cases a env A with
  | ok x A1 => cases x <;> rfl
  | _ => rfl
theorem z94 {s t : Tt} : tAn s t env A = (s env A).bind fun c A1 => if c = true then t env A1 else .ok false A1 := rfl
theorem z8j {s t : Tt} : tOo s t env A = (s env A).bind fun c A1 => if c = true then .ok true A1 else t env A1 := rfl
theorem z85 {s : Tt} : tNo s env A = (s env A).bind fun c A1 => .ok (!c) A1 := rfl
theorem z9i : tYe env A = .ok true A := rfl
theorem z9k {s : Tt} : eIf s a b env A = (s env A).bind fun c A1 => if c = true then a env A1 else b env A1 := rfl
theorem z6o : eTup as env A = (as env A).bind fun ds A1 => if ds.length ≤ sizeLine then .ok (.tup ds) A1 else .stuck := rfl
theorem z6p : eLst as env A = (as env A).bind fun ds A1 => if ds.length ≤ sizeLine then .ok (.ref A1.length) (A1 ++ [.lst ds]) else .stuck := rfl
theorem z0l {n : Nat} (h : n ≤ 16000000) : n ≤ sizeLine := by rw [sizeLine_eq]; omega
theorem small_line' {n : Nat} (h : n < 16000000) : n < sizeLine := by rw [sizeLine_eq]; omega
theorem z68 {t : Bool} : eDNew t env A = .ok (.ref A.length) (A ++ [.dic t false []]) := rfl
theorem z91 : oNo env A = .ok none A := rfl
def int_ {α : Type} (r : RE D) (k : Int → Hs → RE α) : RE α := match r with
  | .ok (.int c) A => k c A
  | .ok _ _ => .stuck
  | .exc C A => .exc C A
  | .stuck => .stuck
theorem z5k {c : Int} {k : Int → Hs → RE α} : int_ (.ok (.int c) A) k = k c A := rfl
theorem z8b : oSo a env A = int_ (a env A) fun c A1 => .ok (some c) A1 := by
  unfold oSo int_ RE.bind
  cases a env A with
  | ok x A1 => cases x <;> rfl
  | _ => rfl
theorem z8s {o : D → Option Int → Option Int → Hs → RE D} {lo hi : Sl → Hs → RE (Option Int)} : eSl o a lo hi env A = (a env A).bind fun x A1 => (lo env A1).bind fun l A2 => (hi env A2).bind fun h A3 => o x l h A3 := rfl
/-! statements -/
def seqR (r : RS) (b : S) : RS := match r with
  | .nx env' A' => b env' A'
  | r => r
theorem z7y : sSeq f g env A = seqR (f env A) g := rfl
theorem z56 : seqR (.nx env A) g = g env A := rfl
theorem z5w : seqR (.rt d A) g = .rt d A := rfl
theorem z2v : seqR (.exc C env A) g = .exc C env A := rfl
theorem z57 : seqR (.bk env A) g = .bk env A := rfl
theorem z4h : seqR (.ct env A) g = .ct env A := rfl
theorem z1f : seqR .stuck g = .stuck := rfl
theorem z90 : sNx env A = .nx env A := rfl
theorem z8i : sBk env A = .bk env A := rfl
theorem z9g : sCt env A = .ct env A := rfl
theorem z3u : sRaise C env A = .exc C env A := rfl
theorem z5i {k : D → Hs → RS} : ofE env (.ok d A) k = k d A := rfl
theorem z4f {k : D → Hs → RS} : ofE env (.exc C A) k = .exc C env A := rfl
theorem z60 {c : Bool} {k : Bool → Hs → RS} : ofT env (.ok c A) k = k c A := rfl
theorem z40 {k : Bool → Hs → RS} : ofT env (.exc C A) k = .exc C env A := rfl
theorem z5e : sDrop a env A = ofE env (a env A) fun _ A1 => .nx env A1 := rfl
theorem z81 : sRet a env A = ofE env (a env A) fun d A1 => .rt d A1 := rfl
theorem z5l : sRetN env A = .rt .non A := rfl
theorem z8v {t : Tt} : sIf t f g env A = ofT env (t env A) fun c A1 => if c = true then f env A1 else g env A1 := rfl
theorem z7k : sSet i a env A = ofE env (a env A) fun d A1 => .nx (env.set i (some d)) A1 := rfl
def ofS (r : Option Sl) (A : Hs) : RS := match r with
  | some env' => .nx env' A
  | none => .stuck
theorem z2l : ofS (some env) A = .nx env A := rfl
theorem z7m {g : G} : sAsg a g env A = ofE env (a env A) fun d A1 => ofS (g d env A1) A1 := by
  unfold sAsg ofS; rfl
theorem gN_ : gN i d env A = some (env.set i (some d)) := rfl
theorem z63 {gs : List G} : gT gs (.tup l) env A = gAll gs l env A := rfl
theorem z2g : gAll [] [] env A = some env := rfl
theorem z1k {g : G} {gs : List G} : gAll (g :: gs) (d :: l) env A = (g d env A).bind fun e => gAll gs l e A := by
  rw [gAll]; cases g d env A <;> rfl
theorem gL_ {gs : List G} (h : seqL A x = some l) : gL gs x env A = gAll gs l env A := by unfold gL; rw [h]
def par_ (env : Sl) (i j : Nat) (r : RE (List D)) : RS := match r with
  | .ok [x, y] A1 => .nx ((env.set i (some x)).set j (some y)) A1
  | .exc C A1 => .exc C env A1
  | _ => .stuck
theorem z7u : sPar i j as env A = par_ env i j (as env A) := rfl
theorem z4q : par_ env i j (.ok [x, y] A) = .nx ((env.set i (some x)).set j (some y)) A := rfl
def var_ (env : Sl) (i : Nat) (k : D → RS) : RS := match env[i]? with
  | some (some x) => k x
  | _ => .stuck
theorem z79 {e : Sl} {k : D → RS} : var_ (some d :: e) 0 k = k d := rfl
theorem z6j {e : Sl} {s : Option D} {k : D → RS} : var_ (s :: e) (n + 1) k = var_ e n k := rfl
theorem z6l {o : D → D → Hs → RE D} : sAug i o a env A = var_ env i fun x => ofE env (a env A) fun y A1 => ofE env (o x y A1) fun z A2 => .nx (env.set i (some z)) A2 := rfl
def finR (r : RS) : RE D := match r with
    | .nx _ A' => .ok .non A'
    | .rt d A' => .ok d A'
    | .exc C _ A' => .exc C A'
    | _ => .stuck
theorem z51 : finR (.nx env A) = .ok .non A := rfl
theorem z6d : finR (.rt d A) = .ok d A := rfl
theorem z3g : finR (.exc C env A) = .exc C A := rfl
theorem z18 : finR .stuck = .stuck := rfl
theorem z7f (h : l.length = n) : mkFn n k f l A = finR (f (l.map some ++ List.replicate (k - n) none) A) := by
  unfold mkFn; rw [if_pos h]; unfold finR; rfl
theorem z6v {e : Sl} {s t : Option D} : List.set (s :: e) 0 t = t :: e := rfl
theorem z71 {e : Sl} {s t : Option D} : List.set (s :: e) (n + 1) t = s :: List.set e n t := rfl
/-! operators -/
theorem z5f : oAdd (.int p) (.int q) A = .ok (.int (p + q)) A := rfl
theorem z4u (h : l.length + l1.length ≤ 16000000) : oAdd (.tup l) (.tup l1) A = .ok (.tup (l ++ l1)) A := by
  unfold oAdd; simp only; rw [if_pos (z0l h)]
theorem z4m {s t : Str} (h : s.length + t.length ≤ 16000000) : oAdd (.str s) (.str t) A = .ok (.str (s ++ t)) A := by
  unfold oAdd; simp only; rw [if_pos (z0l h)]
theorem z6c : oSub (.int p) (.int q) A = .ok (.int (p - q)) A := rfl
theorem z5q (h : -18446744073709551616 < q ∧ q < 18446744073709551616) : oMul (.int p) (.int q) A = .ok (.int (p * q)) A := by
  unfold oMul; simp only; rw [if_pos (.inl (.inr ⟨by have := h.1; omega, by have := h.2; omega⟩))]
theorem z4v (h : -18446744073709551616 < p ∧ p < 18446744073709551616) : oMul (.int p) (.int q) A = .ok (.int (p * q)) A := by
  unfold oMul; simp only; rw [if_pos (.inl (.inl ⟨by have := h.1; omega, by have := h.2; omega⟩))]
theorem z4o (h : l.length ≤ 1000 ∧ -1000 ≤ q ∧ q ≤ 4000) : oMul (.tup l) (.int q) A = .ok (.tup (List.replicate q.toNat l).flatten) A := by
  unfold oMul; simp only; rw [if_pos h]
theorem log_small {q : Int} (h : 0 < q ∧ q < 18446744073709551616) : q.natAbs.log2 < 9000 := by
  have : q.natAbs < 2 ^ 64 := by omega
  by_cases z : q.natAbs = 0
  · rw [z]; decide
  · have := (Nat.log2_lt z).mpr this; omega
theorem z4x (h : 0 < q ∧ q < 18446744073709551616) : oDiv (.int p) (.int q) A = .ok (.int (p / q)) A := by
  unfold oDiv oII; simp only; rw [if_pos ⟨h.1, log_small h⟩]
theorem z62 (h : 0 < q) : oMod (.int p) (.int q) A = .ok (.int (p % q)) A := by
  unfold oMod oII; simp only; rw [if_pos h]
theorem z5z (h : 0 ≤ q ∧ q ≤ 1000000 ∧ p.natAbs < 18446744073709551616) : oPow (.int p) (.int q) A = .ok (.int (p ^ q.toNat)) A := by
  unfold oPow oII; simp only; rw [if_pos ⟨h.1, h.2.1, by have := h.2.2; omega⟩]
theorem z7d : oLt (.int p) (.int q) A = .ok (.bl (decide (p < q))) A := rfl
theorem z6w : oLe (.int p) (.int q) A = .ok (.bl (decide (p ≤ q))) A := rfl
theorem z83 : oGt (.int p) (.int q) A = .ok (.bl (decide (q < p))) A := rfl
theorem z7n : oGe (.int p) (.int q) A = .ok (.bl (decide (q ≤ p))) A := rfl
theorem z6a : oNeg (.int p) A = .ok (.int (-p)) A := rfl
theorem z4g : oMax2 (.int p) (.int q) A = .ok (.int (max p q)) A := by
  show RE.ok (D.int (if q > p then q else p)) A = _
  congr 2; omega
theorem z3i : oMin2 (.int p) (.int q) A = .ok (.int (min p q)) A := by
  show RE.ok (D.int (if q < p then q else p)) A = _
  congr 2; omega
theorem z4e : oMin3 (.int p) (.int q) (.int r) A = .ok (.int (min (min p q) r)) A := rfl
theorem z53 : oInt (.int p) A = .ok (.int p) A := rfl
theorem z54 {b : Bool} : oInt (.bl b) A = .ok (.int (if b then 1 else 0)) A := rfl
theorem z6z : oEq (.int p) (.int q) A = .ok (.bl (decide (p = q))) A := by
  unfold oEq oB eqA; simp [pyA, PyData.eqv]; rfl
theorem z7b : oNe (.int p) (.int q) A = .ok (.bl (!decide (p = q))) A := by
  unfold oNe oB eqA; simp [pyA, PyData.eqv]; rfl
theorem z3c {s t : Str} : oEq (.str s) (.str t) A = .ok (.bl (decide (s = t))) A := by
  unfold oEq oB eqA; simp [pyA, PyData.eqv]; rfl
theorem z43 {s t : Str} : oNe (.str s) (.str t) A = .ok (.bl (!decide (s = t))) A := by
  unfold oNe oB eqA; simp [pyA, PyData.eqv]; rfl
theorem z6f {s t : String} : oEq (dS s) (dS t) A = .ok (.bl (decide (s = t))) A := by
  unfold dS; rw [z3c]; congr 3; exact propext fS_inj
theorem z73 {s t : String} : oNe (dS s) (dS t) A = .ok (.bl (!decide (s = t))) A := by
  unfold dS; rw [z43]; congr 4; exact propext fS_inj
theorem eqA_of {b : Bool} (h : eqA A x y = some b) : oEq x y A = .ok (.bl b) A := by unfold oEq oB; rw [h]
theorem neA_of {b : Bool} (h : eqA A x y = some b) : oNe x y A = .ok (.bl (!b)) A := by unfold oNe oB; simp only [h]; rfl
theorem z4d : oIs x .non A = .ok (.bl (isNon x)) A := rfl
theorem z0m : oIsNot x .non A = .ok (.bl (!isNon x)) A := rfl
theorem z69 {b c : Bool} : oIs (.bl b) (.bl c) A = .ok (.bl (decide (b = c))) A := rfl
theorem z1i {b c : Bool} : oIsNot (.bl b) (.bl c) A = .ok (.bl (!decide (b = c))) A := rfl
theorem z1d : isNon .non = true := rfl
theorem z0x : isNon (.int p) = false := rfl
theorem z2a {b : Bool} : isNon (.bl b) = false := rfl
theorem z0w : isNon (.ref i) = false := rfl
theorem z17 : isNon (.tup l) = false := rfl
theorem z0r {s : Str} : isNon (.str s) = false := rfl
theorem z1z {s : String} : isNon (dS s) = false := rfl
theorem z1a : isNon (.exc C) = false := rfl
theorem z0t : oIsi os xs tb (.int p) (.ty "int") A = .ok (.bl true) A := rfl
theorem z0i : oIsi os xs tb (.int p) (.ty "bool") A = .ok (.bl false) A := rfl
theorem z13 {b : Bool} : oIsi os xs tb (.bl b) (.ty "int") A = .ok (.bl true) A := rfl
theorem z0b {b : Bool} : oIsi os xs tb (.bl b) (.ty "bool") A = .ok (.bl true) A := rfl
theorem z1h : oIsi os xs tb .non (.ty "int") A = .ok (.bl false) A := rfl
theorem z08 : oIsi os xs tb .non (.ty "bool") A = .ok (.bl false) A := rfl
theorem z1l : oIsi os xs tb .non (.ty "str") A = .ok (.bl false) A := rfl
theorem z03 : oIsi os xs tb .non (.ty "tuple") A = .ok (.bl false) A := rfl
theorem z0d : oIsi os xs tb .non (.ty "list") A = .ok (.bl false) A := rfl
theorem z0v {s : Str} : oIsi os xs tb (.str s) (.ty "int") A = .ok (.bl false) A := rfl
theorem z0e {s : Str} : oIsi os xs tb (.str s) (.ty "bool") A = .ok (.bl false) A := rfl
theorem z1g {s : Str} : oIsi os xs tb (.str s) (.ty "str") A = .ok (.bl true) A := rfl
theorem z02 {s : Str} : oIsi os xs tb (.str s) (.ty "tuple") A = .ok (.bl false) A := rfl
theorem z0y : oIsi os xs tb (.tup l) (.ty "int") A = .ok (.bl false) A := rfl
theorem z0n : oIsi os xs tb (.tup l) (.ty "bool") A = .ok (.bl false) A := rfl
theorem z06 : oIsi os xs tb (.tup l) (.ty "tuple") A = .ok (.bl true) A := rfl
theorem z0j : oIsi os xs tb (.tup l) (.ty "list") A = .ok (.bl false) A := rfl
theorem z1j : oIsi os xs tb (.tup l) (.ty "str") A = .ok (.bl false) A := rfl
theorem z07 : oIsi os xs tb (.int p) (.ty "tuple") A = .ok (.bl false) A := rfl
theorem z1b : oIsi os xs tb (.int p) (.ty "str") A = .ok (.bl false) A := rfl
theorem z0f : oIsi os xs tb (.int p) (.ty "list") A = .ok (.bl false) A := rfl
theorem z05 {b : Bool} : oIsi os xs tb (.bl b) (.ty "tuple") A = .ok (.bl false) A := rfl
theorem z19 {b : Bool} : oIsi os xs tb (.bl b) (.ty "str") A = .ok (.bl false) A := rfl
/-! the heap -/
theorem seqL_ref (h : A[i]? = some (.lst l)) : seqL A (.ref i) = some l := by unfold seqL; simp only [h]
theorem z28 : seqL A (.scr l) = some l := rfl
theorem z23 : seqL A (.tup l) = none := rfl
theorem z2m {s : Str} : seqL A (.str s) = none := rfl
theorem z4n : oLen (.tup l) A = .ok (.int l.length) A := rfl
theorem z5g {s : Str} (h : s.length ≤ 16000000) : oLen (.str s) A = .ok (.int s.length) A := by
  unfold oLen lenA; simp only [seqL, seqT]; rw [if_pos (z0l h)]
theorem z2k : oTuple (.tup l) A = .ok (.tup l) A := rfl
theorem z36 : oList (.tup l) A = .ok (.ref A.length) (A ++ [.lst l]) := rfl
theorem z82 {lo hi : Option Int} : oSl (.tup l) lo hi A = .ok (.tup (cutD l lo hi)) A := rfl
def fld_ (r : Option D) (A : Hs) : RE D := match r with
  | some d => .ok d A
  | none => .stuck
theorem z2r : fld_ (some d) A = .ok d A := rfl
theorem z7o {f : String} : eFld cs f a env A = (a env A).bind fun x A1 => fld_ (getFld cs f A1 x) A1 := rfl
theorem z9h {f : String} : sFl cs f o a env A = ofE env (a env A) fun d A1 => ofE env (o env A1) fun x A2 => ofH env (setFld cs A2 x f d) := by
  unfold sFl ofH; rfl
theorem z2f : ofH env (some A) = .nx env A := rfl
theorem z3b {f : String} {op : D → D → Hs → RE D} : sFlAug cs f op o a env A = ofE env (o env A) fun x A1 => ofE env (fld_ (getFld cs f A1 x) A1) fun v A1 => ofE env (a env A1) fun y A2 => ofE env (op v y A2) fun z A3 => ofH env (setFld cs A3 x f z) := by
  unfold sFlAug ofH
  congr
  funext x A1
  cases getFld cs f A1 x <;> rfl
theorem z1n {f : String} : putF f d [] = [(f, d)] := rfl
theorem z1m {f g : String} : putF f d ((g, x) :: fs) = if g = f then (g, d) :: fs else (g, x) :: putF f d fs := rfl
theorem z3p : oIAdd (.int p) (.int q) A = .ok (.int (p + q)) A := rfl
def meth_ (r : Option Fn) (k : Fn → RE D) : RE D := match r with
  | some f => k f
  | none => .stuck
theorem z0u {k : Fn → RE D} : meth_ (some F) k = k F := rfl
theorem z5h {m : String} {t : List (String × Fn)} : eMeth m t o as env A = (o env A).bind fun x A1 => meth_ (methOf m t A1 x) fun f => (as env A1).bind fun ds A2 => f (x :: ds) A2 := by
  unfold eMeth meth_; rfl
theorem z3z {m : String} {t : List (String × Fn)} : eMeth0 m t o as env A = (o env A).bind fun x A1 => meth_ (methOf m t A1 x) fun f => (as env A1).bind fun ds A2 => (f (x :: ds) A2).noX := by
  unfold eMeth0 meth_; rfl
theorem make_ok {ds : List D} (h : F (.ref A.length :: ds) (A ++ [.obj C []]) = .ok .non A1) : make C F ds A = .ok (.ref A.length) A1 := by unfold make; rw [h]
theorem z4i : eMake C F as env A = (as env A).bind fun ds A1 => make C F ds A1 := rfl
theorem z42 : eMake0 C F as env A = (as env A).bind fun ds A1 => (make C F ds A1).noX := rfl
theorem z70 : sPut o b a env A = ofE env (a env A) fun v A1 => ofE env (o env A1) fun x A2 => ofE env (b env A2) fun y A3 => ofH env (setIt A3 x y v) := rfl
theorem z39 {s : String} : keyOk false (dS s) = true := rfl
theorem z3x : keyOk false (.int p) = true := rfl
theorem z64 {s t : String} : keq (dS s) (dS t) = decide (s = t) := by
  show decide (fS s = fS t) = decide (s = t)
  simp only [fS_inj]
theorem z4k : keq (.int p) (.int q) = decide (p = q) := rfl
def augL_ (env : Sl) (r : Option D) (k : D → RS) : RS := match r with
  | some z => k z
  | none => .stuck
theorem z1e {k : D → RS} : augL_ env (some d) k = k d := rfl
theorem z49 {op : D → D → Hs → RE D} : sLAugP op o b a env A = ofE env (o env A) fun x A1 => ofE env (b env A1) fun y A2 => augL_ env (getN A2 x y) fun z => ofE env (a env A2) fun v A4 => ofE env (op z v A4) fun r A5 => if isLst A5 x then ofH env (setIt A5 x y r) else .stuck := by
  unfold sLAugP augL_; rfl
theorem z3v {op : D → D → Hs → RE D} : sDAugP op o b a env A = ofE env (o env A) fun x A1 => ofE env (b env A1) fun y A2 => ofE env (oDGet x y A2) fun z A3 => ofE env (a env A3) fun v A4 => ofE env (op z v A4) fun r A5 => if isLst A5 x then .stuck else ofH env (setIt A5 x y r) := rfl
/-! methods of lists -/
theorem z9f {o : D → List D → Hs → RE D} : eBL o a as env A = (a env A).bind fun x A1 => if (seqL A1 x).isSome then (as env A1).bind fun ds A2 => o x ds A2 else .stuck := rfl
theorem z7r {o : D → Hs → RE D} : eBL0 o a env A = (a env A).bind fun x A1 => if (seqL A1 x).isSome then o x A1 else .stuck := rfl
/-! walks -/
def ofW (env : Sl) (r : RE Wk) (k : Wk → Hs → RS) : RS := match r with
  | .ok w A => k w A
  | .exc C A => .exc C env A
  | .stuck => .stuck
theorem z6b {w : Wk} {k : Wk → Hs → RS} : ofW env (.ok w A) k = k w A := rfl
theorem z6x {w : Sl → Hs → RE Wk} {g : G} : sFor w g f env A = ofW env (w env A) fun k A1 => forL g f k.gd k.ds env A1 := by unfold sFor ofW; rfl
def wk_ (r : Option Wk) (A : Hs) : RE Wk := match r with
  | some k => .ok k A
  | none => .stuck
theorem z3l {w : Wk} : wk_ (some w) A = .ok w A := rfl
theorem z8l {f : Hs → D → Option Wk} : wOf f a env A = (a env A).bind fun x A1 => wk_ (f A1 x) A1 := by unfold wOf wk_; rfl
theorem z6n : wSeq a env A = (a env A).bind fun x A1 => wk_ (wkA A1 x) A1 := z8l
theorem z8n {f : List D → Option Wk} : wAs f as env A = (as env A).bind fun x A1 => wk_ (f x) A1 := by unfold wAs wk_; rfl
theorem z4a : wkA A (.tup l) = some ⟨l, tt⟩ := rfl
theorem z38 : wkA A (.scr l) = some ⟨l, tt⟩ := rfl
theorem z47 : wkE A (.scr l) = some ⟨enumL l, tt⟩ := rfl
theorem z99 (h : -4611686018427387904 ≤ p ∧ p < 4611686018427387904) : rg1 [.int p] = some ⟨rgL 0 1 p.toNat, tt⟩ := by
  unfold rg1; simp only; rw [if_pos ⟨by have := h.1; omega, by have := h.2; omega⟩]
theorem z9l (h : -4611686018427387904 ≤ p ∧ p < 4611686018427387904 ∧ -4611686018427387904 ≤ q ∧ q < 4611686018427387904) : rg2 [.int p, .int q] = some ⟨rgL p 1 (q - p).toNat, tt⟩ := by
  unfold rg2; simp only; rw [if_pos ⟨⟨by have := h.1; omega, by have := h.2.1; omega⟩, ⟨by have := h.2.2.1; omega, by have := h.2.2.2; omega⟩⟩]
theorem z98 (h : -1152921504606846976 ≤ p ∧ p < 1152921504606846976 ∧ -1152921504606846976 ≤ q ∧ q < 1152921504606846976 ∧ 0 < r ∧ r < 1000000) : rg3 [.int p, .int q, .int r] = some ⟨rgL p r (cnt p q r), tt⟩ := by
  unfold rg3; simp only; rw [if_pos ⟨by have := h.1; omega, by have := h.2.1; omega, by have := h.2.2.1; omega, by have := h.2.2.2.1; omega, h.2.2.2.2.1, h.2.2.2.2.2⟩]
theorem forL_nil {g : G} {gd : Hs → Prop} (h : gd A) : forL g f gd [] env A = .nx env A := by unfold forL; rw [if_pos h]
def turnR (r : RS) (k : S) : RS := match r with
  | .nx e A => k e A
  | .ct e A => k e A
  | .bk e A => .nx e A
  | r => r
theorem z33 {k : S} : turnR (.nx env A) k = k env A := rfl
theorem z3o {k : S} : turnR (.ct env A) k = k env A := rfl
theorem z3k {k : S} : turnR (.rt d A) k = .rt d A := rfl
theorem z3q {k : S} : turnR (.bk env A) k = .nx env A := rfl
theorem z2c {k : S} : turnR (.exc C env A) k = .exc C env A := rfl
theorem forL_cons {g : G} {gd : Hs → Prop} (h : gd A) (hg : g d env A = some e1) : forL g f gd (d :: l) env A = turnR (f e1 A) (forL g f gd l) := by
  rw [forL]; rw [if_pos h, hg]; rfl
/-- a for by what stays true -/
theorem for_inv {g : G} {gd : Hs → Prop} (I : Nat → Sl → Hs → Prop) (R : RS → Prop) {ds : List D} (h0 : I 0 env A) (hg : ∀ i e A, i ≤ ds.length → I i e A → gd A)
    (hs : ∀ i e A d, ds[i]? = some d → I i e A → ∃ e1, g d e A = some e1 ∧ ((∃ e2 A2, (f e1 A = .nx e2 A2 ∨ f e1 A = .ct e2 A2) ∧ I (i + 1) e2 A2) ∨ (∃ d2 A2, f e1 A = .rt d2 A2 ∧ R (.rt d2 A2)) ∨ (∃ e2 A2, f e1 A = .bk e2 A2 ∧ R (.nx e2 A2)) ∨ (∃ C e2 A2, f e1 A = .exc C e2 A2 ∧ R (.exc C e2 A2))))
    (hd : ∀ e A, I ds.length e A → R (.nx e A)) : R (forL g f gd ds env A) := by
  have main : ∀ (m : Nat) (e : Sl) (A : Hs), m ≤ ds.length → I m e A → R (forL g f gd (ds.drop m) e A) := by
    intro m
    generalize hk : ds.length - m = k
    induction k generalizing m with
    | zero =>
      intro e A hm hI
      have : m = ds.length := by omega
      subst this
      rw [List.drop_length, forL_nil (hg _ _ _ hm hI)]
      exact hd e A hI
    | succ k ih =>
      intro e A hm hI
      have hlt : m < ds.length := by omega
      rw [List.drop_eq_getElem_cons hlt]
      obtain ⟨e1, h1, h2⟩ := hs m e A ds[m] (by simp [hlt]) hI
      rw [forL_cons (hg _ _ _ hm hI) h1]
      rcases h2 with ⟨e2, A2, h2, h3⟩ | ⟨d2, A2, h2, h3⟩ | ⟨e2, A2, h2, h3⟩ | ⟨C, e2, A2, h2, h3⟩
      · rcases h2 with h2 | h2
        · rw [h2, z33]; exact ih (m + 1) (by omega) e2 A2 (by omega) h3
        · rw [h2, z3o]; exact ih (m + 1) (by omega) e2 A2 (by omega) h3
      · rw [h2]; exact h3
      · rw [h2]; exact h3
      · rw [h2]; exact h3
  have := main 0 env A (Nat.zero_le _) h0
  rwa [List.drop_zero] at this
/-- a while by what stays true and a number that falls -/
theorem wh_inv {t : Tt} (I : Nat → Sl → Hs → Prop) (R : RS → Prop) {n : Nat} (h0 : I n env A)
    (hs : ∀ n e A, I n e A → (∃ A1, t e A = .ok false A1 ∧ R (.nx e A1)) ∨ (∃ A1, t e A = .ok true A1 ∧ ((∃ e2 A2, (f e A1 = .nx e2 A2 ∨ f e A1 = .ct e2 A2) ∧ ∃ m, m < n ∧ I m e2 A2) ∨ (∃ d2 A2, f e A1 = .rt d2 A2 ∧ R (.rt d2 A2)) ∨ (∃ e2 A2, f e A1 = .bk e2 A2 ∧ R (.nx e2 A2)) ∨ (∃ C e2 A2, f e A1 = .exc C e2 A2 ∧ R (.exc C e2 A2))))) : R (sWh t f env A) := by
  induction n using Nat.strongRecOn generalizing env A with
  | _ n ih =>
    rw [sWh_turn]
    rcases hs n env A h0 with ⟨A1, h1, h2⟩ | ⟨A1, h1, h2⟩
    · rw [h1]; exact h2
    · rw [h1]
      simp only [ofT, if_true]
      rcases h2 with ⟨e2, A2, h2, m, hm, h3⟩ | ⟨d2, A2, h2, h3⟩ | ⟨e2, A2, h2, h3⟩ | ⟨C, e2, A2, h2, h3⟩
      · rcases h2 with h2 | h2
        · rw [h2]; exact ih m hm h3
        · rw [h2]; exact ih m hm h3
      · rw [h2]; exact h3
      · rw [h2]; exact h3
      · rw [h2]; exact h3
def lc_ (r : RE (List D)) : RE D := match r with
  | .ok l A2 => alloc A2 (.lst l)
  | _ => .stuck
theorem z7l : lc_ (.ok l A) = .ok (.ref A.length) (A ++ [.lst l]) := rfl
theorem z8k {w : Sl → Hs → RE Wk} {g : G} {t : Tt} {vs : List Nat} : eLc w g t a vs env A = (w env A).bind fun k A1 => lc_ (lcL g t a k.gd (wipeS env vs) k.ds [] A1) := by unfold eLc lc_; rfl
/-- a comprehension whose parts leave the heap as it is -/
theorem lc_pure {g : G} {t : Tt} {gd : Hs → Prop} (p : D → Bool) (h : D → D) {ds acc : List D} (hgd : gd A) (hl : acc.length + ds.length < 16000000)
    (hs : ∀ d ∈ ds, ∃ e1, g d env A = some e1 ∧ t e1 A = .ok (p d) A ∧ (p d = true → a e1 A = .ok (h d) A)) : lcL g t a gd env ds acc A = .ok (acc ++ (ds.filter p).map h) A := by
  induction ds generalizing acc with
  | nil => rw [lcL, if_pos hgd]; simp
  | cons d ds ih =>
    obtain ⟨e1, h1, h2, h3⟩ := hs d List.mem_cons_self
    rw [lcL, if_pos hgd, h1]
    simp only [h2]
    cases q : p d with
    | false =>
      simp only
      rw [ih (by rw [List.length_cons] at hl; omega) fun d' hd => hs d' (List.mem_cons_of_mem _ hd), List.filter_cons, q]
      rfl
    | true =>
      simp only [h3 q]
      rw [if_pos (small_line' (by rw [List.length_cons] at hl; omega)), ih (by rw [List.length_cons] at hl; rw [List.length_append, List.length_singleton]; omega) fun d' hd => hs d' (List.mem_cons_of_mem _ hd), List.filter_cons, q]
      simp
end
end SM

/-! ## frames, equal data, slices -/
namespace SM
open PySem L2
section
variable {α β : Type} {A A1 A2 A3 : Hs} {env e1 e2 : Sl} {a b c o v : E} {as : As} {d d1 d2 x y z : D} {i j k n : Nat} {p q r : Int} {C : String} {f g : S} {F : Fn} {cs os xs : List String} {tb : List (String × String × Bool)} {l l1 l2 : List D} {fs : List (String × D)} {s s1 s2 : List Nat} {u u1 u2 : O}
/-- what a piece of code leaves alone -/
def Fr (s : List Nat) (A A1 : Hs) : Prop := A.length ≤ A1.length ∧ ∀ j, j < A.length → j ∉ s → A1[j]? = A[j]?
theorem Fr.refl : Fr s A A := ⟨Nat.le_refl _, fun _ _ _ => rfl⟩
theorem Fr.trans (h : Fr s A A1) (k : Fr s A1 A2) : Fr s A A2 := ⟨Nat.le_trans h.1 k.1, fun j hj hn => (k.2 j (Nat.lt_of_lt_of_le hj h.1) hn).trans (h.2 j hj hn)⟩
/-- the second may also touch what is new -/
theorem Fr.trans' (h : Fr s A A1) (k : Fr s2 A1 A2) (hs : ∀ j ∈ s2, j ∈ s ∨ A.length ≤ j) : Fr s A A2 := ⟨Nat.le_trans h.1 k.1, fun j hj hn => (k.2 j (Nat.lt_of_lt_of_le hj h.1) fun h3 => (hs j h3).elim hn fun h4 => by omega).trans (h.2 j hj hn)⟩
theorem Fr.mono (h : Fr s A A1) (hs : ∀ j ∈ s, j ∈ s2) : Fr s2 A A1 := ⟨h.1, fun j hj hn => h.2 j hj fun h3 => hn (hs j h3)⟩
theorem lt_of_get {α : Type} {A : List α} {u : α} (h : A[i]? = some u) : i < A.length := by
  rcases Nat.lt_or_ge i A.length with h1 | h1
  · exact h1
  · rw [List.getElem?_eq_none h1] at h; cases h
theorem Fr.get (h : Fr s A A1) (g : A[j]? = some u) (hn : j ∉ s) : A1[j]? = some u := (h.2 j (lt_of_get g) hn).trans g
theorem Fr.le (h : Fr s A A1) : A.length ≤ A1.length := h.1
theorem Fr.set (h : i ∈ s) : Fr s A (A.set i u) := ⟨by simp, fun j hj hn => List.getElem?_set_ne fun (e : i = j) => hn (e ▸ h)⟩
theorem Fr.push : Fr s A (A ++ [u]) := ⟨by simp, fun j hj hn => by rw [List.getElem?_append_left hj]⟩
theorem Fr.then_set (h : Fr s A A1) (hi : i ∈ s ∨ A.length ≤ i) : Fr s A (A1.set i u) := ⟨by simpa using h.1, fun j hj hn => by
  rw [List.getElem?_set_ne fun (e : i = j) => hi.elim (fun h2 => hn (e ▸ h2)) fun h2 => by omega]
  exact h.2 j hj hn⟩
theorem Fr.then_push (h : Fr s A A1) : Fr s A (A1 ++ [u]) := h.trans .push
theorem get_set (h : A[i]? = some u1) : (A.set i u)[i]? = some u := List.getElem?_set_self (lt_of_get h)
theorem get_set_ne (hn : i ≠ j) (h : A[j]? = some u1) : (A.set i u)[j]? = some u1 := (List.getElem?_set_ne hn).trans h
theorem get_push (h : A[j]? = some u1) : (A ++ [u])[j]? = some u1 := (List.getElem?_append_left (lt_of_get h)).trans h
theorem z24 : (A.set i u).set i u1 = A.set i u1 := List.set_set ..
theorem z2y : (A.set i u).length = A.length := by simp
/-! data without a heap -/
def pd : Nat → D → Bool
  | _, .non => true
  | _, .bl _ => true
  | _, .int _ => true
  | _, .str _ => true
  | n + 1, .tup l => l.all (pd n)
  | n + 1, .scr l => l.all (pd n)
  | n + 1, .wt l => l.all (pd n)
  | _, _ => false
theorem pd_tup : pd (n + 1) (.tup l) = l.all (pd n) := rfl
theorem pd_py : ∀ {n : Nat} {d : D}, pd n d = true → ∃ p, p.plain = true ∧ ∀ A, pyA A n d = some p := by
  intro n
  induction n with
  | zero =>
    intro d h
    cases d with
    | non => exact ⟨.none, rfl, fun A => by simp [pyA]⟩
    | bl b => exact ⟨.bool b, rfl, fun A => by simp [pyA]⟩
    | int b => exact ⟨.int b, rfl, fun A => by simp [pyA]⟩
    | str b => exact ⟨.str b, rfl, fun A => by simp [pyA]⟩
    | _ => cases h
  | succ n ih =>
    have all : ∀ {l : List D}, l.all (pd n) = true → ∃ ps, PyData.plainAll ps = true ∧ ∀ A, allSome (l.map (pyA A n)) = some ps := by
      intro l
      induction l with
      | nil => intro _; exact ⟨[], rfl, fun A => rfl⟩
      | cons d l il =>
        intro h
        rw [List.all_cons, Bool.and_eq_true] at h
        obtain ⟨p, h0, h1⟩ := ih h.1
        obtain ⟨ps, h2, h3⟩ := il h.2
        refine ⟨p :: ps, by simp [PyData.plainAll, h0, h2], fun A => ?_⟩
        rw [List.map_cons, h1 A, allSome, h3 A]; rfl
    intro d h
    cases d with
    | tup l =>
      obtain ⟨ps, h1, h2⟩ := all h
      exact ⟨.tuple ps, by simpa [PyData.plain] using h1, fun A => by rw [pyA, h2 A]; rfl⟩
    | wt l =>
      obtain ⟨ps, h1, h2⟩ := all h
      exact ⟨.tuple ps, by simpa [PyData.plain] using h1, fun A => by rw [pyA, h2 A]; rfl⟩
    | scr l =>
      obtain ⟨ps, h1, h2⟩ := all h
      exact ⟨.list ps, by simpa [PyData.plain] using h1, fun A => by rw [pyA, h2 A]; rfl⟩
    | non => exact ⟨.none, rfl, fun A => by simp [pyA]⟩
    | bl b => exact ⟨.bool b, rfl, fun A => by simp [pyA]⟩
    | int b => exact ⟨.int b, rfl, fun A => by simp [pyA]⟩
    | str b => exact ⟨.str b, rfl, fun A => by simp [pyA]⟩
    | _ => cases h
theorem pd_all : ∀ {l : List D}, l.all (pd n) = true → ∃ ps, PyData.plainAll ps = true ∧ ∀ A, allSome (l.map (pyA A n)) = some ps := by
  intro l
  induction l with
  | nil => intro _; exact ⟨[], rfl, fun A => rfl⟩
  | cons d l il =>
    intro h
    rw [List.all_cons, Bool.and_eq_true] at h
    obtain ⟨p, h0, h1⟩ := pd_py h.1
    obtain ⟨ps, h2, h3⟩ := il h.2
    refine ⟨p :: ps, by simp [PyData.plainAll, h0, h2], fun A => ?_⟩
    rw [List.map_cons, h1 A, allSome, h3 A]; rfl
/-- two values that read the same -/
theorem eqA_same {P : PyData} (hp : P.plain = true) (h : pyA A 40 x = some P) (k : pyA A 40 y = some P) : eqA A x y = some true := by
  unfold eqA; rw [h, k]; simp only; rw [PySem.SeqAt.eqv_refl_plain _ hp]
theorem eqA_pd (h : pd 40 x = true) : eqA A x x = some true := by
  obtain ⟨P, h1, h2⟩ := pd_py h
  exact eqA_same h1 (h2 A) (h2 A)
theorem py_lst (h : A[i]? = some (.lst l)) : pyA A (n + 1) (.ref i) = (allSome (l.map (pyA A n))).map .list := by
  rw [pyA]; simp only [h]
theorem eqA_lst (h : A[i]? = some (.lst l)) (k : A[j]? = some (.lst l)) (hp : l.all (pd 39) = true) : eqA A (.ref i) (.ref j) = some true := by
  obtain ⟨ps, h1, h2⟩ := pd_all hp
  refine eqA_same (P := .list ps) (by simpa [PyData.plain] using h1) ?_ ?_
  · rw [py_lst h, h2 A]; rfl
  · rw [py_lst k, h2 A]; rfl
theorem oEq_pd (h : pd 40 x = true) : oEq x x A = .ok (.bl true) A := eqA_of (eqA_pd h)
theorem oNe_pd (h : pd 40 x = true) : oNe x x A = .ok (.bl false) A := neA_of (eqA_pd h)
theorem oEq_lst (h : A[i]? = some (.lst l)) (k : A[j]? = some (.lst l)) (hp : l.all (pd 39) = true) : oEq (.ref i) (.ref j) A = .ok (.bl true) A := eqA_of (eqA_lst h k hp)
theorem oNe_lst (h : A[i]? = some (.lst l)) (k : A[j]? = some (.lst l)) (hp : l.all (pd 39) = true) : oNe (.ref i) (.ref j) A = .ok (.bl false) A := neA_of (eqA_lst h k hp)
theorem oNe_is {t : Str} : oNe (.int p) (.str t) A = .ok (.bl true) A := by
  refine neA_of (b := false) ?_
  unfold eqA; simp [pyA, PyData.eqv]
theorem oNe_ids {t : String} : oNe (.int p) (dS t) A = .ok (.bl true) A := oNe_is
theorem oEq_is {t : Str} : oEq (.int p) (.str t) A = .ok (.bl false) A := by
  refine eqA_of (b := false) ?_
  unfold eqA; simp [pyA, PyData.eqv]
theorem oEq_ids {t : String} : oEq (.int p) (dS t) A = .ok (.bl false) A := oEq_is
/-! slices -/
theorem sIx_some {n d : Nat} {v : Int} (h : 0 ≤ v) : HT.sIx n d (some v) = min v.toNat n := by
  obtain ⟨k, rfl⟩ := Int.eq_ofNat_of_zero_le h
  exact HT.sIx_nat n d k
theorem z5m {l : List α} : cutD l none none = l := by
  unfold cutD; rw [HT.sIx_none, HT.sIx_none]; simp
theorem z4r {l : List α} (h : 0 ≤ p) : cutD l none (some p) = l.take p.toNat := by
  unfold cutD; rw [HT.sIx_none, sIx_some h]
  rw [List.drop_zero, Nat.sub_zero, List.take_eq_take_iff]; omega
theorem z5d {l : List α} (h : 0 ≤ p) : cutD l (some p) none = l.drop p.toNat := by
  unfold cutD; rw [HT.sIx_none, sIx_some h]
  rcases Nat.le_total p.toNat l.length with q | q
  · rw [Nat.min_eq_left q, List.take_of_length_le (by rw [List.length_drop]; omega)]
  · rw [Nat.min_eq_right q, List.drop_of_length_le (Nat.le_refl _), List.drop_of_length_le q]; simp
theorem z4t {l : List α} (h : 0 ≤ p) (k : 0 ≤ q) : cutD l (some p) (some q) = (l.drop p.toNat).take (q.toNat - p.toNat) := by
  unfold cutD; rw [sIx_some h, sIx_some k]
  rcases Nat.le_total p.toNat l.length with r | r
  · rw [Nat.min_eq_left r, List.take_eq_take_iff, List.length_drop]; omega
  · rw [Nat.min_eq_right r, List.drop_of_length_le (Nat.le_refl _), List.drop_of_length_le r]; simp
theorem z5o {l : List α} (h : 0 ≤ p) : atI l p = l[p.toNat]? := by
  unfold atI ixN
  rw [if_pos h]
  by_cases k : p < l.length
  · rw [if_pos k]; rfl
  · rw [if_neg k, List.getElem?_eq_none (by omega)]; rfl
theorem ixN_nat (h : 0 ≤ p) (k : p < (n : Int)) : ixN n p = some p.toNat := by
  unfold ixN; rw [if_pos h, if_pos k]
theorem mem_rgL {lo c : Int} {n : Nat} (h : d ∈ rgL lo c n) : ∃ i : Nat, i < n ∧ d = .int (lo + i * c) := by
  unfold rgL at h; obtain ⟨i, hi, rfl⟩ := List.mem_map.mp h; exact ⟨i, List.mem_range.mp hi, rfl⟩
end
end SM

/-! ## the same, as rules that only compute (the heap's places are looked up in the term) -/
namespace SM
open PySem L2
section
variable {α β : Type} {A A1 A2 A3 : Hs} {env e1 e2 : Sl} {a b c o v : E} {as : As} {d d1 d2 x y z w : D} {i j k n : Nat} {p q r : Int} {C m : String} {f g : S} {F : Fn} {cs os xs : List String} {tb : List (String × String × Bool)} {l l1 l2 : List D} {fs : List (String × D)} {u u1 u2 : O} {lo hi : Option Int} {t lk : Bool} {kv : List (D × D)}
def sq_ : Option O → Option (List D)
  | some (.lst l) => some l
  | _ => none
theorem z8y : sq_ (some (.lst l)) = some l := rfl
theorem z61 : seqL A (.ref i) = sq_ A[i]? := by unfold seqL sq_; rfl
theorem z3e : lstAt A (.ref i) = (sq_ A[i]?).map fun l => (i, l) := by
  unfold lstAt sq_
  rcases h : A[i]? with _ | u
  · simp only [h]; rfl
  · cases u <;> simp only [h] <;> rfl
theorem z6y {α β : Type} {f : α → β} {x : α} : (some x).map f = some (f x) := rfl
def ob_ : Option O → Option (String × List (String × D))
  | some (.obj C fs) => some (C, fs)
  | _ => none
theorem z8d : ob_ (some (.obj C fs)) = some (C, fs) := rfl
theorem z3d : objAt A (.ref i) = ob_ A[i]? := by unfold objAt ob_; rfl
def gf_ (cs : List String) (f : String) : Option (String × List (String × D)) → Option D
  | some (C, fs) => if C ∈ cs then fs.lookup f else none
  | none => none
theorem z8c {f : String} : gf_ cs f (some (C, fs)) = if C ∈ cs then fs.lookup f else none := rfl
theorem z2q {f : String} : getFld cs f A x = gf_ cs f (objAt A x) := by unfold getFld gf_; rfl
def sf_ (cs : List String) (A : Hs) (i : Nat) (f : String) (d : D) : Option (String × List (String × D)) → Option Hs
  | some (C, fs) => if C ∈ cs ∧ fs.length < 999 then some (A.set i (.obj C (putF f d fs))) else none
  | none => none
theorem z8u {f : String} : sf_ cs A i f d (some (C, fs)) = if C ∈ cs ∧ fs.length < 999 then some (A.set i (.obj C (putF f d fs))) else none := rfl
theorem z1x {f : String} : setFld cs A (.ref i) f d = sf_ cs A i f d (ob_ A[i]?) := by
  unfold setFld
  rcases h : A[i]? with _ | u
  · simp only [h]; rfl
  · cases u <;> simp only [h] <;> rfl
def mo_ (m : String) (t : List (String × Fn)) : Option (String × List (String × D)) → Option Fn
  | some (C, fs) => if (fs.lookup m).isSome = true then none else t.lookup C
  | none => none
theorem z8r {t : List (String × Fn)} : mo_ m t (some (C, fs)) = if (fs.lookup m).isSome = true then none else t.lookup C := rfl
theorem z1t {t : List (String × Fn)} : methOf m t A x = mo_ m t (objAt A x) := by
  unfold methOf mo_; rfl
theorem z1w {β : Type} {f : String} : List.lookup f ([] : List (String × β)) = none := rfl
theorem z11 {β : Type} {f g : String} {x : β} {r : List (String × β)} : List.lookup f ((g, x) :: r) = if f = g then some x else List.lookup f r := by
  by_cases h : f = g
  · rw [if_pos h]; subst h; simp
  · rw [if_neg h, List.lookup, beq_false_of_ne h]
theorem look_cons_i {β : Type} {f g : Int} {x : β} {r : List (Int × β)} : List.lookup f ((g, x) :: r) = if f = g then some x else List.lookup f r := by
  by_cases h : f = g
  · rw [if_pos h]; subst h; simp
  · rw [if_neg h, List.lookup, beq_false_of_ne h]
def at_ (A : Hs) : Option D → RE D
  | some d => .ok d A
  | none => .stuck
theorem z89 : at_ A (some d) = .ok d A := rfl
def ln_ (A : Hs) : Option O → RE D
  | some (.lst l) => .ok (.int l.length) A
  | some (.dic false false l) => .ok (.int l.length) A
  | _ => .stuck
theorem z9c : ln_ A (some (.lst l)) = .ok (.int l.length) A := rfl
theorem z8q : ln_ A (some (.dic false false kv)) = .ok (.int kv.length) A := rfl
theorem z4l : oLen (.ref i) A = ln_ A A[i]? := by
  unfold oLen lenA; rw [z61]
  simp only [seqT]
  rcases A[i]? with _ | u
  · rfl
  · cases u with
    | lst l => rfl
    | obj C f => rfl
    | dic t lk kv => cases t <;> cases lk <;> rfl
theorem z21 : oLen (.scr l) A = .ok (.int l.length) A := rfl
def ix_ (A : Hs) (p : Int) : Option (List D) → RE D
  | some l => at_ A (atI l p)
  | none => .stuck
theorem z9o : ix_ A p (some l) = at_ A (atI l p) := rfl
theorem z7j : oIx (.ref i) (.int p) A = ix_ A p (sq_ A[i]?) := by
  unfold oIx; simp only [z61]
  rcases h : sq_ A[i]? with _ | l
  · rfl
  · show (match atI l p with | some d => RE.ok d A | none => .stuck) = at_ A (atI l p)
    cases atI l p <;> rfl
theorem z2t : oIx (.scr l) (.int p) A = at_ A (atI l p) := by
  unfold oIx; simp only [seqL]; unfold at_; cases atI l p <;> rfl
theorem z48 : oIx (.tup l) (.int p) A = at_ A (atI l p) := by
  unfold oIx seqT; simp only [z23]; unfold at_; cases atI l p <;> rfl
def nw_ (A : Hs) : Option (List D) → RE D
  | some l => .ok (.ref A.length) (A ++ [.lst l])
  | none => .stuck
theorem z97 : nw_ A (some l) = .ok (.ref A.length) (A ++ [.lst l]) := rfl
theorem z7i : oSl (.ref i) lo hi A = nw_ A ((sq_ A[i]?).map fun l => cutD l lo hi) := by
  unfold oSl; rw [z61]; cases sq_ A[i]? <;> rfl
theorem z31 : oSl (.scr l) lo hi A = .ok (.ref A.length) (A ++ [.lst (cutD l lo hi)]) := rfl
theorem z44 : oList (.ref i) A = nw_ A (sq_ A[i]?) := by
  unfold oList; rw [z61]; cases sq_ A[i]? <;> rfl
theorem z0p : oList (.scr l) A = .ok (.ref A.length) (A ++ [.lst l]) := rfl
theorem z67 : oRev (.ref i) A = nw_ A ((sq_ A[i]?).map List.reverse) := by
  unfold oRev; rw [z61]; cases sq_ A[i]? <;> rfl
def tp_ (A : Hs) : Option (List D) → RE D
  | some l => .ok (.tup l) A
  | none => .stuck
theorem z8m : tp_ A (some l) = .ok (.tup l) A := rfl
theorem z1r : oTuple (.ref i) A = tp_ A (sq_ A[i]?) := by
  unfold oTuple; rw [z61]; cases sq_ A[i]? <;> rfl
theorem z0o : oTuple (.scr l) A = .ok (.tup l) A := rfl
def ap_ (A : Hs) (i : Nat) (l1 : List D) : Option (List D) → RE D
  | some l => if l.length + l1.length ≤ sizeLine then .ok .non (A.set i (.lst (l ++ l1))) else .stuck
  | none => .stuck
theorem z8a (h : l.length + l1.length ≤ 16000000) : ap_ A i l1 (some l) = .ok .non (A.set i (.lst (l ++ l1))) := if_pos (z0l h)
theorem z0s : oAppend (.ref i) [d] A = ap_ A i [d] (sq_ A[i]?) := by
  unfold oAppend; rw [z3e]
  rcases sq_ A[i]? with _ | l
  · rfl
  · simp only [z6y, ap_, List.length_singleton]; rfl
theorem z0g : oExtend (.ref i) [.tup l1] A = ap_ A i l1 (sq_ A[i]?) := by
  unfold oExtend; rw [z3e]
  rcases sq_ A[i]? with _ | l
  · rfl
  · simp only [z6y, lstAt]; rfl
def ex_ (A : Hs) (i : Nat) (r : Option (List D)) : Option (List D) → RE D
  | some l1 => ap_ A i l1 r
  | none => .stuck
theorem z96 {r : Option (List D)} : ex_ A i r (some l1) = ap_ A i l1 r := rfl
theorem z0c : oExtend (.ref i) [.ref j] A = ex_ A i (sq_ A[i]?) (sq_ A[j]?) := by
  unfold oExtend
  rcases h : sq_ A[i]? with _ | l
  · rcases h2 : sq_ A[j]? with _ | l1 <;> simp only [z3e, h, Option.map] <;> rfl
  · rcases h2 : sq_ A[j]? with _ | l1 <;> simp only [z3e, h, h2, Option.map] <;> rfl
def cl_ (A : Hs) (i : Nat) : Option (List D) → RE D
  | some _ => .ok .non (A.set i (.lst []))
  | none => .stuck
theorem z8z : cl_ A i (some l) = .ok .non (A.set i (.lst [])) := rfl
theorem z20 : oClear (.ref i) A = cl_ A i (sq_ A[i]?) := by
  unfold oClear; rw [z3e]; cases sq_ A[i]? <;> rfl
def si_ (A : Hs) (i : Nat) (y v : D) (u : Option O) : Option Hs := match u with
    | some (.lst l) => match y with
      | .int k => match ixN l.length k with
        | some n => some (A.set i (.lst (l.set n v)))
        | none => none
      | _ => none
    | some (.dic t false l) => if keyOk t y && decide (l.length < sizeLine) then some (A.set i (.dic t false (kput l y v))) else none
    | _ => none
theorem z2u : setIt A (.ref i) y z = si_ A i y z A[i]? := rfl
theorem z95 (h : 0 ≤ p ∧ p < (l.length : Int)) : si_ A i (.int p) z (some (.lst l)) = some (A.set i (.lst (l.set p.toNat z))) := by
  unfold si_; simp only [ixN_nat h.1 h.2]
theorem z8w (h : kv.length < 16000000) : si_ A i y z (some (.dic t false kv)) = if keyOk t y = true then some (A.set i (.dic t false (kput kv y z))) else none := by
  unfold si_; simp only [decide_eq_true (small_line' h), Bool.and_true]
def gn_ (p : Int) : Option (List D) → Option D
  | some l => if 0 ≤ p then l[p.toNat]? else none
  | none => none
theorem z9a : gn_ p (some l) = if 0 ≤ p then l[p.toNat]? else none := rfl
theorem z5j : getN A (.ref i) (.int p) = gn_ p (sq_ A[i]?) := by
  unfold getN; rw [z61]; cases sq_ A[i]? <;> rfl
def il_ : Option O → Bool
  | some (.lst _) => true
  | _ => false
theorem z93 : il_ (some (.lst l)) = true := rfl
theorem z8t : il_ (some (.dic t lk kv)) = false := rfl
theorem z3m : isLst A (.ref i) = il_ A[i]? := by unfold isLst il_; rfl
def dg_ (A : Hs) (y : D) : Option O → RE D
  | some (.dic t _ kv) => if keyOk t y = true then at_ A (kget kv y) else .stuck
  | _ => .stuck
theorem z8e : dg_ A y (some (.dic t lk kv)) = if keyOk t y = true then at_ A (kget kv y) else .stuck := rfl
theorem z34 : oDGet (.ref i) y A = dg_ A y A[i]? := by
  unfold oDGet dicAt
  rcases h : A[i]? with _ | u
  · simp only [h]; rfl
  · cases u with
    | dic t lk kv => simp only [h, dg_]; unfold at_; split <;> first | rfl | (cases kget kv y <;> rfl)
    | _ => simp only [h]; rfl
def wl_ (A : Hs) (i : Nat) : Option O → Option Wk
  | some (.lst l) => some ⟨l, fun A' => A'[i]? = some (.lst l)⟩
  | _ => none
theorem z8o : wl_ A i (some (.lst l)) = some ⟨l, fun A' => A'[i]? = some (.lst l)⟩ := rfl
theorem z7x : wkA A (.ref i) = wl_ A i A[i]? := by
  unfold wkA wkL wl_
  rcases h : A[i]? with _ | u
  · simp only [h]
  · cases u <;> simp only [h]
def we_ (A : Hs) (i : Nat) : Option O → Option Wk
  | some (.lst l) => some ⟨enumL l, fun A' => A'[i]? = some (.lst l)⟩
  | _ => none
theorem z9m : we_ A i (some (.lst l)) = some ⟨enumL l, fun A' => A'[i]? = some (.lst l)⟩ := rfl
theorem z80 : wkE A (.ref i) = we_ A i A[i]? := by
  unfold wkE wkL we_
  rcases h : A[i]? with _ | u
  · simp only [h]; rfl
  · cases u <;> simp only [h] <;> rfl
/-! lists of truths, numbers -/
def al_ (A : Hs) : Option (List Bool) → RE D
  | some bs => .ok (.bl (bs.all id)) A
  | none => .stuck
theorem z9d {bs : List Bool} : al_ A (some bs) = .ok (.bl (bs.all id)) A := rfl
theorem z5n : oAll x A = al_ A ((seqL A x).bind boolsOf) := by unfold oAll al_; rfl
def sm_ (A : Hs) : Option (List Int) → RE D
  | some bs => .ok (.int bs.sum) A
  | none => .stuck
theorem z88 {ns : List Int} : sm_ A (some ns) = .ok (.int ns.sum) A := rfl
theorem z5a : oSum x A = sm_ A ((seqL A x).bind intsOf) := by unfold oSum sm_; rfl
theorem z2z {α β : Type} {f : α → Option β} {x : α} : (some x).bind f = f x := rfl
/-! places -/
theorem z86 (h : i < A.length) : (A.set i u)[i]? = some u := List.getElem?_set_self h
theorem z37 (h : i ≠ j) : (A.set i u)[j]? = A[j]? := List.getElem?_set_ne h
theorem z78 (h : j < A.length) : (A ++ [u])[j]? = A[j]? := List.getElem?_append_left h
theorem z9e : (A ++ [u])[A.length]? = some u := by simp
theorem z7g (h : j = A.length) : (A ++ [u])[j]? = some u := by subst h; simp
theorem z29 : (A ++ [u]).length = A.length + 1 := by simp
theorem z2d : kget [] y = none := rfl
theorem z0z : kget ((x, z) :: kv) y = if keq x y = true then some z else kget kv y := by rw [kget]
theorem z92 : il_ (some (.obj C fs)) = false := rfl
theorem z6i : (Wk.mk l tt).gd = tt := rfl
theorem z7w {gd : Hs → Prop} : (Wk.mk l gd).ds = l := rfl
theorem z7a {gd : Hs → Prop} : (Wk.mk l gd).gd = gd := rfl
theorem z27 : wipeS env [] = env := rfl
theorem z1c {vs : List Nat} : wipeS env (i :: vs) = (wipeS env vs).set i none := by rw [wipeS]
/-- a result, by what holds of it -/
def Rk {α : Type} (r : RE α) (P : α → Hs → Prop) : Prop := match r with
  | .ok v A => P v A
  | _ => False
theorem z6t {α : Type} {x : α} {P : α → Hs → Prop} : Rk (.ok x A) P = P x A := rfl
theorem Rk.ex {α : Type} {r : RE α} {P : α → Hs → Prop} (h : Rk r P) : ∃ v A1, r = .ok v A1 ∧ P v A1 := by
  cases r with
  | ok v A1 => exact ⟨v, A1, rfl, h⟩
  | _ => exact h.elim
theorem Rk.of {α : Type} {r : RE α} {P : α → Hs → Prop} {x : α} (e : r = .ok x A) (h : P x A) : Rk r P := by rw [e]; exact h
theorem Rk.mono {α : Type} {r : RE α} {P P2 : α → Hs → Prop} (h : Rk r P) (k : ∀ v A, P v A → P2 v A) : Rk r P2 := by
  obtain ⟨v, A1, e, p⟩ := h.ex
  exact .of e (k v A1 p)
theorem Rk.make {P : D → Hs → Prop} {ds : List D} (h : Rk (F (.ref A.length :: ds) (A ++ [.obj C []])) fun v A1 => v = .non ∧ P (.ref A.length) A1) : Rk (make C F ds A) P := by
  obtain ⟨v, A1, e, rfl, p⟩ := h.ex
  exact .of (make_ok e) p
/-- a call in the goal, by what is known of it -/
theorem Rk.call {α : Type} {r : RE α} {P : α → Hs → Prop} (Q : RE α → Prop) (h : Rk r P) (k : ∀ v A1, P v A1 → Q (.ok v A1)) : Q r := by
  obtain ⟨v, A1, e, p⟩ := h.ex
  rw [e]; exact k v A1 p
/-- one turn of a loop: J where it goes on, R where the loop ends -/
def Trn (J : Sl → Hs → Prop) (R : RS → Prop) (r : RS) : Prop := match r with
  | .nx e A => J e A
  | .ct e A => J e A
  | .rt d A => R (.rt d A)
  | .bk e A => R (.nx e A)
  | .exc C e A => R (.exc C e A)
  | .stuck => False
theorem z6k {J : Sl → Hs → Prop} {R : RS → Prop} : Trn J R (.nx env A) = J env A := rfl
theorem z75 {J : Sl → Hs → Prop} {R : RS → Prop} : Trn J R (.ct env A) = J env A := rfl
theorem z77 {J : Sl → Hs → Prop} {R : RS → Prop} : Trn J R (.rt d A) = R (.rt d A) := rfl
theorem z7h {J : Sl → Hs → Prop} {R : RS → Prop} : Trn J R (.bk env A) = R (.nx env A) := rfl
theorem z5p {J : Sl → Hs → Prop} {R : RS → Prop} : Trn J R (.exc C env A) = R (.exc C env A) := rfl
def Tst (s : Hs → Prop) (k : Hs → Prop) (c : Bool) (A : Hs) : Prop := match c with
  | true => s A
  | false => k A
theorem z6g {s k : Hs → Prop} : Tst s k true A = s A := rfl
theorem z7s {s k : Hs → Prop} : Tst s k false A = k A := rfl
theorem z7q {s k : Hs → Prop} {c : Prop} [Decidable c] : Tst s k (decide c) A = if c then s A else k A := by
  by_cases h : c
  · simp [h, Tst]
  · simp [h, Tst]
theorem wh_go {t : Tt} (I : Nat → Sl → Hs → Prop) (R : RS → Prop) {n : Nat} (h0 : I n env A)
    (hs : ∀ n e A, I n e A → Rk (t e A) (Tst (fun A1 => Trn (fun e2 A2 => ∃ m, m < n ∧ I m e2 A2) R (f e A1)) fun A1 => R (.nx e A1))) : R (sWh t f env A) := by
  refine wh_inv I R h0 fun n e A hI => ?_
  obtain ⟨c, A1, h1, h2⟩ := (hs n e A hI).ex
  cases c with
  | false => exact .inl ⟨A1, h1, h2⟩
  | true =>
    refine .inr ⟨A1, h1, ?_⟩
    change Trn _ _ _ at h2
    cases q : f e A1 with
    | nx e2 A2 => rw [q] at h2; exact .inl ⟨e2, A2, .inl rfl, h2⟩
    | ct e2 A2 => rw [q] at h2; exact .inl ⟨e2, A2, .inr rfl, h2⟩
    | rt d2 A2 => rw [q] at h2; exact .inr (.inl ⟨d2, A2, rfl, h2⟩)
    | bk e2 A2 => rw [q] at h2; exact .inr (.inr (.inl ⟨e2, A2, rfl, h2⟩))
    | exc C e2 A2 => rw [q] at h2; exact .inr (.inr (.inr ⟨C, e2, A2, rfl, h2⟩))
    | stuck => rw [q] at h2; exact h2.elim
def Got (r : Option Sl) (P : Sl → Prop) : Prop := match r with
  | some e => P e
  | none => False
theorem z76 {P : Sl → Prop} : Got (some env) P = P env := rfl
theorem for_go {g : G} {gd : Hs → Prop} (I : Nat → Sl → Hs → Prop) (R : RS → Prop) {ds : List D} (h0 : I 0 env A) (hg : ∀ i e A, i ≤ ds.length → I i e A → gd A)
    (hs : ∀ i e A d, ds[i]? = some d → I i e A → Got (g d e A) fun e1 => Trn (I (i + 1)) R (f e1 A))
    (hd : ∀ e A, I ds.length e A → R (.nx e A)) : R (forL g f gd ds env A) := by
  refine for_inv I R h0 hg (fun i e A d hd hI => ?_) hd
  have h2 := hs i e A d hd hI
  cases q0 : g d e A with
  | none => rw [q0] at h2; exact h2.elim
  | some e1 =>
    rw [q0, z76] at h2
    refine ⟨e1, rfl, ?_⟩
    cases q : f e1 A with
    | nx e2 A2 => rw [q] at h2; exact .inl ⟨e2, A2, .inl rfl, h2⟩
    | ct e2 A2 => rw [q] at h2; exact .inl ⟨e2, A2, .inr rfl, h2⟩
    | rt d2 A2 => rw [q] at h2; exact .inr (.inl ⟨d2, A2, rfl, h2⟩)
    | bk e2 A2 => rw [q] at h2; exact .inr (.inr (.inl ⟨e2, A2, rfl, h2⟩))
    | exc C e2 A2 => rw [q] at h2; exact .inr (.inr (.inr ⟨C, e2, A2, rfl, h2⟩))
    | stuck => rw [q] at h2; exact h2.elim
/-- a comprehension of pure parts over what its walk gives, as simp shows it -/
theorem lc_go {g : G} {t : Tt} {gd : Hs → Prop} (p : D → Bool) (h : D → D) {ds : List D} (hgd : gd A) (hl : ds.length < 16000000)
    (hs : ∀ d ∈ ds, Got (g d env A) fun e1 => Rk (t e1 A) fun c A1 => c = p d ∧ A1 = A ∧ (c = true → Rk (a e1 A) fun v A2 => v = h d ∧ A2 = A)) : lcL g t a gd env ds [] A = .ok ((ds.filter p).map h) A := by
  refine lc_pure p h hgd (by simpa using hl) fun d hd => ?_
  have h2 := hs d hd
  cases q0 : g d env A with
  | none => rw [q0] at h2; exact h2.elim
  | some e1 =>
    rw [q0, z76] at h2
    obtain ⟨c, A1, e, rfl, rfl, k⟩ := h2.ex
    refine ⟨e1, rfl, e, fun hp => ?_⟩
    obtain ⟨v, A2, e3, rfl, rfl⟩ := (k hp).ex
    exact e3
end
end SM

/-! ## enumerate over a tuple -/
namespace SM
open PySem L2 PySem.Spec PyProof.Rows
theorem meets_enumerate_newB1 {v : Value} {o : Obj} {H : Heap → Prop} (B : Begins v o H) :
    Meets (Builtin.«enumerate.__new__» ⟨[.type "enumerate", v], []⟩) (fun _ R s => H s.heap ∧
      R (.ok (.ret (.ref (s.heap.push o).objs.size))) { s with heap := (s.heap.push o).push { cls := .type "enumerate", data := .fields #[.none, .bool false, .ref s.heap.objs.size, rawInt 0, .none, .none] } }) :=
  .of_wp fun prog w A R s h => by
    obtain ⟨hp, g, d, tk, os⟩ := s; obtain ⟨h1, h⟩ := h
    have hsub := sub_enumerate
    have q1 : ∀ {A' : Around} {E : Value → Shared → Prop} {Q : Value → Shared → Prop}, Q (.ref hp.objs.size) ⟨hp.push o, g, d, tk, os⟩ → wpAny (model prog w) A' (pyIter v) Q E ⟨hp, g, d, tk, os⟩ :=
      fun q => B.iter prog w _ _ ⟨hp, g, d, tk, os⟩ _ h1 q
    wp_walk using q1
    refine wpAny_stack_any fun st => wpAny_pure ?_
    split
    · rename_i c _ _ _ _ _
      cases (c == Value.type "enumerate")
      · wp_walk using q1
        exact ⟨_, rfl, h⟩
      · wp_walk using q1
        exact ⟨_, rfl, h⟩
    · wp_walk using q1
      exact ⟨_, rfl, h⟩
section
variable {prog : Program} {w : World} {A : Around} {E : Value → Shared → Prop} {s : Shared}
theorem enum_begins1 {v : Value} {o : Obj} {H : Heap → Prop} {Q : Value → Shared → Prop} (B : Begins v o H) (h1 : H s.heap)
    (h : ∀ h', IsEnum h' (s.heap.objs.size + 1) s.heap.objs.size 0 .none → h'.get? s.heap.objs.size = some o → h'.objs.size = s.heap.objs.size + 2 →
      (∀ b o, s.heap.get? b = some o → h'.get? b = some o) → Q (.ref (s.heap.objs.size + 1)) { s with heap := h' }) :
    wpAny (model prog w) A (call (.type "enumerate") [v]) Q E s := by
  refine callType_new F.called_enumerate (by decide) (F.typeCall_enumerate_1 _) (F.newCall_enumerate_1 _) (fun obj => F.args_object_init_2 obj _) F.entry_enumerate_new
    (meets_enumerate_newB1 B) ⟨h1, ?_⟩
  have hz : (s.heap.push o).objs.size = s.heap.objs.size + 1 := Heap.size_push ..
  show _ ∧ _
  rw [hz]
  have he : IsEnum ((s.heap.push o).push { cls := .type "enumerate", data := .fields #[.none, .bool false, .ref s.heap.objs.size, rawInt 0, .none, .none] }) (s.heap.objs.size + 1) s.heap.objs.size 0 .none := by
    have := Heap.get?_push_size (s.heap.push o) (o := { cls := .type "enumerate", data := .fields #[.none, .bool false, .ref s.heap.objs.size, rawInt 0, .none, .none] }) rfl
    rw [hz] at this; exact this
  refine ⟨⟨_, he, rfl⟩, h _ he (Heap.get?_push_of_some _ (Heap.get?_push_size _ B.free)) (by rw [Heap.size_push, hz]) fun b o x => Heap.get?_push_of_some _ (Heap.get?_push_of_some _ x)⟩
end
/-- the tuple at a, each item in a new pair -/
def IteT (K : PySem.W.Frag) (a : Addr) : It :=
  ⟨fun i H => ∃ (xs : List V) (x : V), SqT K H a xs ∧ xs[i]? = some x, fun i H v H' => ∃ T x, v = .ref T ∧ H T = none ∧ H' = upd H T (.tup [.int (i : Nat), x]) ∧ ∀ xs, SqT K H a xs → xs[i]? = some x, fun i H => ∃ xs : List V, SqT K H a xs ∧ xs.length ≤ i⟩
theorem turn_enumT {P : Program} {w : World} {K : PySem.W.Frag} {elts : List Expr} {kk : Nat} {tpos : Pos} (a e it : Addr) :
    Turn P w K (.Tuple elts kk tpos) (IteT K a) [e, it] e (fun i h => (∃ old, IsEnum h e it ((i : Nat) : Int) old) ∧ h.IsTupleIter it a i ∧ e ≠ it) where
  mem := by simp
  obj := fun i h st b hb => by
    obtain ⟨⟨old, he⟩, ⟨o, ho, hc, hd⟩, _⟩ := st
    have e' : b = e ∨ b = it := by simpa using hb
    rcases e' with z | z
    · rw [z]; exact ⟨_, he, fun v q => nomatch q⟩
    · rw [z]; exact ⟨o, ho, fun v q => by rw [hd] at q; cases q⟩
  keep := fun i h h' st k => let ⟨⟨old, he⟩, hi, hne⟩ := st; ⟨⟨old, k e (by simp) _ he⟩, hi.at fun o q => k it (by simp) o q, hne⟩
  item := by
    intro X hP hw hK hc i pins s σ H E I hf st hg
    subst hP hw hK
    obtain ⟨⟨old, he⟩, hit, hne⟩ := st
    obtain ⟨xs, x, hq, hx⟩ := hg
    obtain ⟨its, rv, p, hz⟩ := I.tuple hq
    obtain ⟨u, hu, ru⟩ := rv.get hx
    have hel : e < s.heap.objs.size := Heap.lt_size he
    have hil : it < s.heap.objs.size := by obtain ⟨_, q, _⟩ := hit; exact Heap.lt_size q
    have hpT : s.heap.IsTuple a its.toArray := p
    have hai : a ≠ it := fun z => by
      subst z
      obtain ⟨o, ho, hc, hd⟩ := hit
      obtain ⟨o2, ho2, hc2, _⟩ := hpT
      rw [ho] at ho2; cases ho2
      rw [hc] at hc2; simp at hc2
    have hae : a ≠ e := fun z => by
      subst z
      obtain ⟨o2, ho2, hc2, _⟩ := hpT
      rw [he] at ho2; cases ho2
      simp at hc2
    have hlt : i < its.toArray.size := by
      rcases Nat.lt_or_ge i its.length with q | q
      · simpa using q
      · rw [List.getElem?_eq_none q] at hu; cases hu
    refine wpAny_pyNext_enum_itemD (A := X.A) (Draws.tuple (A := X.A.in1) (I.ok.hd hc) it a hai its.toArray) he ⟨hit, hpT⟩ hlt hne (by simp; exact ⟨hne, fun z => hae z.symm⟩) fun u' h' tk hP ho hst hT hsz hk => ?_
    obtain rfl : u' = u := by
      have : its.toArray[i]? = some u := by simpa using hu
      rw [this] at hP; cases hP; rfl
    refine ⟨_, rfl, wpAny_letOwnedTupleGo_enum (s := { s with heap := h', toks := tk + 1 }) ho fun h'' he' sb => ?_⟩
    have hT2 : h''.get? s.heap.objs.size = some { cls := .type "tuple", data := .seq #[.int i tk, u'] } := (sb.2 _ (Nat.ne_of_gt hel)).trans hT
    have new : ObjOk X.prog X.w (upd H s.heap.objs.size (.tup [.int (i : Nat), x])) h'' s.heap.objs.size (.tup [.int (i : Nat), x]) :=
      ⟨by show 2 ≤ sizeLine; decide, [.int i tk, u'], .cons ⟨_, rfl⟩ (.cons ru .nil), ⟨_, hT2, rfl, _, rfl⟩⟩
    have I1 : Inv X pins σ (upd H s.heap.objs.size (.tup [.int (i : Nat), x])) { s with heap := h'', toks := tk + 1 } :=
      I.turnedNew (ch := [e, it]) (fun b ob hb q => (sb.2 b (fun z => hb (by simp [z]))).trans (hk b ob (fun z => hb (by simp [z])) (fun z => hb (by simp [z])) q)) hf (Nat.le_refl _) new
    refine ⟨.ref s.heap.objs.size, _, I1, rfl, ⟨_, x, rfl, I.hok.fresh (Nat.le_refl _), rfl, fun ys hy => by rw [I.tuple_inj hy hq]; exact hx⟩, ⟨⟨u', ?_⟩, hst.1.at fun o q => (sb.2 it (Ne.symm hne)).trans q, hne⟩, fun b hb => ?_⟩
    · have e1 : ((i + 1 : Nat) : Int) = (i : Int) + 1 := by omega
      rw [e1]; exact he'
    · have hb' : b < s.heap.objs.size := by
        have e' : b = e ∨ b = it := by simpa using hb
        rcases e' with z | z
        · rw [z]; exact hel
        · rw [z]; exact hil
      rw [upd_ne (Nat.ne_of_lt hb')]
      exact (hf b hb).1
  done := by
    intro X hP hw hK hc i pins s σ H E I hf st hg
    subst hP hw hK
    obtain ⟨⟨old, he⟩, hit, hne⟩ := st
    obtain ⟨xs, hq, hx⟩ := hg
    obtain ⟨its, rv, p, hz⟩ := I.tuple hq
    obtain ⟨f0, f1, f2, f3, f4, f5⟩ := hf it (by simp)
    have hl := rv.length
    have hpT : s.heap.IsTuple a its.toArray := p
    have hT : s.TypeIs (.ref e) "enumerate" := ⟨_, he, rfl⟩
    unfold pyNext
    refine wpAny_bind (wpAny_attempt (wpAny_callSpecial?_slot (name := Str.ofString "__next__") hT F.slot_enumerate_next
      (wpAny_call_entry F.slot_enumerate_next hT F.entry_enumerate_next ?_ (F.args_enumerate_next_1 _))))
    show wpAny _ _ (field (.ref e) 2 >>= _) _ _ _
    refine wpAny_bind (wpAny_field he rfl (x := .ref it) rfl ?_)
    refine wpAny_bind (wpAny_nextOf_tuple_end (I.ok.hd hc) hit hpT (by simp; omega) fun h' x he' hx' => ?_)
    obtain ⟨o, ho, hc⟩ := hx'
    refine wpAny_bind (wpAny_isInstance (T := "StopIteration") (b := true) ⟨o, ho, hc⟩ isSubtype_stop ?_)
    exact wpAny_pure ⟨rfl, I.turned (t' := s.toks) (fun b o hb q => he' b o hb q) f0 f1 f3 f4 f5⟩
  self := fun A i s Q E st h => let ⟨⟨_, he⟩, _⟩ := st; wpAny_pyIter_enum he h
def iEnumT (K : PySem.W.Frag) (ta : TA) : TI := fun σ H R => ta σ H fun vs H1 => ∃ a xs, vs = [.ref a] ∧ SqT K H1 a xs ∧ R (IteT K a) H1
theorem pi_enumT {X : Cx} {e : Expr} {ta : TA} {p pos tpos : Pos} {elts : List Expr} {kk : Nat} (hg : Gl X "enumerate") (hm : X.mg "enumerate" = none) (ha : PA X [e] ta) (hs : starEach [e] X.env = [(false, eval e X.env)] := by rfl) :
    PI X (.Tuple elts kk tpos) (.Call (.Name "enumerate" p) [e] [] pos) (iEnumT X.K ta) := by
  refine ⟨fun pins s σ H R I h => ?_⟩
  refine PyProof.Rows.Call_ (ld_blt I hg hm boot_enumerate (PyProof.Rows.callWith_type1 (thn (ha.run pos pins s σ H _ I h) fun us s1 ⟨vs, H1, I1, r1, q1⟩ => ?_) hs rfl))
  obtain ⟨a, xs, ex, hq, q⟩ := q1
  subst ex
  cases r1 with
  | cons r rr =>
    cases rr
    cases r
    obtain ⟨its, rv, p', hz⟩ := I1.tuple hq
    have hpT : s1.heap.IsTuple a its.toArray := p'
    refine enum_begins1 (begins_tuple a its.toArray) hpT fun h' he hit hsz hk => wpAny_pyIter_enum he ?_
    have I2 : Inv X pins σ H1 { s1 with heap := h' } := I1.kept (t' := s1.toks) hk
    refine ⟨s1.heap.objs.size + 1, [s1.heap.objs.size + 1, s1.heap.objs.size], _, _, H1, rfl, I2, turn_enumT a (s1.heap.objs.size + 1) s1.heap.objs.size, ⟨⟨.none, he⟩, ⟨_, hit, rfl, rfl⟩, Nat.succ_ne_self _⟩, fun b hb => ?_, q⟩
    have e' : b = s1.heap.objs.size + 1 ∨ b = s1.heap.objs.size := by simpa using hb
    have hle : s1.heap.objs.size ≤ b := by
      rcases e' with z | z
      · rw [z]; exact Nat.le_add_right _ _
      · rw [z]; exact Nat.le_refl _
    exact I1.fpOk hle (I1.hok.fresh hle)
theorem PI.or {X : Cx} {tg e : Expr} {i1 i2 : TI} (h1 : PI X tg e i1) (h2 : PI X tg e i2) : PI X tg e (fun σ H R => i1 σ H R ∨ i2 σ H R) :=
  ⟨fun pins s σ H R I h => h.elim (h1.run pins s σ H R I) (h2.run pins s σ H R I)⟩
section
variable {K : PySem.W.Frag} {ca : String → Addr} {W : WX} {te : TE} {a : E}
theorem walk_enumT {a : Addr} {vs : List V} : Walk (IteT K a) vs.length (fun H => SqT K H a vs) (fun i H v H' => ∃ T x, v = .ref T ∧ H T = none ∧ H' = upd H T (.tup [.int (i : Nat), x]) ∧ ∀ xs, SqT K H a xs → xs[i]? = some x) :=
  ⟨fun i _ hi q => ⟨vs, vs[i]'hi, q, by simp [hi]⟩, fun _ q => ⟨vs, q, Nat.le_refl _⟩, fun _ _ _ _ _ _ y => y⟩
def wkET (A : Hs) (x : D) : Option Wk := (wkT A x).map fun k => ⟨enumL k.ds, k.gd⟩
theorem sw_enumT (h : SimE K ca W te a) : SimI K ca W (iEnumT K (tCons te tNil)) (wOf wkET a) := fun F m A σ H env Q R S p => wOf_bind h R S p fun F1 m1 A1 H1 x d kk R1 r hk p1 => by
  have main : ∀ {aa : Addr} {vs : List V} {l : List D}, SqT K F1 aa vs → RepL K ca F1 m1 vs l → kk = ⟨enumL l, tt⟩ → x = .ref aa → ∃ a xs, [x] = [.ref a] ∧ SqT K H1 a xs ∧ Q (IteT K a) H1 := fun {aa vs l} s rs e ex => by
    subst e; subst ex
    refine ⟨aa, vs, rfl, R1.fh.t s, p1 _ F1 m1 H1 R1 Stp.refl ⟨fun H => SqT K H aa vs, _, by rw [show (Wk.mk (enumL l) tt).ds.length = vs.length from enumL_len.trans rs.length.symm]; exact walk_enumT, fun F2 m2 A2 H2 hg R2 g2 => R2.fh.t (g2.ff.t s), fun i' d' x' F2 m2 A2 H2 H3 e hg R2 g2 y => .inr ?_⟩⟩
    obtain ⟨T, z, y1, y2, y3, y4⟩ := y
    obtain ⟨dx, q1, q2⟩ := enumL_get e
    obtain ⟨w, w1, w2⟩ := rs.get q1
    have := y4 _ (R2.fh.t (g2.ff.t s))
    rw [w1] at this; cases this
    exact ⟨T, _, _, q2, y1, y2, y3, .cons (.int _) (.cons (w2.mono g2.ff g2.mm) .nil)⟩
  cases r with
  | tup s rs => cases hk; exact main (.inl (.inl s)) rs rfl rfl
  | wt s rs => cases hk; exact main s rs rfl rfl
  | _ => cases hk
def wkEA (A : Hs) (x : D) : Option Wk := match x with
  | .tup _ => wkET A x
  | .wt _ => wkET A x
  | _ => wkE A x
def iEnumA (K : PySem.W.Frag) (ta : TA) : TI := fun σ H R => iEnum K ta σ H R ∨ iEnumT K ta σ H R
theorem sw_enumA (h : SimE K ca W te a) : SimI K ca W (iEnumA K (tCons te tNil)) (wOf wkEA a) := SimI.pick (sw_enum h) (sw_enumT h) (wOf_pick (f := wkEA) fun A x => by cases x <;> first | exact .inl rfl | exact .inr rfl)
theorem pi_enumA {X : Cx} {e : Expr} {ta : TA} {p pos tpos : Pos} {elts : List Expr} {kk : Nat} (hg : Gl X "enumerate") (hm : X.mg "enumerate" = none) (ha : PA X [e] ta) (hs : starEach [e] X.env = [(false, eval e X.env)] := by rfl) :
    PI X (.Tuple elts kk tpos) (.Call (.Name "enumerate" p) [e] [] pos) (iEnumA X.K ta) := PI.or (pi_enum hg hm ha hs) (pi_enumT hg hm ha hs)
theorem z26 {A : Hs} {i : Nat} : wkEA A (.ref i) = we_ A i A[i]? := z80
theorem z1v {A : Hs} {l : List D} : wkEA A (.tup l) = some ⟨enumL l, tt⟩ := rfl
theorem z2o {A : Hs} {l : List D} : wkEA A (.scr l) = some ⟨enumL l, tt⟩ := rfl
end
end SM

/-! ## d.pop(k), d.pop(k, e) -/
namespace SM
open PySem L2
open DL (Ex ExK)
section
variable {K : PySem.W.Frag} {ca : String → Addr} {F F1 F2 H H1 H2 : Hp} {m m1 m2 : List Addr} {A A1 A2 : Hs} {σ : L2.St} {env : Sl} {W : WX} {Q : VK}
variable {to ti ta tb tc te tz : TE} {a b c e : E} {i : Nat} {d : D} {ts : TA} {as : As} {x y : V} {dx dy : D}
def oDPop (x y : D) (A : Hs) : RE D := match x with
  | .ref i => match A[i]? with
    | some (.dic false false l) => match keyK y, kget l y with
      | some _, some d => .ok d (A.set i (.dic false false (kdel l y)))
      | _, _ => .stuck
    | _ => .stuck
  | _ => .stuck
theorem dk_at {l : List (D × D)} {t : Nat} (R : Rl K ca F m A H) (rx : Rep K ca F m x (.ref t)) (hA : A[t]? = some (.dic false false l)) : ∃ a kvs, x = .ref a ∧ m[t]? = some a ∧ H a = some (.dK kvs) ∧ KvR K ca F m kD kvs l := by
  obtain ⟨a, e, ha, r⟩ := R.at hA rx
  obtain ⟨kvs, h1, h2⟩ := r
  exact ⟨a, kvs, e, ha, h1, h2⟩
theorem dk_drop {kk : Key} {l : List (D × D)} {t : Nat} {aa : Addr} {kvs : List (Key × V)} (R : Rl K ca F m A H) (ha : m[t]? = some aa) (h1 : H aa = some (.dK kvs)) (h2 : KvR K ca F m kD kvs l) : Rl K ca F m (A.set t (.dic false false (kdel l (kD kk)))) (upd H aa (.dK (dropK kvs kk))) ∧ Stp F m H F m (upd H aa (.dK (dropK kvs kk))) :=
  R.put (u := .dK (dropK kvs kk)) (o' := .dic false false (kdel l (kD kk))) ha (fun od w z => by rw [h1] at z; cases z) ⟨_, upd_same, kdel_rep keq_kD h2⟩
theorem kV_of {kk : Key} (r : Rep K ca F m y (kD kk)) : y = kV kk := by
  cases kk with
  | inl i => cases r; rfl
  | inr x => cases r; rfl
theorem dpop_at {t : Nat} (R : Rl K ca F m A H) (rx : Rep K ca F m x (.ref t)) (ry : Rep K ca F m y dy) (p : Po K ca (Rep K ca) F m H W σ Q (oDPop (.ref t) dy A)) : ∃ a kvs k v, x = .ref a ∧ H a = some (.dK kvs) ∧ y = kV k ∧ valV kvs k = some v ∧ Q v (upd H a (.dK (dropK kvs k))) := by
  unfold oDPop at p
  simp only at p
  cases hA : A[t]? with
  | none => simp only [hA] at p; exact p.elim
  | some o =>
    cases o with
    | lst _ => simp only [hA] at p; exact p.elim
    | obj _ _ => simp only [hA] at p; exact p.elim
    | dic tt lk l =>
      cases tt with
      | true => simp only [hA] at p; exact p.elim
      | false =>
        cases lk with
        | true => simp only [hA] at p; exact p.elim
        | false =>
          simp only [hA] at p
          cases z : keyK dy with
          | none => simp only [z] at p; exact p.elim
          | some kk =>
            simp only [z] at p
            have e2 := keyK_kD z
            subst e2
            cases g : kget l (kD kk) with
            | none => simp only [g] at p; exact p.elim
            | some dd =>
              simp only [g] at p
              obtain ⟨aa, kvs, e, ha, h1, h2⟩ := dk_at R rx hA
              obtain ⟨v, g1, g2⟩ := (kget_rep keq_kD (k := kk) h2).1 dd g
              obtain ⟨R2, s2⟩ := dk_drop (kk := kk) R ha h1 h2
              exact ⟨aa, kvs, kk, v, e, h1, kV_of ry, g1, p v F m _ R2 s2 g2⟩
def eDPop (a b : E) : E := fun env A => (a env A).bind fun x A1 => if isDic A1 x then (b env A1).bind fun y A2 => oDPop x y A2 else .stuck
theorem se_dpop (ho : SimE K ca W to a) (hi : SimE K ca W ti b) : SimE K ca W (tDPop1 to ti) (eDPop a b) := fun F m A σ H env Q R S p =>
  ho.bind R S p fun F1 m1 A1 H1 x dx R1 g1 S1 rx p1 => by
    by_cases q : isDic A1 dx = true
    · rw [if_pos q] at p1
      obtain ⟨aa, e1, h1⟩ := isD_of R1 rx q
      refine ⟨aa, e1, h1, hi.bind R1 S1 p1 fun F2 m2 A2 H2 y dy R2 g2 S2 ry p2 => ?_⟩
      cases dx with
      | ref t =>
        obtain ⟨a2, kvs, k, v, e2, q2⟩ := dpop_at R2 (rx.mono g2.ff g2.mm) ry p2
        rw [e1] at e2; cases e2
        exact ⟨kvs, k, v, q2⟩
      | _ => exact p2.elim
    · rw [if_neg q] at p1; exact p1.elim
def ePop1 (a b : E) : E := fun env A => (a env A).bind fun x A1 => if isDic A1 x then (b env A1).bind fun y A2 => oDPop x y A2 else if (seqL A1 x).isSome then ((aCons b aNil) env A1).bind fun ds A2 => oPopAt x ds A2 else .stuck
theorem se_pop1 (ho : SimE K ca W to a) (hi : SimE K ca W ti b) : SimE K ca W (fun σ H Q => tDPop1 to ti σ H Q ∨ tBM K "list" rPopAt to (tCons ti tNil) σ H Q) (ePop1 a b) := Sim.pick (se_dpop ho hi) (se_bl_ ms_popAt ho (sa_cons hi sa_nil)) fun env A => by
  unfold ePop1 eDPop eBL
  cases a env A with
  | ok x A1 =>
    simp only [RE.bind]
    by_cases q : isDic A1 x = true
    · left; rw [if_pos q, if_pos q]
    · right; rw [if_neg q]
  | exc _ _ => exact .inl rfl
  | stuck => exact .inl rfl
/-- with a way out -/
def oDPop2 (x y z : D) (A : Hs) : RE D := match x with
  | .ref i => match A[i]? with
    | some (.dic false false l) => match keyK y with
      | some _ => match kget l y with
        | some d => .ok d (A.set i (.dic false false (kdel l y)))
        | none => .ok z A
      | _ => .stuck
    | _ => .stuck
  | _ => .stuck
def eDPop2 (a b c : E) : E := fun env A => (a env A).bind fun x A1 => if isDic A1 x then (b env A1).bind fun y A2 => (c env A2).bind fun z A3 => oDPop2 x y z A3 else .stuck
end
section
variable {A : Hs} {env : Sl} {a b c : E} {i : Nat} {x y z d : D} {kv : List (D × D)} {l : List D} {fs : List (String × D)} {C : String} {t lk : Bool} {n : Nat}
def isd_ : Option O → Bool
  | some (.dic _ _ _) => true
  | _ => false
theorem z6m : isd_ (some (.dic t lk kv)) = true := rfl
theorem z7e : isd_ (some (.lst l)) = false := rfl
theorem z46 : isDic A (.ref i) = isd_ A[i]? := by
  unfold isDic dicAt
  rcases h : A[i]? with _ | u
  · simp only [h]; rfl
  · cases u <;> simp only [h] <;> rfl
theorem z15 : isDic A (.scr l) = false := rfl
theorem z58 : ePop1 a b env A = (a env A).bind fun x A1 => if isDic A1 x = true then (b env A1).bind fun y A2 => oDPop x y A2 else if (seqL A1 x).isSome = true then ((aCons b aNil) env A1).bind fun ds A2 => oPopAt x ds A2 else .stuck := rfl
theorem z3n : eDPop2 a b c env A = (a env A).bind fun x A1 => if isDic A1 x = true then (b env A1).bind fun y A2 => (c env A2).bind fun z A3 => oDPop2 x y z A3 else .stuck := rfl
def dp_ (A : Hs) (i : Nat) (y : D) (kv : List (D × D)) : Option D → RE D
  | some d => if (keyK y).isSome = true then .ok d (A.set i (.dic false false (kdel kv y))) else .stuck
  | none => .stuck
theorem z9j : dp_ A i y kv (some d) = if (keyK y).isSome = true then .ok d (A.set i (.dic false false (kdel kv y))) else .stuck := rfl
def dpo_ (A : Hs) (i : Nat) (y : D) : Option O → RE D
  | some (.dic false false kv) => dp_ A i y kv (kget kv y)
  | _ => .stuck
theorem z6u : dpo_ A i y (some (.dic false false kv)) = dp_ A i y kv (kget kv y) := rfl
theorem z3j : oDPop (.ref i) y A = dpo_ A i y A[i]? := by
  unfold oDPop dpo_ dp_
  rcases h : A[i]? with _ | u
  · simp only [h]
  · cases u with
    | dic t lk kv => cases t <;> cases lk <;> simp only [h] <;> (cases keyK y <;> cases kget kv y <;> rfl)
    | _ => simp only [h]
theorem z66 {p : Int} : keyK (.int p) = some (.inl p) := rfl
theorem z5u {s : Str} : keyK (.str s) = some (.inr s) := rfl
theorem z45 {s : String} : keyK (dS s) = some (.inr (fS s)) := rfl
/-- y in a list's, tuple's items -/
def inl_ (A : Hs) (y : D) (l : List D) (neg : Bool) : RE D := match pyA A 40 y, allSome (l.map (pyA A 39)) with
  | some p, some ps => .ok (.bl (if neg then !(ps.any fun z => PyData.eqv z p) else ps.any fun z => PyData.eqv z p)) A
  | _, _ => .stuck
def in_ (A : Hs) (y : D) (neg : Bool) : Option O → RE D
  | some (.dic t _ kv) => if keyOk t y = true then .ok (.bl (if neg then !(kget kv y).isSome else (kget kv y).isSome)) A else .stuck
  | some (.lst l) => inl_ A y l neg
  | _ => .stuck
theorem z9p {neg : Bool} : in_ A y neg (some (.dic t lk kv)) = if keyOk t y = true then .ok (.bl (if neg then !(kget kv y).isSome else (kget kv y).isSome)) A else .stuck := rfl
theorem z8h {neg : Bool} : in_ A y neg (some (.lst l)) = inl_ A y l neg := rfl
theorem inData_l (h : pyA A 40 x = (allSome (l.map (pyA A 39))).map PyData.list ∨ pyA A 40 x = (allSome (l.map (pyA A 39))).map PyData.tuple) : inData A y x = match pyA A 40 y, allSome (l.map (pyA A 39)) with
  | some p, some ps => some (ps.any fun z => PyData.eqv z p)
  | _, _ => none := by
  unfold inData
  rcases h with h | h <;> rw [h] <;> (cases pyA A 40 y <;> cases allSome (l.map (pyA A 39)) <;> rfl)
theorem z6e : oIn y (.ref i) A = in_ A y false A[i]? := by
  unfold oIn oB inA
  rcases h : A[i]? with _ | u
  · have : pyA A 40 (.ref i) = none := by rw [pyA]; simp only [h]
    simp only [dicAt, h, inData, this]; cases pyA A 40 y <;> rfl
  · cases u with
    | dic t lk kv => simp only [dicAt, h, inDic, z9p]; cases keyOk t y <;> simp [Option.map]
    | lst l =>
      have := inData_l (A := A) (x := .ref i) (y := y) (l := l) (.inl (py_lst h))
      simp only [dicAt, h, this, z8h, inl_]
      cases pyA A 40 y <;> cases allSome (l.map (pyA A 39)) <;> rfl
    | obj C f =>
      have : pyA A 40 (.ref i) = none := by rw [pyA]; simp only [h]
      simp only [dicAt, h, inData, this]; cases pyA A 40 y <;> rfl
theorem z2j : oNotIn y (.ref i) A = in_ A y true A[i]? := by
  unfold oNotIn oB inA
  rcases h : A[i]? with _ | u
  · have : pyA A 40 (.ref i) = none := by rw [pyA]; simp only [h]
    simp only [dicAt, h, inData, this]; cases pyA A 40 y <;> rfl
  · cases u with
    | dic t lk kv => simp only [dicAt, h, inDic, z9p]; cases keyOk t y <;> simp [Option.map]
    | lst l =>
      have := inData_l (A := A) (x := .ref i) (y := y) (l := l) (.inl (py_lst h))
      simp only [dicAt, h, this, z8h, inl_]
      cases pyA A 40 y <;> cases allSome (l.map (pyA A 39)) <;> rfl
    | obj C f =>
      have : pyA A 40 (.ref i) = none := by rw [pyA]; simp only [h]
      simp only [dicAt, h, inData, this]; cases pyA A 40 y <;> rfl
theorem z6r : oIn y (.tup l) A = inl_ A y l false := by
  have := inData_l (A := A) (x := .tup l) (y := y) (l := l) (.inr (by rw [pyA]))
  unfold oIn oB inA
  simp only [dicAt, this, inl_]
  cases pyA A 40 y <;> cases allSome (l.map (pyA A 39)) <;> rfl
theorem z2e : oNotIn y (.tup l) A = inl_ A y l true := by
  have := inData_l (A := A) (x := .tup l) (y := y) (l := l) (.inr (by rw [pyA]))
  unfold oNotIn oB inA
  simp only [dicAt, this, inl_]
  cases pyA A 40 y <;> cases allSome (l.map (pyA A 39)) <;> rfl
theorem py_ints {ns : List Int} : allSome ((ns.map D.int).map (pyA A n)) = some (ns.map PyData.int) := by
  induction ns with
  | nil => rfl
  | cons b r ih => rw [List.map_cons, List.map_cons, show pyA A n (.int b) = some (.int b) by cases n <;> simp [pyA], allSome, ih]; rfl
theorem z2b {ns : List Int} {p : Int} {neg : Bool} : inl_ A (.int p) (ns.map D.int) neg = .ok (.bl (if neg then !decide (p ∈ ns) else decide (p ∈ ns))) A := by
  unfold inl_
  rw [py_ints, show pyA A 40 (.int p) = some (.int p) by simp [pyA]]
  have : ((ns.map PyData.int).any fun z => PyData.eqv z (.int p)) = decide (p ∈ ns) := by
    rw [List.any_map]
    induction ns with
    | nil => rfl
    | cons b r ih =>
      rw [List.any_cons, ih]
      simp [PyData.eqv]
      congr 1
      rw [Bool.eq_iff_iff, beq_iff_eq, decide_eq_true_eq]; exact eq_comm
  simp only [this]
end
end SM

/-! ## more equations -/
namespace SM
open PySem L2
section
variable {A A1 A2 : Hs} {env : Sl} {a b c : E} {x y z d : D} {l : List D} {os xs : List String} {tb : List (String × String × Bool)} {s : String}
theorem z14 : oIsi os xs tb (dS s) (.ty "str") A = .ok (.bl true) A := rfl
theorem z16 : oIsi os xs tb (dS s) (.ty "int") A = .ok (.bl false) A := rfl
theorem z0h : oIsi os xs tb (dS s) (.ty "bool") A = .ok (.bl false) A := rfl
theorem z04 : oIsi os xs tb (dS s) (.ty "tuple") A = .ok (.bl false) A := rfl
/-- a comprehension by what stays true of what it has made -/
theorem lc_run {g : G} {t : Tt} {gd : Hs → Prop} (P : Nat → List D → Hs → Prop) {ds : List D} (h0 : P 0 [] A) (hl : ds.length < 16000000) (hg : ∀ i l A, P i l A → gd A)
    (hs : ∀ i d, ds[i]? = some d → ∀ l A, P i l A → Got (g d env A) fun e1 => Rk (t e1 A) (Tst (fun A1 => Rk (a e1 A1) fun v A2 => P (i + 1) (l ++ [v]) A2) fun A1 => P (i + 1) l A1)) : Rk (lcL g t a gd env ds [] A) (P ds.length) := by
  have main : ∀ (n i : Nat) (acc : List D) (A : Hs), n + i = ds.length → P i acc A → acc.length ≤ i → Rk (lcL g t a gd env (ds.drop i) acc A) (P ds.length) := by
    intro n
    induction n with
    | zero =>
      intro i acc A hi h0 hle
      have : i = ds.length := by omega
      subst this
      rw [List.drop_length, lcL, if_pos (hg _ _ _ h0)]; exact h0
    | succ n ih =>
      intro i acc A hi h0 hle
      have hlt : i < ds.length := by omega
      have h2 := hs i ds[i] (by simp [hlt]) acc A h0
      rw [List.drop_eq_getElem_cons hlt]
      cases q0 : g ds[i] env A with
      | none => rw [q0] at h2; exact h2.elim
      | some e1 =>
        rw [q0, z76] at h2
        obtain ⟨c, A1, e, h3⟩ := h2.ex
        rw [lcL, if_pos (hg _ _ _ h0), q0]
        simp only [e]
        cases c with
        | false => exact ih (i + 1) acc A1 (by omega) h3 (by omega)
        | true =>
          obtain ⟨v, A2, e2, h4⟩ := Rk.ex h3
          simp only [e2]
          rw [if_pos (small_line' (by omega))]
          exact ih (i + 1) _ A2 (by omega) h4 (by rw [List.length_append, List.length_singleton]; omega)
  have := main ds.length 0 [] A rfl h0 (Nat.le_refl _)
  rwa [List.drop_zero] at this
def kset_ (y v : D) (kv : List (D × D)) : List (D × D) := kv.map fun p => if keq p.1 y then (p.1, v) else p
theorem z1q {v : D} : kset_ y v [] = [] := rfl
theorem z0q {v : D} {kv : List (D × D)} : kset_ y v ((x, z) :: kv) = (if keq x y = true then (x, v) else (x, z)) :: kset_ y v kv := rfl
theorem z2n : khas [] y = false := rfl
theorem z12 {kv : List (D × D)} : khas ((x, z) :: kv) y = if keq x y = true then true else khas kv y := by
  unfold khas; rw [List.any_cons]; cases keq x y <;> rfl
theorem z2h {v : D} : kput [] y v = [(y, v)] := rfl
theorem z10 {v : D} {kv : List (D × D)} : kput ((x, z) :: kv) y v = if khas ((x, z) :: kv) y = true then kset_ y v ((x, z) :: kv) else ((x, z) :: kv) ++ [(y, v)] := rfl
theorem z74 : dNil env A = .ok [] A := rfl
theorem z4s {k v : E} {r : Dps} : dCons k v r env A = (k env A).bind fun x A1 => (v env A1).bind fun y A2 => (r env A2).bind fun ps A3 => .ok ((x, y) :: ps) A3 := rfl
def dsp_ (A : Hs) (ps : List (D × D)) : RE D := if (ps.all fun p => (keyK p.1).isSome) && decide (ps.length ≤ 15) then alloc A (.dic false false (kmerge [] ps)) else .stuck
theorem z59 {d : Dps} : eDisp d env A = (d env A).bind fun ps A1 => dsp_ A1 ps := rfl
theorem z5t {ps : List (D × D)} (h : (ps.all fun p => (keyK p.1).isSome) = true) (hl : ps.length ≤ 15) : dsp_ A ps = .ok (.ref A.length) (A ++ [.dic false false (kmerge [] ps)]) := by
  unfold dsp_; rw [h, decide_eq_true hl]; rfl
theorem z0k {l : List (D × D)} : kmerge l [] = l := by rw [kmerge]
theorem z00 {l r : List (D × D)} {v : D} : kmerge l ((x, v) :: r) = kmerge (kput l x v) r := by rw [kmerge]
theorem lc_rk {r : RE (List D)} {P : D → Hs → Prop} (h : Rk r fun l A => P (.ref A.length) (A ++ [.lst l])) : Rk (lc_ r) P := by
  obtain ⟨l, A1, e, p⟩ := h.ex
  rw [e]; exact p
end
end SM

/-! ## min of four -/
namespace PySem
open Sem (wp)
section
variable {prog : Program} {w : World} {A : Around} {E : Value → Shared → Prop} {s : Shared}
end
end PySem
namespace SM
open PySem L2
section
variable {K : PySem.W.Frag} {ca : String → Addr}
def c4 (f : D → D → D → D → Hs → RE D) : List D → Hs → RE D := fun ds A => match ds with
  | [d, e, g, h] => f d e g h A
  | _ => .stuck
def oMin4 (x y z w : D) (A : Hs) : RE D := match x, y, z, w with
  | .int i, .int j, .int k, .int l => .ok (.int (min (min (min i j) k) l)) A
  | _, _, _, _ => .stuck
end
theorem c4_ {A : Hs} {d d1 d2 d3 : D} {f : D → D → D → D → Hs → RE D} : c4 f [d, d1, d2, d3] A = f d d1 d2 d3 A := rfl
theorem z4b {A : Hs} {p q r s : Int} : oMin4 (.int p) (.int q) (.int r) (.int s) A = .ok (.int (min (min (min p q) r) s)) A := rfl
def ad_ (A : Hs) : Option (List D) → Option (List D) → RE D
  | some l, some k => if l.length + k.length ≤ sizeLine then .ok (.ref A.length) (A ++ [.lst (l ++ k)]) else .stuck
  | _, _ => .stuck
theorem z8x {A : Hs} {l k : List D} (h : l.length + k.length ≤ 16000000) : ad_ A (some l) (some k) = .ok (.ref A.length) (A ++ [.lst (l ++ k)]) := by
  show (if l.length + k.length ≤ sizeLine then _ else _) = _
  rw [if_pos (z0l h)]
theorem z65 {A : Hs} {i j : Nat} : oAdd (.ref i) (.ref j) A = ad_ A (sq_ A[i]?) (sq_ A[j]?) := by
  unfold oAdd ad_ sq_
  simp only
  rcases A[i]? with _ | u
  · rfl
  · cases u with
    | lst l =>
      rcases A[j]? with _ | v
      · rfl
      · cases v <;> rfl
    | _ => rfl
/-- a statement that goes on, by what holds of it -/
def Nx (r : RS) (P : Sl → Hs → Prop) : Prop := match r with
  | .nx e A => P e A
  | _ => False
theorem z6q {e : Sl} {A : Hs} {P : Sl → Hs → Prop} : Nx (.nx e A) P = P e A := rfl
theorem Nx.call {r : RS} {P : Sl → Hs → Prop} (Q : RS → Prop) (h : Nx r P) (k : ∀ e A, P e A → Q (.nx e A)) : Q r := by
  cases r with
  | nx e A => exact k e A h
  | _ => exact h.elim
theorem rep_nS {n : Nat} : List.replicate (n + 1) (none : Option D) = none :: List.replicate n none := rfl
theorem rep_n0 : List.replicate 0 (none : Option D) = [] := rfl
end SM

/-! ## list.index of flat items -/
namespace SM
open PySem L2
open DL (Ex ExK)
def fV : D → Option V
  | .non => some .non
  | .bl b => some (.bl b)
  | .int i => some (.int i)
  | .str s => some (.str s)
  | _ => none
def fVs : List D → Option (List V)
  | [] => some []
  | d :: r => match fV d, fVs r with
    | some v, some vs => some (v :: vs)
    | _, _ => none
section
variable {K : PySem.W.Frag} {ca : String → Addr} {F : Hp} {m : List Addr}
end
/-- the first place of y -/
def idxV (y : V) : List V → Option Nat
  | [] => none
  | z :: r => if eqV z y = true then some 0 else (idxV y r).map (· + 1)
def oIndex (x : D) (ds : List D) (A : Hs) : RE D := match (seqL A x).bind fVs, ds with
  | some ws, [d] => match fV d with
    | some y => match idxV y ws with
      | some j => .ok (.int (j : Nat)) A
      | none => .stuck
    | none => .stuck
  | _, _ => .stuck
section
variable {K : PySem.W.Frag} {ca : String → Addr}
end
/-! equations -/
section
variable {A : Hs} {x y d : D} {i : Nat} {l : List D}
def ix3 (A : Hs) (y : V) : Option (List V) → RE D
  | some ws => at_ A ((idxV y ws).map fun j => .int (j : Nat))
  | none => .stuck
theorem z2p {b : Bool} : oIndex (.ref i) [.bl b] A = ix3 A (.bl b) ((sq_ A[i]?).bind fVs) := by
  unfold oIndex ix3; rw [z61]
  cases (sq_ A[i]?).bind fVs with
  | none => rfl
  | some ws => simp only [fV]; cases idxV (V.bl b) ws <;> rfl
theorem z25 {n : Int} : oIndex (.ref i) [.int n] A = ix3 A (.int n) ((sq_ A[i]?).bind fVs) := by
  unfold oIndex ix3; rw [z61]
  cases (sq_ A[i]?).bind fVs with
  | none => rfl
  | some ws => simp only [fV]; cases idxV (V.int n) ws <;> rfl
theorem z7p {y : V} {ws : List V} : ix3 A y (some ws) = at_ A ((idxV y ws).map fun j => .int (j : Nat)) := rfl
theorem z3w : fVs [] = some [] := rfl
theorem z7t {b : Bool} {r : List D} : fVs (.bl b :: r) = (fVs r).map (V.bl b :: ·) := by
  conv => lhs; unfold fVs
  simp only [fV]; cases fVs r <;> rfl
theorem z7z {b : Int} {r : List D} : fVs (.int b :: r) = (fVs r).map (V.int b :: ·) := by
  conv => lhs; unfold fVs
  simp only [fV]; cases fVs r <;> rfl
theorem z22 {y : V} : idxV y [] = none := rfl
theorem z5b {b c : Bool} {r : List V} : idxV (.bl c) (.bl b :: r) = if b = c then some 0 else (idxV (.bl c) r).map (· + 1) := by
  rw [idxV]; cases b <;> cases c <;> rfl
end
/-! try, count -/
section
variable {A A1 : Hs} {env e1 : Sl} {d : D} {i j : Nat} {C : String} {cts : List String} {b s : S}
def tryK_ (cts : List String) (i j : Nat) (r : RS) : RS := match r with
  | .exc C env1 A1 => if C ∈ cts then .nx (((env1.set i (some (.exc C))).set j (some (.exc C))).set i none) A1 else .stuck
  | r => r
theorem z55 : sTryK cts i j b env A = tryK_ cts i j (b env A) := rfl
theorem z3r : tryK_ cts i j (.nx env A) = .nx env A := rfl
theorem z4c : tryK_ cts i j (.rt d A) = .rt d A := rfl
theorem z1u (h : C ∈ cts) : tryK_ cts i j (.exc C env A) = .nx (((env.set i (some (.exc C))).set j (some (.exc C))).set i none) A := if_pos h
def tryO_ (cts : List String) (s : S) (r : RS) : RS := match r with
  | .exc C env1 A1 => if C ∈ cts then s env1 A1 else .stuck
  | r => r
theorem z5y : sTryO cts b s env A = tryO_ cts s (b env A) := rfl
theorem z2s : tryO_ cts s (.nx env A) = .nx env A := rfl
theorem z3y : tryO_ cts s (.rt d A) = .rt d A := rfl
theorem z2i (h : C ∈ cts) : tryO_ cts s (.exc C env A) = s env A := if_pos h
def cn_ (A : Hs) (c : Bool) : Option (List Bool) → RE D
  | some bs => .ok (.int (bs.count c : Nat)) A
  | none => .stuck
theorem z1p {c : Bool} : oCount (.ref i) [.bl c] A = cn_ A c ((sq_ A[i]?).bind boolsOf) := by
  unfold oCount; rw [z61]; cases (sq_ A[i]?).bind boolsOf <;> rfl
theorem z8g {c : Bool} {bs : List Bool} : cn_ A c (some bs) = .ok (.int (bs.count c : Nat)) A := rfl
theorem z4y : boolsOf [] = some [] := rfl
theorem z3f {c : Bool} {r : List D} : boolsOf (.bl c :: r) = (boolsOf r).map (c :: ·) := rfl
theorem z2w {c : Bool} : List.count c [] = 0 := rfl
theorem z1y {c b : Bool} {r : List Bool} : List.count c (b :: r) = List.count c r + (if b = c then 1 else 0) := by
  rw [List.count_cons]; cases b <;> cases c <;> rfl
end
/-! a, b, c = x, y, z -/
def sPar3 (i j l : Nat) (as : As) : S := fun env A => match as env A with
  | .ok [x, y, z] A1 => .nx (((env.set i (some x)).set j (some y)).set l (some z)) A1
  | .exc C A1 => .exc C env A1
  | _ => .stuck
section
variable {K : PySem.W.Frag} {ca : String → Addr} {W : WX} {i j l : Nat} {as : As} {ts : TA} {A : Hs} {env : Sl} {x y z : D}
def par3_ (env : Sl) (i j l : Nat) (r : RE (List D)) : RS := match r with
  | .ok [x, y, z] A1 => .nx (((env.set i (some x)).set j (some y)).set l (some z)) A1
  | .exc C A1 => .exc C env A1
  | _ => .stuck
theorem z4p : sPar3 i j l as env A = par3_ env i j l (as env A) := rfl
theorem z32 : par3_ env i j l (.ok [x, y, z] A) = .nx (((env.set i (some x)).set j (some y)).set l (some z)) A := rfl
end
/-- o.f where a block stands -/
theorem pe_fldK {X : Cx} {K : PySem.W.Frag} {e : Expr} {f : Str} {pos : Pos} {ta : TE} (hK : X.K = K) (he : PE X e ta) (hb : attributeBase e f X.env (eval e X.env) = eval e X.env) : PE X (.Attribute e f pos) (tFld K ta f) := by
  subst hK; exact pe_fld he hb
/-! tuple(range(n)) -/
def eTupRg (a : E) : E := fun env A => (a env A).bind fun x A1 => match x with
  | .int n => if 0 ≤ n ∧ n ≤ 16777216 then .ok (.tup (rgL 0 1 n.toNat)) A1 else .stuck
  | _ => .stuck
section
variable {K : PySem.W.Frag} {ca : String → Addr} {W : WX} {te : TE} {a : E} {A : Hs} {n : Int}
def tupRg_ (A : Hs) : D → RE D
  | .int n => if 0 ≤ n ∧ n ≤ 16777216 then .ok (.tup (rgL 0 1 n.toNat)) A else .stuck
  | _ => .stuck
theorem z3h {env : Sl} : eTupRg a env A = (a env A).bind fun x A1 => tupRg_ A1 x := by
  unfold eTupRg tupRg_; rfl
theorem z2x (h : 0 ≤ n ∧ n ≤ 16777216) : tupRg_ A (.int n) = .ok (.tup (rgL 0 1 n.toNat)) A := if_pos h
end
/-- a def that has a second name -/
theorem Dx.of2 {P : Program} {w : World} {K : PySem.W.Frag} {mg : Str → Option Value} {base : Heap} {k : Nat} {x x0 qn : Str} {st : Stmt} {fa : Addr} {fd : FuncData} {ps : List Str} {sp : Sp} (h : FnOk P w K mg base (L2.CX P w) k fa fd ps sp) (F : Fun K x0 qn st fa fd) (hm : mg x = some (.ref fa)) (b : Binds K fd ps []) : DL.Dx P w K mg base k x sp := ⟨fa, fd, ps, h, hm, F.kp, b⟩
end SM

/-! ## defs with defaults -/
namespace L2
open PySem PySem.Spec PyProof.Rows
section
variable {X : Cx} {CX : CXT} {k : Nat} {f C : Addr} {fd : FuncData} {ps : List Str} {sp : Sp} {E : St → XK} {x : Str} {p pos : Pos} {e : Expr} {es : List Expr} {t : TA} {ds : List Value} {dvs : List V}
theorem run_makeD {pins : List (Addr × Obj)} {σ : St} {H : Hp} {s : Shared} {Q : VK} {us : List Value} {vs : List V} (M : Mk X.K C f) (F : FnOk X.prog X.w X.K X.mg X.base CX k f fd ps sp) (hr : Room (k + 1) X.A) (hb : Binds X.K fd ps ds) (hd : Vals dvs ds)
    (hx : PassesAt CX X σ (E σ)) (I : Inv X pins σ H s) (r : Vals vs us)
    (h : ∀ x dx, H x = none → H dx = none → dx ≠ x → sp (.ref x :: (vs ++ dvs)) (upd (upd H dx (.own x)) x (.ins C dx [])) (fun v H2 => v = .non ∧ Q (.ref x) H2) (E σ)) :
    wpAny (model X.prog X.w) X.A (call (.ref C) us) (EP X pins σ Q) X.xe s := by
  have hq := h (s.heap.objs.size + 1) s.heap.objs.size (I.hok.fresh (Nat.le_succ _)) (I.hok.fresh (Nat.le_refl _)) (Nat.ne_of_lt (Nat.lt_succ_self _))
  have I2 := Inv.made (C := C) I
  have r2 : Vals (V.ref (s.heap.objs.size + 1) :: (vs ++ dvs)) (Value.ref (s.heap.objs.size + 1) :: (us ++ ds)) := .cons rfl (r.append hd)
  have hl : ((Value.ref (s.heap.objs.size + 1) :: us) ++ ds).length = ps.length := by
    have e := r2.length
    rw [F.len _ _ _ _ hq] at e
    exact e.symm
  have b := hb _ (Value.ref (s.heap.objs.size + 1) :: us) I2.kIn hl
  refine wpAny_call (make_map (f := f) I.kIn M.makes M.init (beq_iff_eq.mp M.fn) (codeAny_mono (F.run _ X.stack _ _ ⟨Value.ref (s.heap.objs.size + 1) :: us, []⟩ (Value.ref (s.heap.objs.size + 1) :: (us ++ ds)) _ _ (E σ) (hr.make C us [])
    (I2.env0.make C us []) b r2 hq) fun r s' hq' => ?_))
  cases r with
  | error e => exact hx pins _ _ e s' I2 hq'
  | ok fl =>
    cases fl with
    | ret u =>
      obtain ⟨v, H', I3, rv, ev, q3⟩ := I2.after hq'
      subst ev
      exact ⟨rv, ⟨V.ref (s.heap.objs.size + 1), H', I3, rfl, q3⟩⟩
    | next => exact False.elim hq'
    | brk => exact False.elim hq'
    | cont => exact False.elim hq'
def tMakeD (C : Addr) (sp : Sp) (dvs : List V) (E : St → XK) (t : TA) : TE := fun σ H Q => t σ H fun vs H1 => ∀ x dx, H1 x = none → H1 dx = none → dx ≠ x →
  sp (.ref x :: (vs ++ dvs)) (upd (upd H1 dx (.own x)) x (.ins C dx [])) (fun v H2 => v = .non ∧ Q (.ref x) H2) (E σ)
theorem pe_makeD (M : Mk X.K C f) (F : FnOk X.prog X.w X.K X.mg X.base CX k f fd ps sp) (hr : Room (k + 1) X.A) (hg : Gl X x) (hm : X.mg x = some (.ref C)) (hb : Binds X.K fd ps ds) (hd : Vals dvs ds) (hx : ∀ σ, PassesAt CX X σ (E σ))
    (ha : PA X (e :: es) t) (hdb : (x == ("__debug__" : Str)) = false := by decide) (he : starEach (e :: es) X.env = (false, eval e X.env) :: starEach es X.env := by rfl) (hpl : (backTo pos (starEach es X.env)).any (·.1) = false := by rfl) :
    PE X (.Call (.Name x p) (e :: es) [] pos) (tMakeD C sp dvs E t) := by
  refine ⟨fun pins s σ H Q I h => ?_⟩
  refine wpAny_Call_Name_kw (ld_glob I hg hm ?_ hdb)
  refine PySem.W.callWith_K (h₀ := X.base) I.ok.mod.kin M.kp (thn (ha.run pos pins s σ H _ I h) fun us s1 ⟨vs, H1, I1, r, q⟩ => ⟨I1.kIn, ?_⟩) he hpl
  exact run_makeD M F hr hb hd (hx σ) I1 r q
end
end L2
namespace DL
open PySem L2
/-- a class whose __init__ is called with its defaults dvs -/
structure MxD (P : Program) (w : World) (K : PySem.W.Frag) (mg : Str → Option Value) (base : Heap) (k : Nat) (x : Str) (C : Addr) (sp : Sp) (dvs : List V) : Prop where
  ex : ∃ (f : Addr) (fd : FuncData) (ps : List Str) (ds : List Value), Mk K C f ∧ FnOk P w K mg base (L2.CX P w) k f fd ps sp ∧ mg x = some (.ref C) ∧ Binds K fd ps ds ∧ Vals dvs ds
theorem MxD.of {P : Program} {w : World} {K : PySem.W.Frag} {mg : Str → Option Value} {base : Heap} {k : Nat} {x : Str} {C fa : Addr} {fd : FuncData} {ps : List Str} {sp : Sp} {dvs : List V} (M : Mk K C fa) (h : FnOk P w K mg base (L2.CX P w) k fa fd ps sp) (hm : mg x = some (.ref C)) (b : ∃ ds, Vals dvs ds ∧ Binds K fd ps ds) : MxD P w K mg base k x C sp dvs := by
  obtain ⟨ds, v, b⟩ := b
  exact ⟨fa, fd, ps, ds, M, h, hm, b, v⟩
theorem MxD.full {P : Program} {w : World} {K : PySem.W.Frag} {mg : Str → Option Value} {base : Heap} {k : Nat} {x : Str} {C : Addr} {sp : Sp} (h : MxD P w K mg base k x C sp []) : Mx P w K mg base k x C sp := by
  obtain ⟨fa, fd, ps, ds, M, h, hm, b, v⟩ := h.ex
  cases v
  exact ⟨fa, fd, ps, M, h, hm, b⟩
section
variable {X : Cx} {W : WX} {k j : Nat} {x : Str} {C : Addr} {sp : Sp} {p pos : Pos} {e : Expr} {es : List Expr} {t : TA} {dvs : List V}
theorem pe_mxD (c : MxD X.prog X.w X.K X.mg X.base k x C sp dvs) (tk : Takes X W) (hr : Room j X.A) (hk : k + 1 ≤ j) (hg : Gl X x) (ha : PA X (e :: es) t)
    (hdb : (x == ("__debug__" : Str)) = false := by decide) (he : starEach (e :: es) X.env = (false, eval e X.env) :: starEach es X.env := by rfl) (hpl : (backTo pos (starEach es X.env)).any (·.1) = false := by rfl) :
    PE X (.Call (.Name x p) (e :: es) [] pos) (tMakeD C sp dvs (WE W) t) := by
  obtain ⟨f, fd, ps, ds, M, F, hm, b, v⟩ := c.ex
  exact pe_makeD M F (hr.mono hk) hg hm b v (fun σ => passAt tk σ) ha hdb he hpl
end
end DL
namespace SM
open PySem L2
open DL (Ex ExK)
section
variable {K : PySem.W.Frag} {ca : String → Addr} {W : WX} {as : As} {ts : TA} {C : String} {f : Fn} {A : Hs} {env : Sl} {l : List D}
def eMakeD (C : String) (f : Fn) (dd : List D) (as : As) : E := fun env A => (as env A).bind fun ds A1 => make C f (ds ++ dd) A1
def eMakeD0 (C : String) (f : Fn) (dd : List D) (as : As) : E := fun env A => (as env A).bind fun ds A1 => (make C f (ds ++ dd) A1).noX
theorem se_makeD (hs : SimA K ca W ts as) : SimE K ca W (tMakeD (ca C) (SpF K ca f) [.non] (WE W) ts) (eMakeD C f [.non] as) := fun F m A σ H env Q R S p =>
  hs.bind R S p fun F1 m1 A1 H1 xs ds R1 g1 S1 rs p1 => fun x dx hx hdx hne => make_sim R1 (rs.append (.cons .non .nil)) hx hdx hne (pof_po p1)
theorem z3a {dd : List D} : eMakeD C f dd as env A = (as env A).bind fun ds A1 => make C f (ds ++ dd) A1 := rfl
theorem z1o {dd : List D} : eMakeD0 C f dd as env A = (as env A).bind fun ds A1 => (make C f (ds ++ dd) A1).noX := rfl
end
section
variable {P : Program} {w : World} {K : PySem.W.Frag} {mg : Str → Option Value} {base : Heap} {ca : String → Addr} {x qn : Str} {st : Stmt} {fa : Addr} {fd : FuncData} {N ps : List Str} {k : Nat}
theorem Fn.ofFD {n : Nat} {b : S} (F : FunD K x qn (defArgs st) (defBody st) (defScope st) [.non] [] fa fd) (S : FnScope N ps (defScope st)) (hn : ps.length = n)
    (body : ∀ (cdv : Value) (A : Around) (outer : List PySem.Env) (s : Shared) (H : Hp) (E : XK), Room k (A.deeper (PyProof.Rows.envOfC qn (defScope st) s.heap.objs.size fa cdv)) →
      ∃ t, PSs (cxOf (L2.CX P w) P w K mg base N qn (defScope st) fa cdv A outer s H E) (defBody st) t ∧ SimS K ca (fun cls d _ H => E cls d H) t b) : FnOk P w K mg base (L2.CX P w) (k + 1) fa fd ps (SpF K ca (mkFn n N.length b)) :=
  F.ok S (fun vs H Q E h => by rw [hn]; exact spF_len h) fun cdv A outer s H vs Q E hr h => by
    obtain ⟨t, h1, h2⟩ := body cdv A outer s H E hr
    exact ⟨t, h1, run_SpF h h2⟩
theorem funD_mk {oc : Value} {od an : Option Addr} {osl : Array (Option Value)} {kV doc pm cdv ct : Value} {dt : Addr} {ot : Obj} {nn : Nat} (l : K.lookup fa = some ⟨oc, od, .func (PySem.W.fnOf x qn (defArgs st) (defBody st) (defScope st) (.ref dt) kV doc pm an cdv ct), osl⟩)
    (u : K.lookup dt = some ot) (v : ot.data = .seq #[Value.none] nn) (c : PySem.W.codeIn K cdv qn = true) (k : PySem.W.keepIn K (.ref fa) = true) : FunD K x qn (defArgs st) (defBody st) (defScope st) [.non] [] fa (PySem.W.fnOf x qn (defArgs st) (defBody st) (defScope st) (.ref dt) kV doc pm an cdv ct) :=
  ⟨⟨oc, od, .ref dt, kV, doc, pm, an, cdv, ct, osl, rfl, l, c, .inr ⟨by simp, dt, ot, [.none], nn, rfl, u, v, .cons rfl .nil⟩, .inl rfl⟩, k⟩
end
end SM

/-! ## t[::e] of a tuple, e = 1 or -1 -/
namespace SM
open PySem L2 PySem.Spec PyProof.Rows
section
variable {prog : Program} {w : World} {A : Around} {E : Value → Shared → Prop} {s : Shared}
end
section
open DL (Ex ExK)
variable {K : PySem.W.Frag} {ca : String → Addr} {W : WX} {ta tb : TE} {a b : E}
def oStT (x y : D) (A : Hs) : RE D := match seqT x with
  | some l => match y with
    | .int i => if i = 1 then .ok x A else if i = -1 then .ok (.tup l.reverse) A else .stuck
    | _ => .stuck
  | _ => .stuck
theorem z50 {l : List D} {A : Hs} : oStT (.tup l) (.int 1) A = .ok (.tup l) A := rfl
theorem z5s {l : List D} {A : Hs} : oStT (.tup l) (.int (-1)) A = .ok (.tup l.reverse) A := rfl
end
end SM

/-! ## text * 0, text * 1 -/
namespace L2
open PySem PySem.Spec PyProof.Rows
end L2
namespace SM
open PySem L2
open DL (Ex ExK)
section
variable {K : PySem.W.Frag} {ca : String → Addr}
def oMulS (x y : D) (A : Hs) : RE D := match x, y with
  | .str s, .int i => if i = 1 then .ok (.str s) A else if i = 0 then .ok (.str Str.empty) A else .stuck
  | _, _ => .stuck
end
theorem z3s {A : Hs} {s : String} : oMulS (dS s) (.int 1) A = .ok (dS s) A := rfl
theorem z30 {A : Hs} {s : String} : oMulS (dS s) (.int 0) A = .ok (dS "") A := rfl
section
variable {A : Hs} {env : Sl} {o a e : E} {i : Nat} {x y z d : D} {kv : List (D × D)} {t lk : Bool}
theorem z5r : eGet2 o a e env A = (o env A).bind fun x A1 => if isDic A1 x = true then (a env A1).bind fun y A2 => (e env A2).bind fun z A3 => ofO A3 (getD A3 x y z) else .stuck := rfl
def gD_ (y z : D) : Option O → Option D
  | some (.dic t _ kv) => if keyOk t y = true then some ((kget kv y).getD z) else none
  | _ => none
theorem z52 : getD A (.ref i) y z = gD_ y z A[i]? := by
  unfold getD gD_ dicAt
  rcases h : A[i]? with _ | u
  · simp only [h]
  · cases u <;> simp only [h]
theorem z8f : gD_ y z (some (.dic t lk kv)) = if keyOk t y = true then some ((kget kv y).getD z) else none := rfl
theorem z7v {α : Type} {d : α} : ofO A (some d) = .ok d A := rfl
end
/-- a def that is called by no run -/
theorem Dx.never {P : Program} {w : World} {K : PySem.W.Frag} {mg : Str → Option Value} {base : Heap} {ca : String → Addr} {k : Nat} {x x0 qn : Str} {st : Stmt} {fa : Addr} {fd : FuncData} {ps : List Str} (F : Fun K x0 qn st fa fd) (hm : mg x = some (.ref fa)) (b : Binds K fd ps []) : DL.Dx P w K mg base k x (SpF K ca fun _ _ => .stuck) := by
  refine ⟨fa, fd, ps, ⟨fun vs H Q E h => ?_, fun A outer s H args us vs Q E _ _ _ _ h => ?_⟩, hm, F.kp, b⟩
  · obtain ⟨_, _, _, _, _, _, p⟩ := h; exact p.elim
  · obtain ⟨_, _, _, _, _, _, p⟩ := h; exact p.elim
end SM

namespace Kk
open PySem L2 SM
def os_ : List String := ["Giver", "Segment", "Taker", "Talk"]
def xs_ : List String := ["NoData", "NoNumber", "NoPort", "NoSegment", "NoSize", "NoTick"]
def tb_ : List (String × String × Bool) := [("Giver", "bool", false), ("Giver", "int", false), ("Giver", "str", false), ("Giver", "tuple", false), ("Segment", "bool", false), ("Segment", "int", false), ("Segment", "str", false), ("Segment", "tuple", false), ("Taker", "bool", false), ("Taker", "int", false), ("Taker", "str", false), ("Taker", "tuple", false), ("Talk", "bool", false), ("Talk", "int", false), ("Talk", "str", false), ("Talk", "tuple", false), ("NoData", "bool", false), ("NoData", "int", false), ("NoData", "str", false), ("NoData", "tuple", false), ("NoNumber", "bool", false), ("NoNumber", "int", false), ("NoNumber", "str", false), ("NoNumber", "tuple", false), ("NoPort", "bool", false), ("NoPort", "int", false), ("NoPort", "str", false), ("NoPort", "tuple", false), ("NoSegment", "bool", false), ("NoSegment", "int", false), ("NoSegment", "str", false), ("NoSegment", "tuple", false), ("NoSize", "bool", false), ("NoSize", "int", false), ("NoSize", "str", false), ("NoSize", "tuple", false), ("NoTick", "bool", false), ("NoTick", "int", false), ("NoTick", "str", false), ("NoTick", "tuple", false)]
/- slots of _law_mixed: 0=_law_cell 1=_law_k 2=_law_mix -/
noncomputable def F_l_mixed : Fn := mkFn 2 3
  (sSeq (sSet 2 (eOp oMod (eOp oMul (eOp oAdd (eOp oAdd (eVar 0) (eOp oMul (eC (.int 7919)) (eVar 1))) (eC (.int 11))) (eC (.int 48271))) (eC (.int 2147483647)))) (sRet (eOp oMod (eOp oAdd (eOp oMul (eVar 2) (eVar 2)) (eOp oMul (eC (.int 40692)) (eVar 2))) (eC (.int 2147483399)))))
/- slots of _law_draw: 0=_law_script 1=_law_k 2=_law_count 3=_law_cell -/
noncomputable def F_l_draw : Fn := mkFn 3 4
  (sSeq (sSet 3 (eC (.int 0))) (sSeq (sIf (tOf (eOp oLt (eVar 1) (eCB (c1 oLen) (aCons (eVar 0) aNil)))) (sSet 3 (eOp oIx (eVar 0) (eVar 1))) sNx) (sSeq (sIf (tOf (eOp oEq (eOp oMod (eVar 3) (eC (.int 2))) (eC (.int 0)))) (sRet (eLst (aCons (eOp oDiv (eVar 3) (eC (.int 2))) (aCons (eUn oNeg (eC (.int 1))) (aCons (eCall F_l_mixed (aCons (eVar 3) (aCons (eOp oAdd (eC (.int 300)) (eVar 1)) aNil))) aNil))))) sNx) (sRet (eLst (aCons (eC (.int 0)) (aCons (eVar 2) (aCons (eCall F_l_mixed (aCons (eVar 3) (aCons (eOp oAdd (eC (.int 300)) (eVar 1)) aNil))) aNil))))))))
/- slots of are_marks: 0=thing 1=letter -/
noncomputable def F_are_marks : Fn := mkFn 1 2
  (sSeq (sIf (tNo (tOf (eCB (c2 (oIsi os_ xs_ tb_)) (aCons (eVar 0) (aCons (eC (.ty "str")) aNil))))) (sRet (eC (.bl false))) sNx) (sRet (eOp oEq (eVar 0) (eSt1 oJoin (eC (dS "")) (eLc (wSeq (eC (dS "aceoq"))) (gN 1) (tOf (eOp oIn (eVar 1) (eVar 0))) (eVar 1) [1])))))
/- slots of is_whole: 0=thing 1=least 2=most -/
noncomputable def F_is_whole : Fn := mkFn 3 3
  (sRet (eAnd (eCB (c2 (oIsi os_ xs_ tb_)) (aCons (eVar 0) (aCons (eC (.ty "int")) aNil))) (eAnd (eNot (eCB (c2 (oIsi os_ xs_ tb_)) (aCons (eVar 0) (aCons (eC (.ty "bool")) aNil)))) (eCh oLe oLe (eVar 1) (eVar 0) (eVar 2)))))
/- slots of is_data: 0=thing 1=byte -/
noncomputable def F_is_data : Fn := mkFn 1 2
  (sSeq (sIf (tOo (tNo (tOf (eCB (c2 (oIsi os_ xs_ tb_)) (aCons (eVar 0) (aCons (eC (.ty "tuple")) aNil))))) (tOf (eOp oGt (eCB (c1 oLen) (aCons (eVar 0) aNil)) (eC (.int 1000))))) (sRet (eC (.bl false))) sNx) (sRet (eCB (c1 oAll) (aCons (eLc (wSeq (eVar 0)) (gN 1) tYe (eCall0 F_is_whole (aCons (eVar 1) (aCons (eC (.int 0)) (aCons (eC (.int 255)) aNil)))) [1]) aNil))))
/- slots of is_from_nought: 0=thing 1=most -/
noncomputable def F_is_from_nought : Fn := mkFn 2 2
  (sRet (eAnd (eCB (c2 (oIsi os_ xs_ tb_)) (aCons (eVar 0) (aCons (eC (.ty "int")) aNil))) (eAnd (eNot (eCB (c2 (oIsi os_ xs_ tb_)) (aCons (eVar 0) (aCons (eC (.ty "bool")) aNil)))) (eCh oLe oLe (eC (.int 0)) (eVar 0) (eVar 1)))))
/- slots of Segment.__init__: 0=self 1=source 2=target 3=marks 4=number 5=answer 6=room 7=data -/
noncomputable def F_Segment___init__ : Fn := mkFn 8 8
  (sSeq (sIf (tOo (tNo (tOf (eCall F_is_from_nought (aCons (eVar 1) (aCons (eC (.int 255)) aNil))))) (tOo (tNo (tOf (eCall F_is_from_nought (aCons (eVar 2) (aCons (eC (.int 255)) aNil))))) (tNo (tOf (eCall F_are_marks (aCons (eVar 3) aNil)))))) (sRaise "NoSegment") sNx) (sSeq (sIf (tOo (tNo (tOf (eCall F_is_from_nought (aCons (eVar 4) (aCons (eC (.int 4294967295)) aNil))))) (tNo (tOf (eCall F_is_from_nought (aCons (eVar 5) (aCons (eC (.int 4294967295)) aNil)))))) (sRaise "NoSegment") sNx) (sSeq (sIf (tOo (tNo (tOf (eCall F_is_from_nought (aCons (eVar 6) (aCons (eC (.int 128)) aNil))))) (tOo (tNo (tOf (eCall F_is_data (aCons (eVar 7) aNil)))) (tOf (eOp oGt (eCB (c1 oLen) (aCons (eVar 7) aNil)) (eC (.int 200)))))) (sRaise "NoSegment") sNx) (sSeq (sFl ["Segment"] "source" (eVar 0) (eVar 1)) (sSeq (sFl ["Segment"] "target" (eVar 0) (eVar 2)) (sSeq (sFl ["Segment"] "marks" (eVar 0) (eVar 3)) (sSeq (sFl ["Segment"] "number" (eVar 0) (eVar 4)) (sSeq (sFl ["Segment"] "answer" (eVar 0) (eVar 5)) (sSeq (sFl ["Segment"] "room" (eVar 0) (eVar 6)) (sFl ["Segment"] "data" (eVar 0) (eVar 7)))))))))))
/- slots of Giver.finish: 0=self -/
noncomputable def F_Giver_finish : Fn := mkFn 1 1
  (sSeq (sIf (tNo (tOf (eFld ["Giver", "Talk"] "finished" (eVar 0)))) (sDrop (eBL oAppend (eFld ["Giver"] "kept" (eVar 0)) (aCons (eC (dS "e")) aNil))) sNx) (sFl ["Giver", "Talk"] "finished" (eVar 0) (eC (.bl true))))
/- slots of Taker.ended: 0=self -/
noncomputable def F_Taker_ended : Fn := mkFn 1 1
  (sRet (eFld ["Taker"] "over" (eVar 0)))
/- slots of Giver.answered: 0=self -/
noncomputable def F_Giver_answered : Fn := mkFn 1 1
  (sRet (eFld ["Giver"] "passed" (eVar 0)))
/- slots of Talk.is_open: 0=self -/
noncomputable def F_Talk_is_open : Fn := mkFn 1 1
  (sRet (eOp oGt (eMeth "answered" [("Giver", F_Giver_answered)] (eFld ["Talk"] "giver" (eVar 0)) aNil) (eC (.int 0))))
/- slots of Talk.stand: 0=self -/
noncomputable def F_Talk_stand : Fn := mkFn 1 1
  (sSeq (sIf (tOf (eOp oNe (eFld ["Talk"] "ending" (eVar 0)) (eC (dS "")))) (sRet (eFld ["Talk"] "ending" (eVar 0))) sNx) (sSeq (sIf (tNo (tOf (eMeth "is_open" [("Talk", F_Talk_is_open)] (eVar 0) aNil))) (sRet (eIf (tOf (eOp oIs (eFld ["Talk"] "taker" (eVar 0)) (eC .non))) (eC (dS "calls")) (eC (dS "answers")))) sNx) (sSeq (sIf (tOf (eOp oIsNot (eFld ["Talk"] "rested" (eVar 0)) (eC .non))) (sRet (eIf (tOf (eOp oLt (eOp oSub (eFld ["Talk"] "last_tick" (eVar 0)) (eFld ["Talk"] "rested" (eVar 0))) (eC (.int 120)))) (eC (dS "rests")) (eC (dS "closed")))) sNx) (sSeq (sIf (tOf (eMeth "ended" [("Taker", F_Taker_ended)] (eFld ["Talk"] "taker" (eVar 0)) aNil)) (sRet (eC (dS "left"))) sNx) (sRet (eIf (tOf (eFld ["Giver", "Talk"] "finished" (eVar 0))) (eC (dS "ends")) (eC (dS "open"))))))))
/- slots of Talk.is_over: 0=self -/
noncomputable def F_Talk_is_over : Fn := mkFn 1 1
  (sRet (eOp oIn (eMeth "stand" [("Talk", F_Talk_stand)] (eVar 0) aNil) (eTup (aCons (eC (dS "cut")) (aCons (eC (dS "gone")) (aCons (eC (dS "closed")) aNil))))))
/- slots of Talk.finish: 0=self -/
noncomputable def F_Talk_finish : Fn := mkFn 1 1
  (sIf (tNo (tOf (eMeth "is_over" [("Talk", F_Talk_is_over)] (eVar 0) aNil))) (sSeq (sFl ["Giver", "Talk"] "finished" (eVar 0) (eC (.bl true))) (sDrop (eMeth "finish" [("Giver", F_Giver_finish)] (eFld ["Talk"] "giver" (eVar 0)) aNil))) sNx)
/- slots of is_within: 0=thing 1=least 2=most -/
noncomputable def F_is_within : Fn := mkFn 3 3
  (sRet (eAnd (eCB (c2 (oIsi os_ xs_ tb_)) (aCons (eVar 0) (aCons (eC (.ty "int")) aNil))) (eAnd (eNot (eCB (c2 (oIsi os_ xs_ tb_)) (aCons (eVar 0) (aCons (eC (.ty "bool")) aNil)))) (eCh oLe oLe (eVar 1) (eVar 0) (eVar 2)))))
/- slots of Taker.__init__: 0=self 1=first 2=room -/
noncomputable def F_Taker___init__ : Fn := mkFn 3 3
  (sSeq (sIf (tOo (tNo (tOf (eCall F_is_within (aCons (eVar 1) (aCons (eC (.int 0)) (aCons (eOp oSub (eC (.int 4294967296)) (eC (.int 1))) aNil)))))) (tNo (tOf (eCall F_is_within (aCons (eVar 2) (aCons (eC (.int 1)) (aCons (eC (.int 128)) aNil))))))) (sRaise "NoNumber") sNx) (sSeq (sFl ["Taker"] "wanted" (eVar 0) (eVar 1)) (sSeq (sFl ["Taker"] "whole_room" (eVar 0) (eVar 2)) (sSeq (sFl ["Taker"] "ahead" (eVar 0) (eDNew false)) (sSeq (sFl ["Taker"] "unread" (eVar 0) (eTup aNil)) (sFl ["Taker"] "over" (eVar 0) (eC (.bl false))))))))
/- slots of need_number: 0=number 1=size -/
noncomputable def F_need_number : Fn := mkFn 2 2
  (sIf (tOo (tNo (tOf (eCB (c2 (oIsi os_ xs_ tb_)) (aCons (eVar 0) (aCons (eC (.ty "int")) aNil))))) (tOo (tOf (eCB (c2 (oIsi os_ xs_ tb_)) (aCons (eVar 0) (aCons (eC (.ty "bool")) aNil)))) (tNo (tOf (eCh oLe oLt (eC (.int 0)) (eVar 0) (eVar 1)))))) (sRaise "NoNumber") sNx)
/- slots of need_size: 0=size -/
noncomputable def F_need_size : Fn := mkFn 1 1
  (sIf (tOo (tNo (tOf (eCB (c2 (oIsi os_ xs_ tb_)) (aCons (eVar 0) (aCons (eC (.ty "int")) aNil))))) (tOo (tOf (eCB (c2 (oIsi os_ xs_ tb_)) (aCons (eVar 0) (aCons (eC (.ty "bool")) aNil)))) (tNo (tOf (eCh oLe oLe (eC (.int 2)) (eVar 0) (eC (.int 4294967296))))))) (sRaise "NoSize") sNx)
/- slots of moved: 0=number 1=by 2=size -/
noncomputable def F_moved : Fn := mkFn 3 3
  (sSeq (sDrop (eCall F_need_size (aCons (eVar 2) aNil))) (sSeq (sDrop (eCall F_need_number (aCons (eVar 0) (aCons (eVar 2) aNil)))) (sRet (eOp oMod (eOp oAdd (eVar 0) (eVar 1)) (eVar 2)))))
/- slots of Talk.begin_taker: 0=self 1=number -/
noncomputable def F_Talk_begin_taker : Fn := mkFn 2 2
  (sSeq (sFl ["Talk"] "taker" (eVar 0) (eMake "Taker" F_Taker___init__ (aCons (eCall F_moved (aCons (eVar 1) (aCons (eC (.int 1)) (aCons (eC (.int 4294967296)) aNil)))) (aCons (eC (.int 128)) aNil)))) (sFl ["Talk"] "other_first" (eVar 0) (eVar 1)))
/- slots of Giver.is_counted: 0=self -/
noncomputable def F_Giver_is_counted : Fn := mkFn 1 1
  (sRet (eOr (eOp oGt (eFld ["Giver"] "sent" (eVar 0)) (eC (.int 0))) (eAnd (eOp oGt (eCB (c1 oLen) (aCons (eFld ["Giver"] "kept" (eVar 0)) aNil)) (eC (.int 0))) (eOp oEq (eFld ["Giver"] "reach" (eVar 0)) (eC (.int 0))))))
/- slots of Giver.count: 0=self 1=tick -/
noncomputable def F_Giver_count : Fn := mkFn 2 2
  (sIf (tNo (tOf (eMeth "is_counted" [("Giver", F_Giver_is_counted)] (eVar 0) aNil))) (sFl ["Giver"] "since" (eVar 0) (eC .non)) (sIf (tOf (eOp oIs (eFld ["Giver"] "since" (eVar 0)) (eC .non))) (sFl ["Giver"] "since" (eVar 0) (eVar 1)) sNx))
/- slots of is_number_givers: 0=thing 1=least -/
noncomputable def F_is_number_givers : Fn := mkFn 2 2
  (sRet (eAnd (eCB (c2 (oIsi os_ xs_ tb_)) (aCons (eVar 0) (aCons (eC (.ty "int")) aNil))) (eAnd (eNot (eCB (c2 (oIsi os_ xs_ tb_)) (aCons (eVar 0) (aCons (eC (.ty "bool")) aNil)))) (eOp oGe (eVar 0) (eVar 1)))))
/- slots of Giver.need_tick: 0=self 1=tick -/
noncomputable def F_Giver_need_tick : Fn := mkFn 2 2
  (sSeq (sIf (tNo (tOf (eCall F_is_number_givers (aCons (eVar 1) (aCons (eFld ["Giver"] "now" (eVar 0)) aNil))))) (sRaise "NoTick") sNx) (sFl ["Giver"] "now" (eVar 0) (eVar 1)))
/- slots of far: 0=one 1=other 2=size -/
noncomputable def F_far : Fn := mkFn 3 3
  (sSeq (sDrop (eCall F_need_size (aCons (eVar 2) aNil))) (sSeq (sDrop (eCall F_need_number (aCons (eVar 0) (aCons (eVar 2) aNil)))) (sSeq (sDrop (eCall F_need_number (aCons (eVar 1) (aCons (eVar 2) aNil)))) (sRet (eOp oMod (eOp oSub (eVar 1) (eVar 0)) (eVar 2))))))
/- slots of Giver.heard: 0=self 1=answer 2=room 3=tick 4=many -/
noncomputable def F_Giver_heard : Fn := mkFn 4 5
  (sSeq (sDrop (eMeth "need_tick" [("Giver", F_Giver_need_tick)] (eVar 0) (aCons (eVar 3) aNil))) (sSeq (sSet 4 (eCall F_far (aCons (eFld ["Giver"] "base" (eVar 0)) (aCons (eVar 1) (aCons (eC (.int 4294967296)) aNil))))) (sSeq (sIf (tOf (eOp oGt (eVar 4) (eFld ["Giver"] "sent" (eVar 0)))) (sRet (eC (.bl false))) sNx) (sSeq (sFl ["Giver"] "tried" (eVar 0) (eC (.int 0))) (sSeq (sFl ["Giver"] "base" (eVar 0) (eVar 1)) (sSeq (sFl ["Giver"] "kept" (eVar 0) (eSl oSl (eFld ["Giver"] "kept" (eVar 0)) (oSo (eVar 4)) oNo)) (sSeq (sFlAug ["Giver"] "sent" oSub (eVar 0) (eVar 4)) (sSeq (sFlAug ["Giver"] "passed" oIAdd (eVar 0) (eVar 4)) (sSeq (sFl ["Giver"] "reach" (eVar 0) (eCB (c2 oMax2) (aCons (eOp oSub (eFld ["Giver"] "reach" (eVar 0)) (eVar 4)) (aCons (eVar 2) aNil)))) (sSeq (sIf (tOf (eOp oGt (eVar 4) (eC (.int 0)))) (sSeq (sFl ["Giver"] "wait" (eVar 0) (eFld ["Giver"] "first_wait" (eVar 0))) (sSeq (sFl ["Giver"] "since" (eVar 0) (eC .non)) (sFl ["Giver"] "pace" (eVar 0) (eCB (c2 oMin2) (aCons (eC (.int 512)) (aCons (eOp oAdd (eFld ["Giver"] "pace" (eVar 0)) (eFld ["Giver"] "most" (eVar 0))) aNil)))))) sNx) (sSeq (sDrop (eMeth "count" [("Giver", F_Giver_count)] (eVar 0) (aCons (eVar 3) aNil))) (sRet (eC (.bl true))))))))))))))
/- slots of Giver.left: 0=self -/
noncomputable def F_Giver_left : Fn := mkFn 1 1
  (sRet (eCB (c1 oLen) (aCons (eFld ["Giver"] "kept" (eVar 0)) aNil)))
/- slots of Giver.next_number: 0=self -/
noncomputable def F_Giver_next_number : Fn := mkFn 1 1
  (sRet (eCall F_moved (aCons (eFld ["Giver"] "base" (eVar 0)) (aCons (eFld ["Giver"] "sent" (eVar 0)) (aCons (eC (.int 4294967296)) aNil)))))
/- slots of Segment.numbered: 0=self 1=ahead 2=letter -/
noncomputable def F_Segment_numbered : Fn := mkFn 1 3
  (sSeq (sSet 1 (eCB (c1 oTuple) (aCons (eLc (wSeq (eC (dS "o"))) (gN 2) (tOf (eOp oIn (eVar 2) (eFld ["Segment"] "marks" (eVar 0)))) (eVar 2) [2]) aNil))) (sRet (eOp oAdd (eOp oAdd (eVar 1) (eFld ["Segment"] "data" (eVar 0))) (eCB (c1 oTuple) (aCons (eLc (wSeq (eC (dS "e"))) (gN 2) (tOf (eOp oIn (eVar 2) (eFld ["Segment"] "marks" (eVar 0)))) (eVar 2) [2]) aNil)))))
/- slots of Taker.free: 0=self -/
noncomputable def F_Taker_free : Fn := mkFn 1 1
  (sRet (eOp oSub (eFld ["Taker"] "whole_room" (eVar 0)) (eCB (c1 oLen) (aCons (eFld ["Taker"] "unread" (eVar 0)) aNil))))
/- slots of Taker.wants: 0=self -/
noncomputable def F_Taker_wants : Fn := mkFn 1 1
  (sRet (eTup (aCons (eFld ["Taker"] "wanted" (eVar 0)) (aCons (eMeth "free" [("Taker", F_Taker_free)] (eVar 0) aNil) aNil))))
/- slots of Talk.made: 0=self 1=marks 2=number 3=data 4=answer 5=room -/
noncomputable def F_Talk_made : Fn := mkFn 4 6
  (sSeq (sAsg (eTup (aCons (eC (.int 0)) (aCons (eC (.int 0)) aNil))) (gT [(gN 4), (gN 5)])) (sSeq (sIf (tOf (eOp oIn (eC (dS "a")) (eVar 1))) (sAsg (eMeth "wants" [("Taker", F_Taker_wants)] (eFld ["Talk"] "taker" (eVar 0)) aNil) (gT [(gN 4), (gN 5)])) sNx) (sRet (eMake "Segment" F_Segment___init__ (aCons (eFld ["Talk"] "here" (eVar 0)) (aCons (eFld ["Talk"] "there" (eVar 0)) (aCons (eVar 1) (aCons (eVar 2) (aCons (eVar 4) (aCons (eVar 5) (aCons (eVar 3) aNil)))))))))))
/- slots of Taker.come_ready: 0=self 1=item -/
noncomputable def F_Taker_come_ready : Fn := mkFn 2 2
  (sSeq (sFl ["Taker"] "wanted" (eVar 0) (eCall F_moved (aCons (eFld ["Taker"] "wanted" (eVar 0)) (aCons (eC (.int 1)) (aCons (eC (.int 4294967296)) aNil))))) (sIf (tOf (eOp oEq (eVar 1) (eC (dS "e")))) (sSeq (sFl ["Taker"] "over" (eVar 0) (eC (.bl true))) (sFl ["Taker"] "ahead" (eVar 0) (eDNew false))) (sIf (tOf (eOp oNe (eVar 1) (eC (dS "o")))) (sFl ["Taker"] "unread" (eVar 0) (eOp oAdd (eFld ["Taker"] "unread" (eVar 0)) (eTup (aCons (eVar 1) aNil)))) sNx)))
/- slots of Taker.take: 0=self 1=number 2=items 3=wanted 4=free 5=step 6=item 7=place -/
noncomputable def F_Taker_take : Fn := mkFn 3 8
  (sSeq (sIf (tOf (eFld ["Taker"] "over" (eVar 0))) sRetN sNx) (sSeq (sAsg (eMeth "wants" [("Taker", F_Taker_wants)] (eVar 0) aNil) (gT [(gN 3), (gN 4)])) (sSeq (sFor (wOf wkEA (eVar 2)) (gT [(gN 5), (gN 6)]) (sSeq (sSet 7 (eCall F_moved (aCons (eVar 1) (aCons (eVar 5) (aCons (eC (.int 4294967296)) aNil))))) (sIf (tAn (tOf (eOp oLt (eCall F_far (aCons (eVar 3) (aCons (eVar 7) (aCons (eC (.int 4294967296)) aNil)))) (eVar 4))) (tOf (eOp oNotIn (eVar 7) (eFld ["Taker"] "ahead" (eVar 0))))) (sPut (eFld ["Taker"] "ahead" (eVar 0)) (eVar 7) (eVar 6)) sNx))) (sWh (tAn (tOf (eOp oIn (eFld ["Taker"] "wanted" (eVar 0)) (eFld ["Taker"] "ahead" (eVar 0)))) (tNo (tOf (eFld ["Taker"] "over" (eVar 0))))) (sDrop (eMeth "come_ready" [("Taker", F_Taker_come_ready)] (eVar 0) (aCons (ePop1 (eFld ["Taker"] "ahead" (eVar 0)) (eFld ["Taker"] "wanted" (eVar 0))) aNil)))))))
/- slots of Talk.take: 0=self 1=number 2=items -/
noncomputable def F_Talk_take : Fn := mkFn 3 3
  (sIf (tOf (eOp oEq (eSl oSl (eVar 2) oNo (oSo (eC (.int 1)))) (eTup (aCons (eC (dS "o")) aNil)))) (sDrop (eMeth "take" [("Taker", F_Taker_take)] (eFld ["Talk"] "taker" (eVar 0)) (aCons (eCall F_moved (aCons (eVar 1) (aCons (eC (.int 1)) (aCons (eC (.int 4294967296)) aNil)))) (aCons (eSl oSl (eVar 2) (oSo (eC (.int 1))) oNo) aNil)))) (sDrop (eMeth "take" [("Taker", F_Taker_take)] (eFld ["Talk"] "taker" (eVar 0)) (aCons (eVar 1) (aCons (eVar 2) aNil)))))
/- slots of Talk.counted: 0=self 1=segment 2=tick 3=items -/
noncomputable def F_Talk_counted : Fn := mkFn 3 4
  (sSeq (sSet 3 (eMeth "numbered" [("Segment", F_Segment_numbered)] (eVar 1) aNil)) (sSeq (sIf (tOf (eOp oIn (eC (dS "a")) (eFld ["Segment"] "marks" (eVar 1)))) (sSeq (sDrop (eMeth "heard" [("Giver", F_Giver_heard)] (eFld ["Talk"] "giver" (eVar 0)) (aCons (eFld ["Segment"] "answer" (eVar 1)) (aCons (eFld ["Segment"] "room" (eVar 1)) (aCons (eVar 2) aNil))))) (sDrop (eMeth "take" [("Talk", F_Talk_take)] (eVar 0) (aCons (eFld ["Segment"] "number" (eVar 1)) (aCons (eVar 3) aNil))))) sNx) (sSeq (sIf (tAn (tOf (eOp oIs (eFld ["Talk"] "rested" (eVar 0)) (eC .non))) (tAn (tOf (eFld ["Giver", "Talk"] "finished" (eVar 0))) (tAn (tOf (eMeth "ended" [("Taker", F_Taker_ended)] (eFld ["Talk"] "taker" (eVar 0)) aNil)) (tOf (eOp oEq (eMeth "left" [("Giver", F_Giver_left)] (eFld ["Talk"] "giver" (eVar 0)) aNil) (eC (.int 0))))))) (sFl ["Talk"] "rested" (eVar 0) (eVar 2)) sNx) (sSeq (sIf (tOo (tOf (eOp oNe (eVar 3) (eTup aNil))) (tOf (eOp oIn (eC (dS "q")) (eFld ["Segment"] "marks" (eVar 1))))) (sRet (eLst (aCons (eMeth "made" [("Talk", F_Talk_made)] (eVar 0) (aCons (eC (dS "a")) (aCons (eMeth "next_number" [("Giver", F_Giver_next_number)] (eFld ["Talk"] "giver" (eVar 0)) aNil) (aCons (eTup aNil) aNil)))) aNil))) sNx) (sRet (eLst aNil))))))
/- slots of Talk.is_answer: 0=self 1=answer 2=wanted -/
noncomputable def F_Talk_is_answer : Fn := mkFn 2 3
  (sSeq (sSet 2 (eCall F_moved (aCons (eFld ["Talk"] "begun_with" (eVar 0)) (aCons (eMeth "answered" [("Giver", F_Giver_answered)] (eFld ["Talk"] "giver" (eVar 0)) aNil) (aCons (eC (.int 4294967296)) aNil))))) (sSeq (sIf (tOf (eOp oGt (eCall F_far (aCons (eVar 2) (aCons (eVar 1) (aCons (eC (.int 4294967296)) aNil)))) (eCall F_far (aCons (eVar 2) (aCons (eMeth "next_number" [("Giver", F_Giver_next_number)] (eFld ["Talk"] "giver" (eVar 0)) aNil) (aCons (eC (.int 4294967296)) aNil)))))) (sRet (eC (.bl false))) sNx) (sRet (eOr (eMeth "is_open" [("Talk", F_Talk_is_open)] (eVar 0) aNil) (eOp oEq (eVar 1) (eCall F_moved (aCons (eFld ["Talk"] "begun_with" (eVar 0)) (aCons (eC (.int 1)) (aCons (eC (.int 4294967296)) aNil)))))))))
/- slots of Talk.is_cut_by: 0=self 1=segment 2=wanted 3=free -/
noncomputable def F_Talk_is_cut_by : Fn := mkFn 2 4
  (sSeq (sIf (tAn (tOf (eOp oIn (eC (dS "a")) (eFld ["Segment"] "marks" (eVar 1)))) (tNo (tOf (eMeth "is_open" [("Talk", F_Talk_is_open)] (eVar 0) aNil)))) (sRet (eC (.bl true))) sNx) (sSeq (sIf (tOf (eOp oIs (eFld ["Talk"] "taker" (eVar 0)) (eC .non))) (sRet (eC (.bl false))) sNx) (sSeq (sAsg (eMeth "wants" [("Taker", F_Taker_wants)] (eFld ["Talk"] "taker" (eVar 0)) aNil) (gT [(gN 2), (gN 3)])) (sRet (eOp oLe (eCall F_far (aCons (eVar 2) (aCons (eFld ["Segment"] "number" (eVar 1)) (aCons (eC (.int 4294967296)) aNil)))) (eVar 3))))))
/- slots of need_tick: 0=tick 1=last -/
noncomputable def F_need_tick : Fn := mkFn 2 2
  (sIf (tOo (tNo (tOf (eCB (c2 (oIsi os_ xs_ tb_)) (aCons (eVar 0) (aCons (eC (.ty "int")) aNil))))) (tOo (tOf (eCB (c2 (oIsi os_ xs_ tb_)) (aCons (eVar 0) (aCons (eC (.ty "bool")) aNil)))) (tOf (eOp oLt (eVar 0) (eVar 1))))) (sRaise "NoTick") sNx)
/- slots of Talk.pass_to: 0=self 1=tick -/
noncomputable def F_Talk_pass_to : Fn := mkFn 2 2
  (sSeq (sDrop (eCall F_need_tick (aCons (eVar 1) (aCons (eFld ["Talk"] "last_tick" (eVar 0)) aNil)))) (sFl ["Talk"] "last_tick" (eVar 0) (eVar 1)))
/- slots of Talk.heard: 0=self 1=segment 2=tick -/
noncomputable def F_Talk_heard : Fn := mkFn 3 3
  (sSeq (sDrop (eMeth "pass_to" [("Talk", F_Talk_pass_to)] (eVar 0) (aCons (eVar 2) aNil))) (sSeq (sIf (tOf (eMeth "is_over" [("Talk", F_Talk_is_over)] (eVar 0) aNil)) (sRet (eLst aNil)) sNx) (sSeq (sIf (tAn (tOf (eOp oIn (eC (dS "a")) (eFld ["Segment"] "marks" (eVar 1)))) (tNo (tOf (eMeth "is_answer" [("Talk", F_Talk_is_answer)] (eVar 0) (aCons (eFld ["Segment"] "answer" (eVar 1)) aNil))))) (sSeq (sIf (tOo (tOf (eMeth "is_open" [("Talk", F_Talk_is_open)] (eVar 0) aNil)) (tOf (eOp oIn (eC (dS "c")) (eFld ["Segment"] "marks" (eVar 1))))) (sRet (eLst aNil)) sNx) (sRet (eLst (aCons (eMeth "made" [("Talk", F_Talk_made)] (eVar 0) (aCons (eC (dS "c")) (aCons (eFld ["Segment"] "answer" (eVar 1)) (aCons (eTup aNil) aNil)))) aNil)))) sNx) (sSeq (sIf (tOf (eOp oIn (eC (dS "c")) (eFld ["Segment"] "marks" (eVar 1)))) (sSeq (sIf (tOf (eMeth "is_cut_by" [("Talk", F_Talk_is_cut_by)] (eVar 0) (aCons (eVar 1) aNil))) (sFl ["Talk"] "ending" (eVar 0) (eC (dS "cut"))) sNx) (sRet (eLst aNil))) sNx) (sSeq (sIf (tOf (eOp oIs (eFld ["Talk"] "taker" (eVar 0)) (eC .non))) (sSeq (sIf (tOo (tOf (eOp oNotIn (eC (dS "o")) (eFld ["Segment"] "marks" (eVar 1)))) (tOf (eOp oNotIn (eC (dS "a")) (eFld ["Segment"] "marks" (eVar 1))))) (sRet (eLst aNil)) sNx) (sDrop (eMeth "begin_taker" [("Talk", F_Talk_begin_taker)] (eVar 0) (aCons (eFld ["Segment"] "number" (eVar 1)) aNil)))) sNx) (sRet (eMeth "counted" [("Talk", F_Talk_counted)] (eVar 0) (aCons (eVar 1) (aCons (eVar 2) aNil)))))))))
/- slots of Taker.read: 0=self 1=many 2=found -/
noncomputable def F_Taker_read : Fn := mkFn 2 3
  (sSeq (sIf (tNo (tOf (eCall F_is_within (aCons (eVar 1) (aCons (eC (.int 0)) (aCons (eVar 1) aNil)))))) (sRaise "NoNumber") sNx) (sSeq (sSet 2 (eSl oSl (eFld ["Taker"] "unread" (eVar 0)) oNo (oSo (eVar 1)))) (sSeq (sFl ["Taker"] "unread" (eVar 0) (eSl oSl (eFld ["Taker"] "unread" (eVar 0)) (oSo (eVar 1)) oNo)) (sRet (eVar 2)))))
/- slots of Talk.read: 0=self 1=many -/
noncomputable def F_Talk_read : Fn := mkFn 2 2
  (sSeq (sIf (tOo (tNo (tOf (eCB (c2 (oIsi os_ xs_ tb_)) (aCons (eVar 1) (aCons (eC (.ty "int")) aNil))))) (tOo (tOf (eCB (c2 (oIsi os_ xs_ tb_)) (aCons (eVar 1) (aCons (eC (.ty "bool")) aNil)))) (tOf (eOp oLt (eVar 1) (eC (.int 0)))))) (sRaise "NoNumber") sNx) (sRet (eIf (tOf (eOp oIs (eFld ["Talk"] "taker" (eVar 0)) (eC .non))) (eTup aNil) (eMeth "read" [("Taker", F_Taker_read)] (eFld ["Talk"] "taker" (eVar 0)) (aCons (eVar 1) aNil)))))
/- slots of Taker.ready: 0=self -/
noncomputable def F_Taker_ready : Fn := mkFn 1 1
  (sRet (eCB (c1 oLen) (aCons (eFld ["Taker"] "unread" (eVar 0)) aNil)))
/- slots of Talk.ready: 0=self -/
noncomputable def F_Talk_ready : Fn := mkFn 1 1
  (sRet (eIf (tOf (eOp oIs (eFld ["Talk"] "taker" (eVar 0)) (eC .non))) (eC (.int 0)) (eMeth "ready" [("Taker", F_Taker_ready)] (eFld ["Talk"] "taker" (eVar 0)) aNil)))
/- slots of Giver.write: 0=self 1=data 2=many 3=item -/
noncomputable def F_Giver_write : Fn := mkFn 2 4
  (sSeq (sIf (tNo (tOf (eCall F_is_data (aCons (eVar 1) aNil)))) (sRaise "NoData") sNx) (sSeq (sIf (tOf (eFld ["Giver", "Talk"] "finished" (eVar 0))) (sRet (eC (.int 0))) sNx) (sSeq (sSet 2 (eCB (c2 oMin2) (aCons (eCB (c1 oLen) (aCons (eVar 1) aNil)) (aCons (eOp oSub (eC (.int 512)) (eCB (c1 oLen) (aCons (eLc (wSeq (eFld ["Giver"] "kept" (eVar 0))) (gN 3) (tOf (eOp oNe (eVar 3) (eC (dS "o")))) (eVar 3) [3]) aNil))) aNil)))) (sSeq (sDrop (eBL oExtend (eFld ["Giver"] "kept" (eVar 0)) (aCons (eSl oSl (eVar 1) oNo (oSo (eVar 2))) aNil))) (sRet (eVar 2))))))
/- slots of Talk.write: 0=self 1=data -/
noncomputable def F_Talk_write : Fn := mkFn 2 2
  (sSeq (sIf (tNo (tOf (eCall F_is_data (aCons (eVar 1) aNil)))) (sRaise "NoData") sNx) (sRet (eIf (tOf (eMeth "is_over" [("Talk", F_Talk_is_over)] (eVar 0) aNil)) (eC (.int 0)) (eMeth "write" [("Giver", F_Giver_write)] (eFld ["Talk"] "giver" (eVar 0)) (aCons (eVar 1) aNil)))))
/- slots of Giver.again: 0=self 1=tick -/
noncomputable def F_Giver_again : Fn := mkFn 2 2
  (sSeq (sIf (tOo (tOf (eOp oIs (eFld ["Giver"] "since" (eVar 0)) (eC .non))) (tOf (eOp oLt (eOp oSub (eVar 1) (eFld ["Giver"] "since" (eVar 0))) (eFld ["Giver"] "wait" (eVar 0))))) (sRet (eLst aNil)) sNx) (sSeq (sFl ["Giver"] "wait" (eVar 0) (eCB (c2 oMin2) (aCons (eOp oMul (eC (.int 2)) (eFld ["Giver"] "wait" (eVar 0))) (aCons (eOp oMul (eC (.int 16)) (eFld ["Giver"] "first_wait" (eVar 0))) aNil)))) (sSeq (sFl ["Giver"] "since" (eVar 0) (eVar 1)) (sSeq (sFlAug ["Giver"] "tried" oIAdd (eVar 0) (eC (.int 1))) (sSeq (sFl ["Giver"] "pace" (eVar 0) (eFld ["Giver"] "most" (eVar 0))) (sRet (eLst (aCons (eTup (aCons (eFld ["Giver"] "base" (eVar 0)) (aCons (eCB (c1 oTuple) (aCons (eSl oSl (eFld ["Giver"] "kept" (eVar 0)) oNo (oSo (eCB (c2 oMin2) (aCons (eFld ["Giver"] "most" (eVar 0)) (aCons (eFld ["Giver"] "sent" (eVar 0)) aNil))))) aNil)) aNil))) aNil))))))))
/- slots of Giver.due: 0=self 1=tick 2=found 3=end 4=many -/
noncomputable def F_Giver_due : Fn := mkFn 2 5
  (sSeq (sDrop (eMeth "need_tick" [("Giver", F_Giver_need_tick)] (eVar 0) (aCons (eVar 1) aNil))) (sSeq (sDrop (eMeth "count" [("Giver", F_Giver_count)] (eVar 0) (aCons (eVar 1) aNil))) (sSeq (sSet 2 (eMeth "again" [("Giver", F_Giver_again)] (eVar 0) (aCons (eVar 1) aNil))) (sSeq (sSet 3 (eCB (c3 oMin3) (aCons (eCB (c1 oLen) (aCons (eFld ["Giver"] "kept" (eVar 0)) aNil)) (aCons (eFld ["Giver"] "reach" (eVar 0)) (aCons (eFld ["Giver"] "pace" (eVar 0)) aNil))))) (sSeq (sWh (tOf (eOp oLt (eFld ["Giver"] "sent" (eVar 0)) (eVar 3))) (sSeq (sSet 4 (eCB (c2 oMin2) (aCons (eFld ["Giver"] "most" (eVar 0)) (aCons (eOp oSub (eVar 3) (eFld ["Giver"] "sent" (eVar 0))) aNil)))) (sSeq (sDrop (eBL oAppend (eVar 2) (aCons (eTup (aCons (eMeth "next_number" [("Giver", F_Giver_next_number)] (eVar 0) aNil) (aCons (eCB (c1 oTuple) (aCons (eSl oSl (eFld ["Giver"] "kept" (eVar 0)) (oSo (eFld ["Giver"] "sent" (eVar 0))) (oSo (eOp oAdd (eFld ["Giver"] "sent" (eVar 0)) (eVar 4)))) aNil)) aNil))) aNil))) (sFlAug ["Giver"] "sent" oIAdd (eVar 0) (eVar 4))))) (sSeq (sDrop (eMeth "count" [("Giver", F_Giver_count)] (eVar 0) (aCons (eVar 1) aNil))) (sRet (eVar 2))))))))
/- slots of Giver.tries: 0=self -/
noncomputable def F_Giver_tries : Fn := mkFn 1 1
  (sRet (eFld ["Giver"] "tried" (eVar 0)))
/- slots of Talk.segment_of: 0=self 1=number 2=items 3=marks 4=item -/
noncomputable def F_Talk_segment_of : Fn := mkFn 3 5
  (sSeq (sSet 3 (eIf (tOf (eOp oIsNot (eFld ["Talk"] "taker" (eVar 0)) (eC .non))) (eC (dS "a")) (eC (dS "")))) (sSeq (sAug 3 oIAdd (eIf (tOf (eOp oIn (eC (dS "e")) (eVar 2))) (eC (dS "e")) (eC (dS "")))) (sSeq (sAug 3 oIAdd (eIf (tOf (eOp oIn (eC (dS "o")) (eVar 2))) (eC (dS "o")) (eC (dS "")))) (sSeq (sAug 3 oIAdd (eIf (tOf (eOp oEq (eVar 2) (eTup aNil))) (eC (dS "q")) (eC (dS "")))) (sRet (eMeth "made" [("Talk", F_Talk_made)] (eVar 0) (aCons (eVar 3) (aCons (eVar 1) (aCons (eCB (c1 oTuple) (aCons (eLc (wSeq (eVar 2)) (gN 4) (tOf (eOp oNotIn (eVar 4) (eTup (aCons (eC (dS "o")) (aCons (eC (dS "e")) aNil))))) (eVar 4) [4]) aNil)) aNil)))))))))
/- slots of Talk.due: 0=self 1=tick 2=pairs 3=number 4=items -/
noncomputable def F_Talk_due : Fn := mkFn 2 5
  (sSeq (sDrop (eMeth "pass_to" [("Talk", F_Talk_pass_to)] (eVar 0) (aCons (eVar 1) aNil))) (sSeq (sIf (tOf (eMeth "is_over" [("Talk", F_Talk_is_over)] (eVar 0) aNil)) (sRet (eLst aNil)) sNx) (sSeq (sSet 2 (eMeth "due" [("Giver", F_Giver_due)] (eFld ["Talk"] "giver" (eVar 0)) (aCons (eVar 1) aNil))) (sSeq (sIf (tOf (eOp oGe (eMeth "tries" [("Giver", F_Giver_tries)] (eFld ["Talk"] "giver" (eVar 0)) aNil) (eC (.int 16)))) (sSeq (sFl ["Talk"] "ending" (eVar 0) (eC (dS "gone"))) (sRet (eLst aNil))) sNx) (sRet (eLc (wSeq (eVar 2)) (gT [(gN 3), (gN 4)]) tYe (eMeth0 "segment_of" [("Talk", F_Talk_segment_of)] (eVar 0) (aCons (eVar 3) (aCons (eVar 4) aNil))) [3, 4]))))))
/- slots of _law_brought: 0=_law_talks 1=_law_end 2=_law_tick 3=_law_lost 4=_law_many 5=_law_segment 6=_law_answer -/
noncomputable def F_l_brought : Fn := mkFn 4 7
  (sSeq (sSet 4 (eC (.int 0))) (sSeq (sFor (wSeq (eMeth "due" [("Talk", F_Talk_due)] (eOp oIx (eVar 0) (eVar 1)) (aCons (eVar 2) aNil))) (gN 5) (sFor (wSeq (eMeth "heard" [("Talk", F_Talk_heard)] (eOp oIx (eVar 0) (eOp oSub (eC (.int 1)) (eVar 1))) (aCons (eVar 5) (aCons (eVar 2) aNil)))) (gN 6) (sIf (tOf (eOp oLt (eVar 4) (eVar 3))) (sAug 4 oIAdd (eC (.int 1))) (sDrop (eMeth "heard" [("Talk", F_Talk_heard)] (eOp oIx (eVar 0) (eVar 1)) (aCons (eVar 6) (aCons (eVar 2) aNil))))))) (sRet (eVar 4))))
/- slots of _law_next: 0=_law_draw_here 1=_law_size 2=_law_digit -/
noncomputable def F_l_next : Fn := mkFn 2 3
  (sSeq (sIf (tAn (tOf (eOp oLt (eOp oIx (eVar 0) (eC (.int 1))) (eC (.int 0)))) (tOf (eOp oNotIn (eOp oIx (eVar 0) (eC (.int 0))) (eTup (aCons (eC (.int 0)) (aCons (eUn oNeg (eC (.int 1))) aNil)))))) (sSeq (sSet 2 (eOp oMod (eOp oIx (eVar 0) (eC (.int 0))) (eVar 1))) (sSeq (sPut (eVar 0) (eC (.int 0)) (eOp oDiv (eOp oIx (eVar 0) (eC (.int 0))) (eVar 1))) (sRet (eVar 2)))) sNx) (sSeq (sPut (eVar 0) (eC (.int 1)) (eOp oAdd (eCB (c2 oMax2) (aCons (eC (.int 0)) (aCons (eOp oIx (eVar 0) (eC (.int 1))) aNil))) (eC (.int 1)))) (sRet (eOp oMod (eOp oDiv (eCall F_l_mixed (aCons (eOp oIx (eVar 0) (eC (.int 2))) (aCons (eOp oIx (eVar 0) (eC (.int 1))) aNil))) (eC (.int 7))) (eVar 1)))))
/- slots of _law_bytes: 0=_law_draw_here 1=_law_many 2=_law_base 3=_law_by 4=_law_k -/
noncomputable def F_l_bytes : Fn := mkFn 2 5
  (sSeq (sSet 2 (eCall F_l_next (aCons (eVar 0) (aCons (eC (.int 256)) aNil)))) (sSeq (sSet 3 (eOp oAdd (eC (.int 1)) (eOp oMul (eC (.int 2)) (eCall F_l_next (aCons (eVar 0) (aCons (eC (.int 8)) aNil)))))) (sRet (eCB (c1 oTuple) (aCons (eLc (wAs rg1 (aCons (eVar 1) aNil)) (gN 4) tYe (eOp oMod (eOp oAdd (eVar 2) (eOp oMul (eVar 3) (eVar 4))) (eC (.int 256))) [4]) aNil)))))
/- slots of Talk.cut: 0=self -/
noncomputable def F_Talk_cut : Fn := mkFn 1 1
  (sSeq (sIf (tOf (eMeth "is_over" [("Talk", F_Talk_is_over)] (eVar 0) aNil)) (sRet (eLst aNil)) sNx) (sSeq (sFl ["Talk"] "ending" (eVar 0) (eC (dS "cut"))) (sRet (eLst (aCons (eMeth "made" [("Talk", F_Talk_made)] (eVar 0) (aCons (eC (dS "c")) (aCons (eMeth "next_number" [("Giver", F_Giver_next_number)] (eFld ["Talk"] "giver" (eVar 0)) aNil) (aCons (eTup aNil) aNil)))) aNil)))))
/- slots of _law_closes: 0=_law_talk 1=_law_since 2=_law_segment -/
noncomputable def F_l_closes : Fn := mkFn 3 3
  (sSeq (sIf (tOf (eOp oIsNot (eVar 2) (eC .non))) (sSeq (sIf (tOo (tOf (eOp oNe (eMeth "heard" [("Talk", F_Talk_heard)] (eVar 0) (aCons (eVar 2) (aCons (eOp oAdd (eVar 1) (eC (.int 60))) aNil))) (eLst aNil))) (tOo (tOf (eOp oNe (eMeth "stand" [("Talk", F_Talk_stand)] (eVar 0) aNil) (eC (dS "cut")))) (tOf (eOp oNe (eMeth "due" [("Talk", F_Talk_due)] (eVar 0) (aCons (eOp oAdd (eVar 1) (eC (.int 61))) aNil)) (eLst aNil))))) (sRet (eC (.bl false))) sNx) (sRet (eAnd (eOp oEq (eMeth "due" [("Talk", F_Talk_due)] (eVar 0) (aCons (eOp oAdd (eVar 1) (eC (.int 300))) aNil)) (eLst aNil)) (eOp oEq (eMeth "stand" [("Talk", F_Talk_stand)] (eVar 0) aNil) (eC (dS "cut")))))) sNx) (sSeq (sIf (tOo (tOf (eOp oNe (eMeth "due" [("Talk", F_Talk_due)] (eVar 0) (aCons (eOp oAdd (eVar 1) (eC (.int 119))) aNil)) (eLst aNil))) (tOf (eOp oNe (eMeth "stand" [("Talk", F_Talk_stand)] (eVar 0) aNil) (eC (dS "rests"))))) (sRet (eC (.bl false))) sNx) (sSeq (sIf (tOo (tOf (eOp oNe (eMeth "due" [("Talk", F_Talk_due)] (eVar 0) (aCons (eOp oAdd (eVar 1) (eC (.int 120))) aNil)) (eLst aNil))) (tOo (tOf (eOp oNe (eMeth "stand" [("Talk", F_Talk_stand)] (eVar 0) aNil) (eC (dS "closed")))) (tOo (tOf (eOp oNe (eMeth "write" [("Talk", F_Talk_write)] (eVar 0) (aCons (eTup (aCons (eC (.int 5)) (aCons (eC (.int 6)) aNil))) aNil)) (eC (.int 0)))) (tOf (eOp oNe (eMeth "cut" [("Talk", F_Talk_cut)] (eVar 0) aNil) (eLst aNil)))))) (sRet (eC (.bl false))) sNx) (sSeq (sDrop (eMeth "finish" [("Talk", F_Talk_finish)] (eVar 0) aNil)) (sRet (eAnd (eOp oEq (eMeth "due" [("Talk", F_Talk_due)] (eVar 0) (aCons (eOp oAdd (eVar 1) (eC (.int 300))) aNil)) (eLst aNil)) (eOp oEq (eMeth "stand" [("Talk", F_Talk_stand)] (eVar 0) aNil) (eC (dS "closed")))))))))
/- slots of _law_left_right: 0=_law_talks 1=_law_tick 2=_law_lost 3=_law_one 4=_law_other 5=_law_waits 6=_law_turn 7=_law_gone -/
noncomputable def F_l_left_right : Fn := mkFn 3 8
  (sSeq (sAsg (eVar 0) (gL [(gN 3), (gN 4)])) (sSeq (sDrop (eMeth "finish" [("Talk", F_Talk_finish)] (eVar 4) aNil)) (sSeq (sIf (tOf (eOp oNe (eMeth "stand" [("Talk", F_Talk_stand)] (eVar 4) aNil) (eC (dS "left")))) (sRet (eUn oNeg (eC (.int 1)))) sNx) (sSeq (sSet 5 (eLst (aCons (eC (.int 4)) (aCons (eC (.int 8)) (aCons (eC (.int 16)) aNil))))) (sSeq (sFor (wAs rg1 (aCons (eOp oAdd (eVar 2) (eC (.int 1))) aNil)) (gN 6) (sSeq (sSet 7 (eCall F_l_brought (aCons (eVar 0) (aCons (eC (.int 1)) (aCons (eVar 1) (aCons (eCB (c1 oInt) (aCons (eOp oLt (eVar 6) (eVar 2)) aNil)) aNil)))))) (sSeq (sIf (tOo (tOf (eOp oNe (eVar 7) (eCB (c1 oInt) (aCons (eOp oLt (eVar 6) (eVar 2)) aNil)))) (tOo (tOf (eOp oNe (eMeth "stand" [("Talk", F_Talk_stand)] (eVar 3) aNil) (eC (dS "rests")))) (tOf (eOp oNe (eMeth "stand" [("Talk", F_Talk_stand)] (eVar 4) aNil) (eOp oIx (eLst (aCons (eC (dS "rests")) (aCons (eC (dS "left")) aNil))) (eVar 7)))))) (sRet (eUn oNeg (eC (.int 1)))) sNx) (sIf (tOf (eOp oLt (eVar 6) (eVar 2))) (sSet 1 (eOp oAdd (eVar 1) (eOp oIx (eVar 5) (eVar 6)))) sNx)))) (sRet (eVar 1)))))))
/- slots of _law_moved: 0=_law_number 1=_law_by -/
noncomputable def F_l_moved : Fn := mkFn 2 2
  (sRet (eOp oMod (eOp oAdd (eVar 0) (eVar 1)) (eOp oPow (eC (.int 2)) (eC (.int 32)))))
/- slots of Giver.__init__: 0=self 1=first 2=most 3=wait -/
noncomputable def F_Giver___init__ : Fn := mkFn 4 4
  (sSeq (sIf (tOo (tNo (tOf (eCall F_is_number_givers (aCons (eVar 1) (aCons (eC (.int 0)) aNil))))) (tOo (tOf (eOp oGe (eVar 1) (eC (.int 4294967296)))) (tOo (tNo (tOf (eCall F_is_number_givers (aCons (eVar 2) (aCons (eC (.int 1)) aNil))))) (tOf (eOp oGt (eVar 2) (eC (.int 200))))))) (sRaise "NoNumber") sNx) (sSeq (sIf (tNo (tOf (eCall F_is_number_givers (aCons (eVar 3) (aCons (eC (.int 1)) aNil))))) (sRaise "NoNumber") sNx) (sSeq (sFl ["Giver"] "base" (eVar 0) (eVar 1)) (sSeq (sFl ["Giver"] "most" (eVar 0) (eVar 2)) (sSeq (sFl ["Giver"] "first_wait" (eVar 0) (eVar 3)) (sSeq (sFl ["Giver"] "wait" (eVar 0) (eVar 3)) (sSeq (sFl ["Giver"] "kept" (eVar 0) (eLst (aCons (eC (dS "o")) aNil))) (sSeq (sFl ["Giver"] "sent" (eVar 0) (eC (.int 0))) (sSeq (sFl ["Giver"] "reach" (eVar 0) (eC (.int 1))) (sSeq (sFl ["Giver"] "pace" (eVar 0) (eVar 2)) (sSeq (sFl ["Giver"] "since" (eVar 0) (eC .non)) (sSeq (sFl ["Giver"] "tried" (eVar 0) (eC (.int 0))) (sSeq (sFl ["Giver"] "passed" (eVar 0) (eC (.int 0))) (sSeq (sFl ["Giver", "Talk"] "finished" (eVar 0) (eC (.bl false))) (sFl ["Giver"] "now" (eVar 0) (eC (.int 0)))))))))))))))))
/- slots of is_number_talks: 0=thing 1=beyond -/
noncomputable def F_is_number_talks : Fn := mkFn 2 2
  (sRet (eAnd (eCB (c2 (oIsi os_ xs_ tb_)) (aCons (eVar 0) (aCons (eC (.ty "int")) aNil))) (eAnd (eNot (eCB (c2 (oIsi os_ xs_ tb_)) (aCons (eVar 0) (aCons (eC (.ty "bool")) aNil)))) (eCh oLe oLt (eC (.int 0)) (eVar 0) (eVar 1)))))
/- slots of Talk.__init__: 0=self 1=here 2=there 3=first 4=tick 5=opening -/
noncomputable def F_Talk___init__ : Fn := mkFn 6 6
  (sSeq (sIf (tOo (tNo (tOf (eCall F_is_number_talks (aCons (eVar 1) (aCons (eC (.int 256)) aNil))))) (tNo (tOf (eCall F_is_number_talks (aCons (eVar 2) (aCons (eC (.int 256)) aNil)))))) (sRaise "NoPort") sNx) (sSeq (sIf (tNo (tOf (eCall F_is_number_talks (aCons (eVar 3) (aCons (eC (.int 4294967296)) aNil))))) (sRaise "NoNumber") sNx) (sSeq (sDrop (eCall F_need_tick (aCons (eVar 4) (aCons (eC (.int 0)) aNil)))) (sSeq (sFl ["Talk"] "here" (eVar 0) (eVar 1)) (sSeq (sFl ["Talk"] "there" (eVar 0) (eVar 2)) (sSeq (sFl ["Talk"] "begun_with" (eVar 0) (eVar 3)) (sSeq (sFl ["Talk"] "giver" (eVar 0) (eMake "Giver" F_Giver___init__ (aCons (eVar 3) (aCons (eC (.int 32)) (aCons (eC (.int 4)) aNil))))) (sSeq (sFl ["Talk"] "taker" (eVar 0) (eC .non)) (sSeq (sFl ["Talk"] "other_first" (eVar 0) (eC .non)) (sSeq (sFl ["Talk"] "last_tick" (eVar 0) (eVar 4)) (sSeq (sFl ["Talk"] "ending" (eVar 0) (eC (dS ""))) (sSeq (sFl ["Giver", "Talk"] "finished" (eVar 0) (eC (.bl false))) (sSeq (sFl ["Talk"] "rested" (eVar 0) (eC .non)) (sIf (tOf (eOp oIsNot (eVar 5) (eC .non))) (sDrop (eMeth "begin_taker" [("Talk", F_Talk_begin_taker)] (eVar 0) (aCons (eFld ["Segment"] "number" (eVar 5)) aNil))) sNx))))))))))))))
/- slots of _law_first: 0=_law_draw_here 1=_law_kind -/
noncomputable def F_l_first : Fn := mkFn 1 2
  (sSeq (sSet 1 (eCall F_l_next (aCons (eVar 0) (aCons (eC (.int 4)) aNil)))) (sSeq (sIf (tOf (eOp oEq (eVar 1) (eC (.int 0)))) (sRet (eCall F_l_next (aCons (eVar 0) (aCons (eC (.int 100)) aNil)))) sNx) (sSeq (sIf (tOf (eOp oEq (eVar 1) (eC (.int 1)))) (sRet (eOp oSub (eOp oSub (eOp oPow (eC (.int 2)) (eC (.int 32))) (eC (.int 1))) (eCall F_l_next (aCons (eVar 0) (aCons (eC (.int 100)) aNil))))) sNx) (sRet (eOp oAdd (eOp oMul (eCall F_l_next (aCons (eVar 0) (aCons (eC (.int 65536)) aNil))) (eC (.int 65536))) (eCall F_l_next (aCons (eVar 0) (aCons (eC (.int 65536)) aNil))))))))
/- slots of _law_pair: 0=_law_draw_here 1=_law_tick 2=_law_ports 3=_law_firsts 4=_law_one 5=_law_other -/
noncomputable def F_l_pair : Fn := mkFn 2 6
  (sSeq (sSet 2 (eTup (aCons (eCall F_l_next (aCons (eVar 0) (aCons (eC (.int 256)) aNil))) (aCons (eCall F_l_next (aCons (eVar 0) (aCons (eC (.int 256)) aNil))) aNil)))) (sSeq (sSet 3 (eTup (aCons (eCall F_l_first (aCons (eVar 0) aNil)) (aCons (eCall F_l_first (aCons (eVar 0) aNil)) aNil)))) (sSeq (sSet 4 (eMakeD "Talk" F_Talk___init__ [.non] (aCons (eOp oIx (eVar 2) (eC (.int 0))) (aCons (eOp oIx (eVar 2) (eC (.int 1))) (aCons (eOp oIx (eVar 3) (eC (.int 0))) (aCons (eVar 1) aNil)))))) (sSeq (sSet 5 (eMake "Talk" F_Talk___init__ (aCons (eOp oIx (eVar 2) (eC (.int 1))) (aCons (eOp oIx (eVar 2) (eC (.int 0))) (aCons (eOp oIx (eVar 3) (eC (.int 1))) (aCons (eVar 1) (aCons (eOp oIx (eMeth "due" [("Talk", F_Talk_due)] (eVar 4) (aCons (eVar 1) aNil)) (eC (.int 0))) aNil))))))) (sSeq (sDrop (eMeth "heard" [("Talk", F_Talk_heard)] (eVar 5) (aCons (eOp oIx (eMeth "heard" [("Talk", F_Talk_heard)] (eVar 4) (aCons (eOp oIx (eMeth "due" [("Talk", F_Talk_due)] (eVar 5) (aCons (eVar 1) aNil)) (eC (.int 0))) (aCons (eVar 1) aNil))) (eC (.int 0))) (aCons (eVar 1) aNil)))) (sRet (eLst (aCons (eVar 4) (aCons (eVar 5) (aCons (eVar 2) (aCons (eVar 3) aNil)))))))))))
/- slots of _law_right: 0=_law_draw_here 1=_law_tick 2=_law_one 3=_law_other 4=_law_ports 5=_law_firsts 6=_law_talks 7=_law_rows 8=_law_end 9=_law_since 10=_law_last 11=_law_segment 12=_law_number 13=_law_late -/
noncomputable def F_l_right : Fn := mkFn 1 14
  (sSeq (sSet 1 (eCall F_l_next (aCons (eVar 0) (aCons (eC (.int 50)) aNil)))) (sSeq (sAsg (eCall F_l_pair (aCons (eVar 0) (aCons (eVar 1) aNil))) (gL [(gN 2), (gN 3), (gN 4), (gN 5)])) (sSeq (sSet 6 (eLst (aCons (eVar 2) (aCons (eVar 3) aNil)))) (sSeq (sSet 7 (eLst (aCons (eCall F_l_bytes (aCons (eVar 0) (aCons (eCall F_l_next (aCons (eVar 0) (aCons (eC (.int 51)) aNil))) aNil))) (aCons (eCall F_l_bytes (aCons (eVar 0) (aCons (eCall F_l_next (aCons (eVar 0) (aCons (eC (.int 51)) aNil))) aNil))) aNil)))) (sSeq (sFor (wAs rg1 (aCons (eC (.int 2)) aNil)) (gN 8) (sSeq (sIf (tOf (eOp oNe (eMeth "write" [("Talk", F_Talk_write)] (eOp oIx (eVar 6) (eVar 8)) (aCons (eOp oIx (eVar 7) (eVar 8)) aNil)) (eCB (c1 oLen) (aCons (eOp oIx (eVar 7) (eVar 8)) aNil)))) (sRet (eC (.bl false))) sNx) (sDrop (eCall F_l_brought (aCons (eVar 6) (aCons (eVar 8) (aCons (eVar 1) (aCons (eC (.int 0)) aNil)))))))) (sSeq (sDrop (eMeth "finish" [("Talk", F_Talk_finish)] (eVar 2) aNil)) (sSeq (sIf (tOo (tOf (eOp oNe (eMeth "stand" [("Talk", F_Talk_stand)] (eVar 2) aNil) (eC (dS "ends")))) (tOo (tOf (eOp oNe (eMeth "write" [("Talk", F_Talk_write)] (eVar 2) (aCons (eTup (aCons (eC (.int 7)) aNil)) aNil)) (eC (.int 0)))) (tOf (eOp oNe (eMeth "stand" [("Talk", F_Talk_stand)] (eVar 3) aNil) (eC (dS "open")))))) (sRet (eC (.bl false))) sNx) (sSeq (sSet 1 (eOp oAdd (eOp oAdd (eVar 1) (eC (.int 1))) (eCall F_l_next (aCons (eVar 0) (aCons (eC (.int 9)) aNil))))) (sSeq (sDrop (eCall F_l_brought (aCons (eVar 6) (aCons (eC (.int 0)) (aCons (eVar 1) (aCons (eC (.int 0)) aNil)))))) (sSeq (sIf (tOo (tOf (eOp oNe (eMeth "stand" [("Talk", F_Talk_stand)] (eVar 2) aNil) (eC (dS "ends")))) (tOf (eOp oNe (eMeth "stand" [("Talk", F_Talk_stand)] (eVar 3) aNil) (eC (dS "left"))))) (sRet (eC (.bl false))) sNx) (sSeq (sSet 9 (eOp oAdd (eVar 1) (eCall F_l_next (aCons (eVar 0) (aCons (eC (.int 30)) aNil))))) (sSeq (sSet 10 (eCall F_l_left_right (aCons (eVar 6) (aCons (eVar 9) (aCons (eCall F_l_next (aCons (eVar 0) (aCons (eC (.int 4)) aNil))) aNil))))) (sSeq (sIf (tOf (eOp oLt (eVar 10) (eC (.int 0)))) (sRet (eC (.bl false))) sNx) (sSeq (sSet 11 (eC .non)) (sSeq (sIf (tOf (eOp oEq (eCall F_l_next (aCons (eVar 0) (aCons (eC (.int 4)) aNil))) (eC (.int 0)))) (sSeq (sSet 12 (eCall F_l_moved (aCons (eOp oIx (eVar 5) (eC (.int 1))) (aCons (eOp oAdd (eOp oAdd (eC (.int 2)) (eCB (c1 oLen) (aCons (eOp oIx (eVar 7) (eC (.int 1))) aNil))) (eCall F_l_next (aCons (eVar 0) (aCons (eC (.int 20)) aNil)))) aNil)))) (sSet 11 (eMake "Segment" F_Segment___init__ (aCons (eOp oIx (eVar 4) (eC (.int 1))) (aCons (eOp oIx (eVar 4) (eC (.int 0))) (aCons (eC (dS "c")) (aCons (eVar 12) (aCons (eC (.int 0)) (aCons (eC (.int 0)) (aCons (eTup aNil) aNil)))))))))) sNx) (sSeq (sIf (tOo (tNo (tOf (eCall F_l_closes (aCons (eVar 2) (aCons (eVar 9) (aCons (eVar 11) aNil)))))) (tNo (tOf (eCall F_l_closes (aCons (eVar 3) (aCons (eVar 10) (aCons (eC .non) aNil))))))) (sRet (eC (.bl false))) sNx) (sSeq (sIf (tOo (tOf (eOp oNe (eMeth "read" [("Talk", F_Talk_read)] (eVar 2) (aCons (eC (.int 128)) aNil)) (eOp oIx (eVar 7) (eC (.int 1))))) (tOo (tOf (eOp oNe (eMeth "read" [("Talk", F_Talk_read)] (eVar 3) (aCons (eC (.int 128)) aNil)) (eOp oIx (eVar 7) (eC (.int 0))))) (tOf (eOp oNe (eOp oAdd (eMeth "ready" [("Talk", F_Talk_ready)] (eVar 2) aNil) (eMeth "ready" [("Talk", F_Talk_ready)] (eVar 3) aNil)) (eC (.int 0)))))) (sRet (eC (.bl false))) sNx) (sSeq (sSet 13 (eMake "Segment" F_Segment___init__ (aCons (eOp oIx (eVar 4) (eC (.int 1))) (aCons (eOp oIx (eVar 4) (eC (.int 0))) (aCons (eC (dS "aeo")) (aCons (eOp oIx (eVar 5) (eC (.int 1))) (aCons (eCall F_l_moved (aCons (eOp oIx (eVar 5) (eC (.int 0))) (aCons (eC (.int 1)) aNil))) (aCons (eC (.int 5)) (aCons (eTup (aCons (eC (.int 1)) aNil)) aNil))))))))) (sRet (eOp oEq (eMeth "heard" [("Talk", F_Talk_heard)] (eVar 2) (aCons (eVar 13) (aCons (eOp oAdd (eVar 10) (eC (.int 900))) aNil))) (eLst aNil)))))))))))))))))))))
/- slots of law: 0=_law_script 1=_law_k -/
noncomputable def F_law : Fn := mkFn 1 2
  (sSeq (sFor (wAs rg1 (aCons (eCB (c2 oMax2) (aCons (eC (.int 1)) (aCons (eCB (c2 oMin2) (aCons (eC (.int 8)) (aCons (eCB (c1 oLen) (aCons (eVar 0) aNil)) aNil))) aNil))) aNil)) (gN 1) (sIf (tNo (tOf (eCall0 F_l_right (aCons (eCall0 F_l_draw (aCons (eVar 0) (aCons (eVar 1) (aCons (eC (.int 0)) aNil)))) aNil)))) (sRet (eC (.bl false))) sNx)) (sRet (eC (.bl true))))
end Kk
namespace Kk
open PySem L2 SM
local macro_rules
  | `(tactic| simp_arith [$xs,*] $[$loc]?) => `(tactic| simp (disch := (first | omega | assumption | (simp only [List.length_set, List.length_append, List.length_cons, List.length_nil, List.length_map, List.length_take, List.length_drop, List.length_reverse, List.length_replicate, List.length_range] <;> omega) | (intro; omega) | (simp only [List.all_cons, List.all_nil, z45, z66, Option.isSome_some, Bool.and_true, Bool.and_self]; done) | decide)) only [z35, z1s, z09, z5x, z41, z4j, z4w, eC_, z87, z9q, z6h, z5v, z9b, z4z, z3t, c1_, c2_, c3_, z7c, z5c, z72, z9n, z6s, z8p, z84, z94, z8j, z85, z9i, z9k, z6o, z6p, z0l, z68, z91, z5k, z8b, z8s, z7y, z56, z5w, z2v, z57, z4h, z1f, z90, z8i, z9g, z3u, z5i, z4f, z60, z40, z5e, z81, z5l, z8v, z7k, z2l, z7m, gN_, z63, z2g, z1k, z7u, z4q, z79, z6j, z6l, z51, z6d, z3g, z18, z7f, z6v, z71, z5f, z4u, z4m, z6c, z5q, z4v, z4o, z4x, z62, z5z, z7d, z6w, z83, z7n, z6a, z4g, z3i, z4e, z53, z54, z6z, z7b, z3c, z43, z6f, z73, z4d, z0m, z69, z1i, z1d, z0x, z2a, z0w, z17, z0r, z1z, z1a, z0t, z0i, z13, z0b, z1h, z08, z1l, z03, z0d, z0v, z0e, z1g, z02, z0y, z0n, z06, z0j, z1j, z07, z1b, z0f, z05, z19, z28, z23, z2m, z4n, z5g, z2k, z36, z82, z2r, z7o, z9h, z2f, z3b, z1n, z1m, z3p, z0u, z5h, z3z, z4i, z42, z3a, z1o, z70, z39, z3x, z64, z4k, z1e, z49, z3v, z9f, z7r, z6b, z6x, z3l, z8l, z6n, z8n, z4a, z38, z47, z99, z9l, z98, z33, z3o, z3k, z3q, z2c, z7l, z8k, z8y, z61, z3e, z6y, z8d, z3d, z8c, z2q, z8u, z1x, z8r, z1t, z1w, z11, z89, z9c, z8q, z4l, z21, z9o, z7j, z2t, z48, z97, z7i, z31, z44, z0p, z67, z8m, z1r, z0o, z8a, z0s, z0g, z96, z0c, z8z, z20, z2u, z95, z8w, z9a, z5j, z93, z8t, z92, z3m, z8e, z34, z8o, z7x, z9m, z80, z9d, z5n, z88, z5a, z2z, z01, z0a, z86, z37, z78, z9e, z7g, z2d, z0z, z6i, z7w, z7a, z27, z1c, z24, z5o, z6t, z6k, z75, z77, z7h, z5p, z6g, z7s, z7q, z76, z26, z1v, z2o, z6m, z7e, z46, z15, z58, z3n, z9j, z6u, z3j, z66, z5u, z45, z9p, z8h, z6e, z2j, z6r, z2e, z2b, z14, z16, z0h, z04, z1q, z0q, z2n, z12, z2h, z10, z74, z4s, z59, z5t, z0k, z00, c4_, z4b, z8x, z65, z3h, z2x, z4p, z32, z2p, z25, z7p, z3w, z7t, z7z, z22, z5b, z55, z3r, z4c, z1u, z5y, z2s, z3y, z2i, z1p, z8g, z4y, z3f, z2w, z1y, z6q, z5m, z4r, z5d, z4t, z2y, z29, z50, z5s, z3s, z30, z5r, z52, z8f, z7v, List.all_cons, List.all_nil, Bool.and_true, if_pos, if_neg, if_true, if_false, ite_true, ite_false, Bool.false_eq_true, Bool.true_eq_false, Bool.not_true, Bool.not_false, Bool.not_eq_true', decide_eq_true_eq, decide_eq_false_iff_not, Bool.not_eq_true, decide_true, decide_false, List.length_cons, List.length_nil, List.map_cons, List.map_nil, List.cons_append, List.nil_append, List.length_map, rep_nS, rep_n0, List.append_nil, List.mem_cons, List.mem_singleton, List.not_mem_nil, or_false, false_or, true_or, or_true, and_true, true_and, and_false, false_and, Option.isSome_some, Option.isSome_none, Option.isNone_none, Option.isNone_some, String.reduceEq, String.reduceNe, Nat.reduceAdd, Nat.reduceSub, Nat.reduceLT, Nat.reduceLeDiff, Nat.reduceMul, Int.reduceAdd, Int.reduceSub, Int.reduceMul, Int.reduceLT, Int.reduceLE, Int.reduceGT, Int.reduceEq, Int.reduceToNat, Int.reducePow, Int.reduceNeg, Nat.reduceEqDiff, eq_self, eq_self_iff_true, not_true_eq_false, not_false_eq_true, List.getElem?_cons_zero, List.getElem?_cons_succ, Option.bind_some, ne_eq, reduceCtorEq, Int.reduceDiv, Int.reduceMod, Bool.and_self, reduceIte, $xs,*] $[$loc]?)
local macro_rules
  | `(tactic| walk_at "fr!") => `(tactic| (repeat (first | exact Fr.refl | assumption | refine Fr.then_push ?_ | refine Fr.then_set ?_ (by first | exact Or.inr (Nat.le_refl _) | exact Or.inr (by omega) | (refine Or.inl ?_; simp; done) | (refine Or.inr ?_; simp; done)))))
def mx (p q : Int) : Int := ((p + 7919 * q + 11) * 48271 % 2147483647 * ((p + 7919 * q + 11) * 48271 % 2147483647) + 40692 * ((p + 7919 * q + 11) * 48271 % 2147483647)) % 2147483399
theorem mixed_ok {p q : Int} {A : Hs} : F_l_mixed [.int p, .int q] A = .ok (.int (mx p q)) A := by
  unfold F_l_mixed
  simp_arith []
  rfl
/-- a draw's list -/
def Drw (A : Hs) (i : Nat) : Prop := ∃ a b c : Int, A[i]? = some (.lst [.int a, .int b, .int c])
theorem Drw.frame {A A1 : Hs} {i : Nat} {s : List Nat} (h : Drw A i) (f : Fr s A A1) (hi : i ∉ s) : Drw A1 i := by
  obtain ⟨a, b, c, h⟩ := h
  exact ⟨a, b, c, f.get h hi⟩
theorem Drw.lt {A : Hs} {i : Nat} (h : Drw A i) : i < A.length := by
  obtain ⟨a, b, c, h⟩ := h
  exact lt_of_get h
theorem draw_ok {l : List D} {ns : List Int} {k c : Int} {A : Hs} (hl : l = ns.map D.int) (hk : 0 ≤ k) : Rk (F_l_draw [.scr l, .int k, .int c] A) fun v A1 => v = .ref A.length ∧ Drw A1 A.length ∧ Fr [] A A1 := by
  subst hl
  have : ∃ e : Int, (if k < (ns.length : Int) then (atI (ns.map D.int) k) else some (.int 0)) = some (.int e) := by
    by_cases q : k < (ns.length : Int)
    · rw [if_pos q, z5o hk, List.getElem?_map, List.getElem?_eq_getElem (by omega)]; exact ⟨_, rfl⟩
    · rw [if_neg q]; exact ⟨_, rfl⟩
  obtain ⟨e, he⟩ := this
  unfold F_l_draw
  rcases Int.emod_two_eq e with q2 | q2
  · by_cases q : k < (ns.length : Int)
    · rw [if_pos q] at he
      simp_arith [q, he, mixed_ok, q2, -z5o]
      exact ⟨⟨_, _, _, z9e⟩, .push⟩
    · rw [if_neg q] at he
      cases he
      simp_arith [q, mixed_ok]
      exact ⟨⟨_, _, _, z9e⟩, .push⟩
  · by_cases q : k < (ns.length : Int)
    · rw [if_pos q] at he
      simp_arith [q, he, mixed_ok, q2, -z5o]
      exact ⟨⟨_, _, _, z9e⟩, .push⟩
    · rw [if_neg q] at he
      cases he
      cases q2
theorem not01 {a : Int} {A : Hs} : inl_ A (.int a) [.int 0, .int (-1)] true = .ok (.bl (!decide (a = 0 ∨ a = -1))) A := by
  have : [D.int 0, .int (-1)] = [0, -1].map D.int := rfl
  rw [this, z2b]
  simp
theorem next_ok {A : Hs} {i : Nat} {n : Int} (h : Drw A i) (hn : 0 < n) (hn2 : n < 18446744073709551616) : ∃ v A1, 0 ≤ v ∧ v < n ∧ F_l_next [.ref i, .int n] A = .ok (.int v) A1 ∧ Drw A1 i ∧ Fr [i] A A1 := by
  obtain ⟨a, b, c, h⟩ := h
  have hi := lt_of_get h
  unfold F_l_next
  by_cases q1 : b < 0
  · by_cases q2 : a = 0 ∨ a = -1
    · refine ⟨mx c (max 0 b + 1) / 7 % n, A.set i (.lst [.int a, .int (max 0 b + 1), .int c]), Int.emod_nonneg _ (by omega), Int.emod_lt_of_pos _ hn, ?_, ⟨_, _, _, z86 hi⟩, .set (by simp)⟩
      simp_arith [h, q1, not01, decide_eq_true q2, List.set_cons_zero, List.set_cons_succ, mixed_ok]
    · refine ⟨a % n, A.set i (.lst [.int (a / n), .int b, .int c]), Int.emod_nonneg _ (by omega), Int.emod_lt_of_pos _ hn, ?_, ⟨_, _, _, z86 hi⟩, .set (by simp)⟩
      simp_arith [h, q1, not01, decide_eq_false q2, List.set_cons_zero]
  · refine ⟨mx c (max 0 b + 1) / 7 % n, A.set i (.lst [.int a, .int (max 0 b + 1), .int c]), Int.emod_nonneg _ (by omega), Int.emod_lt_of_pos _ hn, ?_, ⟨_, _, _, z86 hi⟩, .set (by simp)⟩
    simp_arith [h, q1, List.set_cons_zero, List.set_cons_succ, mixed_ok]
theorem l_moved_ok {p q : Int} {A : Hs} : F_l_moved [.int p, .int q] A = .ok (.int ((p + q) % 4294967296)) A := by
  unfold F_l_moved
  simp_arith []
theorem first_ok {A : Hs} {i : Nat} (h : Drw A i) : Rk (F_l_first [.ref i] A) fun v A1 => ∃ f : Int, v = .int f ∧ 0 ≤ f ∧ f < 4294967296 ∧ Drw A1 i ∧ Fr [i] A A1 := by
  obtain ⟨v1, A1, a1, b1, e1, d1, f1⟩ := next_ok (n := 4) h (by decide) (by decide)
  unfold F_l_first
  by_cases q : v1 = 0
  · obtain ⟨v2, A2, a2, b2, e2, d2, f2⟩ := next_ok (n := 100) d1 (by decide) (by decide)
    simp_arith [e1, q, e2]
    exact ⟨v2, rfl, a2, by omega, d2, f1.trans f2⟩
  · by_cases q2 : v1 = 1
    · obtain ⟨v2, A2, a2, b2, e2, d2, f2⟩ := next_ok (n := 100) d1 (by decide) (by decide)
      simp_arith [e1, q, q2, e2]
      exact ⟨_, rfl, by omega, by omega, d2, f1.trans f2⟩
    · obtain ⟨v2, A2, a2, b2, e2, d2, f2⟩ := next_ok (n := 65536) d1 (by decide) (by decide)
      obtain ⟨v3, A3, a3, b3, e3, d3, f3⟩ := next_ok (n := 65536) d2 (by decide) (by decide)
      simp_arith [e1, q, q2, e2, e3]
      exact ⟨_, rfl, by omega, by omega, d3, (f1.trans f2).trans f3⟩

theorem need_number_ok {p q : Int} {A : Hs} (h : 0 ≤ p ∧ p < q) : F_need_number [.int p, .int q] A = .ok .non A := by
  unfold F_need_number
  simp_arith []
theorem need_size_ok {p : Int} {A : Hs} (h : 2 ≤ p ∧ p ≤ 4294967296) : F_need_size [.int p] A = .ok .non A := by
  unfold F_need_size
  simp_arith []
theorem moved_ok {p q n : Int} {A : Hs} (h : 0 ≤ p ∧ p < n) (hn : 2 ≤ n ∧ n ≤ 4294967296) : F_moved [.int p, .int q, .int n] A = .ok (.int ((p + q) % n)) A := by
  unfold F_moved
  simp_arith [need_number_ok, need_size_ok]
theorem far_ok {p q n : Int} {A : Hs} (h : 0 ≤ p ∧ p < n) (h2 : 0 ≤ q ∧ q < n) (hn : 2 ≤ n ∧ n ≤ 4294967296) : F_far [.int p, .int q, .int n] A = .ok (.int ((q - p) % n)) A := by
  unfold F_far
  simp_arith [need_number_ok, need_size_ok]

def isE : D → Bool
  | .str s => decide (s = fS "e")
  | _ => false
def isOO : D → Bool
  | .str s => decide (s = fS "o")
  | _ => false
def Itm (d : D) : Prop := (∃ i, d = .int i) ∨ d = dS "o" ∨ d = dS "e"
theorem Itm.e {d : D} {A : Hs} (h : Itm d) : oEq d (dS "e") A = .ok (.bl (isE d)) A := by
  rcases h with ⟨i, rfl⟩ | rfl | rfl
  · rw [oEq_ids]; rfl
  · rw [z6f]; simp [isE, dS, fS_inj]
  · rw [z6f]; simp [isE, dS, fS_inj]
theorem Itm.o {d : D} {A : Hs} (h : Itm d) : oNe d (dS "o") A = .ok (.bl (!isOO d)) A := by
  rcases h with ⟨i, rfl⟩ | rfl | rfl
  · rw [oNe_ids]; rfl
  · rw [z73]; simp [isOO, dS, fS_inj]
  · rw [z73]; simp [isOO, dS, fS_inj]

theorem gnumber_ok {p q : Int} {A : Hs} : F_is_number_givers [.int p, .int q] A = .ok (.bl (decide (q ≤ p))) A := by
  unfold F_is_number_givers
  simp_arith []
def oi : Option Int → D
  | none => .non
  | some i => .int i
theorem oi_n : oi none = .non := rfl
theorem oi_s {i : Int} : oi (some i) = .int i := rfl
structure Gv where
  base : Int
  most : Int
  fw : Int
  wait : Int
  sent : Int
  reach : Int
  pace : Int
  tried : Int
  passed : Int
  now : Int
  since : Option Int
  fin : Bool
  kept : List D
def Gv.fs (G : Gv) (k : Nat) : List (String × D) := [("base", .int G.base), ("most", .int G.most), ("first_wait", .int G.fw), ("wait", .int G.wait), ("kept", .ref k), ("sent", .int G.sent), ("reach", .int G.reach), ("pace", .int G.pace), ("since", oi G.since), ("tried", .int G.tried), ("passed", .int G.passed), ("finished", .bl G.fin), ("now", .int G.now)]
structure IsG (A : Hs) (g k : Nat) (G : Gv) : Prop where
  o : A[g]? = some (.obj "Giver" (G.fs k))
  l : A[k]? = some (.lst G.kept)
theorem IsG.ne {A : Hs} {g k : Nat} {G : Gv} (h : IsG A g k G) : g ≠ k := fun e => by have := h.o; rw [e, h.l] at this; cases this
theorem IsG.frame {A A1 : Hs} {g k : Nat} {G : Gv} {s : List Nat} (h : IsG A g k G) (f : Fr s A A1) (hg : g ∉ s) (hk : k ∉ s) : IsG A1 g k G := ⟨f.get h.o hg, f.get h.l hk⟩
theorem IsG.set {A : Hs} {g k : Nat} {G G1 : Gv} (h : IsG A g k G) (hk : G1.kept = G.kept) : IsG (A.set g (.obj "Giver" (G1.fs k))) g k G1 := ⟨get_set h.o, by rw [hk]; exact get_set_ne h.ne h.l⟩
theorem gneed_tick_ok {A : Hs} {g k : Nat} {G : Gv} {t : Int} (h : IsG A g k G) (ht : G.now ≤ t) : ∃ A1, F_Giver_need_tick [.ref g, .int t] A = .ok .non A1 ∧ IsG A1 g k { G with now := t } ∧ Fr [g] A A1 := by
  refine ⟨_, ?_, h.set (G1 := { G with now := t }) rfl, .set (by simp)⟩
  unfold F_Giver_need_tick
  have ho := h.o
  simp_arith [ho, Gv.fs, gnumber_ok, ht]
def Gv.counted (G : Gv) : Bool := decide (0 < G.sent) || (decide (0 < (G.kept.length : Int)) && decide (G.reach = 0))
theorem is_counted_ok {A : Hs} {g k : Nat} {G : Gv} (h : IsG A g k G) : F_Giver_is_counted [.ref g] A = .ok (.bl G.counted) A := by
  unfold F_Giver_is_counted Gv.counted
  have ho := h.o
  have hl := h.l
  by_cases q : 0 < G.sent
  · simp_arith [ho, Gv.fs, hl, q, Bool.true_or]
  · by_cases q2 : 0 < (G.kept.length : Int)
    · simp_arith [ho, Gv.fs, hl, q, q2, Bool.false_or, Bool.true_and]
    · simp_arith [ho, Gv.fs, hl, q, q2, Bool.false_or, Bool.false_and]
def Gv.count (G : Gv) (t : Int) : Gv := { G with since := if G.counted then (if G.since.isNone then some t else G.since) else none }
theorem count_ok {A : Hs} {g k : Nat} {G : Gv} {t : Int} (h : IsG A g k G) : ∃ A1, F_Giver_count [.ref g, .int t] A = .ok .non A1 ∧ IsG A1 g k (G.count t) ∧ Fr [g] A A1 := by
  have ho := h.o
  unfold F_Giver_count
  by_cases q : G.counted = true
  · cases hs : G.since with
    | none =>
      refine ⟨_, ?_, h.set (G1 := G.count t) rfl, .set (by simp)⟩
      simp_arith [ho, Gv.fs, is_counted_ok h, q, hs, oi_n, oi_s, Gv.count]
    | some u =>
      refine ⟨A, ?_, ?_, .refl⟩
      · simp_arith [ho, Gv.fs, is_counted_ok h, q, hs, oi_n, oi_s]
      · have : G.count t = G := by unfold Gv.count; cases G; simp_all
        rw [this]; exact h
  · refine ⟨_, ?_, h.set (G1 := G.count t) rfl, .set (by simp)⟩
    simp_arith [ho, Gv.fs, is_counted_ok h, q, oi_n, oi_s, Gv.count]

theorem count_rk {A : Hs} {g k : Nat} {G : Gv} {t : Int} (h : IsG A g k G) : Rk (F_Giver_count [.ref g, .int t] A) fun v A1 => v = .non ∧ IsG A1 g k (G.count t) ∧ Fr [g] A A1 := by
  obtain ⟨A1, e, p⟩ := count_ok (t := t) h
  exact .of e ⟨rfl, p⟩
structure Gv.Ok (G : Gv) : Prop where
  base : 0 ≤ G.base ∧ G.base < 4294967296
  most : 0 < G.most ∧ G.most ≤ 200
  fw : 0 < G.fw
  sent : 0 ≤ G.sent
theorem next_number_ok {A : Hs} {g k : Nat} {G : Gv} (h : IsG A g k G) (hk : 0 ≤ G.base ∧ G.base < 4294967296) : F_Giver_next_number [.ref g] A = .ok (.int ((G.base + G.sent) % 4294967296)) A := by
  have ho := h.o
  unfold F_Giver_next_number
  simp_arith [ho, Gv.fs, moved_ok]
theorem tries_ok {A : Hs} {g k : Nat} {G : Gv} (h : IsG A g k G) : F_Giver_tries [.ref g] A = .ok (.int G.tried) A := by
  have ho := h.o
  unfold F_Giver_tries
  simp_arith [ho, Gv.fs]
theorem left_ok {A : Hs} {g k : Nat} {G : Gv} (h : IsG A g k G) : F_Giver_left [.ref g] A = .ok (.int G.kept.length) A := by
  have ho := h.o
  have hl := h.l
  unfold F_Giver_left
  simp_arith [ho, hl, Gv.fs]
def Gv.late (G : Gv) (t : Int) : Bool := match G.since with
  | none => false
  | some u => decide (G.wait ≤ t - u)
def Gv.again (G : Gv) (t : Int) : Gv := if G.late t then { G with wait := min (2 * G.wait) (16 * G.fw), since := some t, tried := G.tried + 1, pace := G.most } else G
def Gv.againL (G : Gv) (t : Int) : List D := if G.late t then [.tup [.int G.base, .tup (G.kept.take (min G.most G.sent).toNat)]] else []
theorem again_ok {A : Hs} {g k : Nat} {G : Gv} {t : Int} (h : IsG A g k G) (hk : G.Ok) : Rk (F_Giver_again [.ref g, .int t] A) fun v A1 => ∃ r, v = .ref r ∧ A.length ≤ r ∧ A1[r]? = some (.lst (G.againL t)) ∧ IsG A1 g k (G.again t) ∧ Fr [g] A A1 := by
  have ho := h.o
  have hl := h.l
  have hg := lt_of_get ho
  have hkl := lt_of_get hl
  have hne := h.ne
  have hm := hk.most
  have hs := hk.sent
  unfold F_Giver_again
  cases q : G.since with
  | none =>
    have e : G.late t = false := by unfold Gv.late; rw [q]
    simp_arith [ho, Gv.fs, q, oi_n, Gv.again, Gv.againL, e]
    exact ⟨_, rfl, Nat.le_refl _, z9e, h.frame (s := []) .push (by simp) (by simp), .push⟩
  | some u =>
    by_cases q2 : G.wait ≤ t - u
    · have e : G.late t = true := by unfold Gv.late; rw [q]; exact decide_eq_true q2
      simp_arith [ho, Gv.fs, q, oi_s, q2, hl, z2y, z29, z4r, Gv.again, Gv.againL, e]
      refine ⟨_, rfl, Nat.le_succ _, by simp_arith [z29], ⟨?_, ?_⟩, (Fr.set (by simp)).then_push.then_push⟩
      · simp_arith [ho, Gv.fs, z29, z2y, oi_s]
      · simp_arith [hl, z29, z2y]
    · have e : G.late t = false := by unfold Gv.late; rw [q]; exact decide_eq_false q2
      simp_arith [ho, Gv.fs, q, oi_s, q2, Gv.again, Gv.againL, e]
      exact ⟨_, rfl, Nat.le_refl _, z9e, h.frame (s := []) .push (by simp) (by simp), .push⟩
theorem cnt_lt {s e c : Int} {i : Nat} (hc : 0 < c) : i < cnt s e c ↔ s + i * c < e := by
  unfold cnt
  by_cases h : s < e
  · rw [if_pos h]
    have h0 : 0 ≤ (e - s - 1) / c := Int.ediv_nonneg (by omega) (by omega)
    have h1 := Int.le_ediv_iff_mul_le (a := (i : Int)) (b := e - s - 1) hc
    constructor
    · intro q
      have := h1.mp (by omega)
      omega
    · intro q
      have := h1.mpr (by omega)
      omega
  · rw [if_neg h]
    constructor
    · intro q; simp at q
    · intro q
      have : 0 ≤ (i : Int) * c := Int.mul_nonneg (by omega) (by omega)
      omega
def chk (kept : List D) (base s e c : Int) (i : Nat) : D := .tup [.int ((base + (s + i * c)) % 4294967296), .tup ((kept.drop (s + i * c).toNat).take ((s + i * c + min c (e - (s + i * c))).toNat - (s + i * c).toNat))]
def chks (kept : List D) (base s e c : Int) : List D := (List.range (cnt s e c)).map (chk kept base s e c)
def Gv.due1 (G : Gv) (t : Int) : Gv := Gv.count { G with now := t } t
def Gv.due2 (G : Gv) (t : Int) : Gv := (G.due1 t).again t
def Gv.end_ (G : Gv) : Int := min (min (G.kept.length : Int) G.reach) G.pace
def Gv.due3 (G : Gv) (t : Int) : Gv := { G.due2 t with sent := max (G.due2 t).sent (G.due2 t).end_ }
def Gv.dueG (G : Gv) (t : Int) : Gv := (G.due3 t).count t
def Gv.dueL (G : Gv) (t : Int) : List D := (G.due1 t).againL t ++ chks (G.due2 t).kept (G.due2 t).base (G.due2 t).sent (G.due2 t).end_ (G.due2 t).most
theorem Gv.Ok.count {G : Gv} {t : Int} (h : G.Ok) : (G.count t).Ok := ⟨h.base, h.most, h.fw, h.sent⟩
theorem Gv.Ok.due1 {G : Gv} {t : Int} (h : G.Ok) : (G.due1 t).Ok := ⟨h.base, h.most, h.fw, h.sent⟩
theorem Gv.Ok.again {G : Gv} {t : Int} (h : G.Ok) : (G.again t).Ok := by
  unfold Gv.again
  split
  · exact ⟨h.base, h.most, h.fw, h.sent⟩
  · exact h
theorem due_ok {A : Hs} {g k : Nat} {G : Gv} {t : Int} (h : IsG A g k G) (hk : G.Ok) (ht : G.now ≤ t) (hz : G.kept.length ≤ 1000) : Rk (F_Giver_due [.ref g, .int t] A) fun v A1 => ∃ r, v = .ref r ∧ A.length ≤ r ∧ A1[r]? = some (.lst (G.dueL t)) ∧ IsG A1 g k (G.dueG t) ∧ Fr [g] A A1 := by
  obtain ⟨A1, e1, h1, f1⟩ := gneed_tick_ok h ht
  obtain ⟨A2, e2, h2, f2⟩ := count_ok (t := t) h1
  obtain ⟨_, A3, e3, r, rfl, hr, h3, h4, f3⟩ := (again_ok (t := t) h2 hk.due1).ex
  have f123 := (f1.trans f2).trans f3
  have hk2 : (G.due2 t).Ok := hk.due1.again
  have kept2 : (G.due2 t).kept = G.kept := by unfold Gv.due2 Gv.again; split <;> rfl
  change IsG A3 g k (G.due2 t) at h4
  change A3[r]? = some (.lst ((G.due1 t).againL t)) at h3
  unfold Gv.dueG Gv.dueL Gv.due3
  have hLl : ((G.due1 t).againL t).length ≤ 1 := by unfold Gv.againL; split <;> simp
  generalize (G.due1 t).againL t = L at *
  generalize hG2 : G.due2 t = G2 at *
  have hA := h.o
  have hA1 := h1.o
  have hA2 := h2.o
  have hA3 := h4.o
  have hl3 := h4.l
  unfold F_Giver_due
  simp_arith [hA, hA1, hA2, hA3, hl3, Gv.fs, e1, e2, e3]
  have hs2 := hk2.sent
  have hm2 := hk2.most
  have hgr : g ≠ r := fun e => by have := f1.le; have := f2.le; have := lt_of_get hA; omega
  have hkr : k ≠ r := fun e => by have := f1.le; have := f2.le; have := lt_of_get h.l; omega
  refine wh_go (R := fun rs => Rk (finR (seqR rs _)) _) (fun n env B => ∃ (i : Nat) (o : Option D) (u : Int), n + i = cnt G2.sent G2.end_ G2.most ∧ env = [some (.ref g), some (.int t), some (.ref r), some (.int G2.end_), o] ∧ (u = if G2.sent + i * G2.most < G2.end_ then G2.sent + i * G2.most else max G2.sent G2.end_) ∧ IsG B g k { G2 with sent := u } ∧ B[r]? = some (.lst (L ++ (List.range i).map (chk G2.kept G2.base G2.sent G2.end_ G2.most))) ∧ Fr [g, r] A3 B) (n := cnt G2.sent G2.end_ G2.most) ⟨0, none, G2.sent, rfl, rfl, ?_, h4, ?_, .refl⟩ ?_
  · split <;> omega
  · simpa using h3
  rintro n _ B ⟨i, o, u, hn, rfl, hu, hG, hL, hF⟩
  have hne := hG.ne
  have ho := hG.o
  have hl := hG.l
  have hgl := lt_of_get ho
  have hkl := lt_of_get hl
  have hrl := lt_of_get hL
  by_cases q : G2.sent + i * G2.most < G2.end_
  · rw [if_pos q] at hu
    subst hu
    have hi := (cnt_lt hm2.1).mpr q
    have hp : 0 ≤ (i : Int) * G2.most := Int.mul_nonneg (by omega) (by omega)
    simp_arith [ho, hl, hL, Gv.fs, q, next_number_ok hG hk2.base]
    have hi2 : (i : Int) ≤ i * G2.most := by have := Int.mul_le_mul_of_nonneg_left (show (1 : Int) ≤ G2.most by omega) (show (0 : Int) ≤ i by omega); omega
    have he : G2.end_ ≤ G2.kept.length := by unfold Gv.end_; omega
    rw [kept2] at he
    simp_arith [ho, hl, hL, Gv.fs, q, next_number_ok hG hk2.base]
    have hx : ((i + 1 : Nat) : Int) * G2.most = i * G2.most + G2.most := by rw [Int.natCast_succ, Int.add_mul, Int.one_mul]
    refine ⟨n - 1, by omega, i + 1, _, G2.sent + ↑i * G2.most + min G2.most (G2.end_ - (G2.sent + ↑i * G2.most)), by omega, rfl, by rw [hx]; split <;> omega, ⟨?_, ?_⟩, ?_, ?_⟩
    · simp_arith [Gv.fs]
    · simp_arith [hl]
    · simp_arith [List.range_succ, List.map_append, List.append_assoc]
      rfl
    · exact (hF.then_push.then_set (.inl (by simp))).then_set (.inl (by simp))
  · rw [if_neg q] at hu
    subst hu
    have hi : i = cnt G2.sent G2.end_ G2.most := by
      have := mt (cnt_lt (i := i) hm2.1).mp q
      omega
    subst hi
    obtain ⟨A4, e4, h5, f5⟩ := count_ok (t := t) hG
    simp_arith [ho, hl, hL, Gv.fs, q, e4]
    refine ⟨r, rfl, by have := f1.le; have := f2.le; omega, f5.get hL (by simpa using fun e => hgr e.symm), h5, ?_⟩
    exact (f123.trans' hF (fun j hj => by simp at hj; rcases hj with rfl | rfl; exact .inl (by simp); exact .inr (by have := f1.le; have := f2.le; omega))).trans f5
theorem is_whole_ok {p lo hi : Int} {A : Hs} : F_is_whole [.int p, .int lo, .int hi] A = .ok (.bl (decide (lo ≤ p) && decide (p ≤ hi))) A := by
  unfold F_is_whole
  by_cases h : lo ≤ p
  · simp_arith [h, Bool.true_and]
  · simp_arith [h, Bool.false_and]
theorem is_data_ok {ds : List Int} {A : Hs} (h : ∀ b ∈ ds, 0 ≤ b ∧ b ≤ 255) (hl : ds.length ≤ 1000) : ∃ A1, F_is_data [.tup (ds.map D.int)] A = .ok (.bl true) A1 ∧ Fr [] A A1 := by
  have key : lcL (gN 1) tYe (eCall0 F_is_whole (aCons (eVar 1) (aCons (eC (.int 0)) (aCons (eC (.int 255)) aNil)))) tt [some (.tup (ds.map D.int)), none] (ds.map D.int) [] A = .ok (((ds.map D.int).filter fun _ => true).map fun _ => D.bl true) A := by
    refine lc_go _ _ trivial (by simp; omega) fun d hd => ?_
    obtain ⟨b, hb, rfl⟩ := List.mem_map.mp hd
    have := h b hb
    simp_arith [is_whole_ok]
    simp [this.1, this.2]
  refine ⟨_, ?_, .push (u := .lst (ds.map fun _ => .bl true))⟩
  have e : ∀ l : List Int, boolsOf (l.map fun _ => D.bl true) = some (l.map fun _ => true) := fun l => by
    have := z01 (l.map fun _ => true)
    rwa [List.map_map] at this
  have e2 : ((ds.map D.int).filter fun _ => true).map (fun _ => D.bl true) = ds.map fun _ => D.bl true := by
    rw [List.filter_eq_self.mpr (by simp), List.map_map]; rfl
  rw [e2] at key
  unfold F_is_data
  simp_arith [key, e]
  simp
def Gv.heardG (G : Gv) (a room t : Int) : Gv :=
  let m := (a - G.base) % 4294967296
  if G.sent < m then { G with now := t } else
  Gv.count { G with now := t, tried := 0, base := a, kept := G.kept.drop m.toNat, sent := G.sent - m, passed := G.passed + m, reach := max (G.reach - m) room, wait := if 0 < m then G.fw else G.wait, since := if 0 < m then none else G.since, pace := if 0 < m then min 512 (G.pace + G.most) else G.pace } t
theorem heard_ok {A : Hs} {g k : Nat} {G : Gv} {a room t : Int} (h : IsG A g k G) (hb : 0 ≤ G.base ∧ G.base < 4294967296) (ha : 0 ≤ a ∧ a < 4294967296) (ht : G.now ≤ t) : Rk (F_Giver_heard [.ref g, .int a, .int room, .int t] A) fun v A1 => v = .bl (decide ((a - G.base) % 4294967296 ≤ G.sent)) ∧ ∃ k1, (k1 = k ∨ A.length ≤ k1) ∧ IsG A1 g k1 (G.heardG a room t) ∧ Fr [g] A A1 := by
  obtain ⟨A1, e1, h1, f1⟩ := gneed_tick_ok h ht
  have hA := h.o
  have ho := h1.o
  have hl := h1.l
  have hgl := lt_of_get ho
  have hkl := lt_of_get hl
  have hne := h.ne
  have hm := Int.emod_nonneg (a - G.base) (show (4294967296 : Int) ≠ 0 by decide)
  unfold F_Giver_heard Gv.heardG
  by_cases q : G.sent < (a - G.base) % 4294967296
  · have q2 : ¬ (a - G.base) % 4294967296 ≤ G.sent := by omega
    simp_arith [hA, ho, hl, Gv.fs, e1, far_ok, q, q2]
    exact ⟨k, .inl rfl, h1, f1⟩
  · have q2 : (a - G.base) % 4294967296 ≤ G.sent := by omega
    generalize hM : (a - G.base) % 4294967296 = M at *
    by_cases q3 : 0 < M
    all_goals
      simp_arith [hA, ho, hl, Gv.fs, e1, far_ok, hM, q, q2, q3]
      refine Rk.call (fun r => Rk (finR (seqR (ofE _ r _) _)) _) (count_rk (k := A1.length) (G := { G with now := t, tried := 0, base := a, kept := G.kept.drop M.toNat, sent := G.sent - M, passed := G.passed + M, reach := max (G.reach - M) room, wait := if 0 < M then G.fw else G.wait, since := if 0 < M then none else G.since, pace := if 0 < M then min 512 (G.pace + G.most) else G.pace }) (t := t) ⟨?_, ?_⟩) ?_
      · simp_arith [Gv.fs, q3, oi_n]
      · simp_arith []
      · rintro v A2 ⟨rfl, h2, f2⟩
        simp only [q3, if_true, if_false] at h2
        simp_arith []
        exact ⟨_, .inr f1.le, h2, ((f1.then_set (.inl (by simp))).then_push.then_set (.inl (by simp))).trans f2⟩
theorem giver_ok {A : Hs} {f m w : Int} (hf : 0 ≤ f ∧ f < 4294967296) (hm : 1 ≤ m ∧ m ≤ 200) (hw : 1 ≤ w) : Rk (make "Giver" F_Giver___init__ [.int f, .int m, .int w] A) fun v A1 => v = .ref A.length ∧ IsG A1 A.length (A.length + 1) ⟨f, m, w, w, 0, 1, m, 0, 0, 0, none, false, [dS "o"]⟩ ∧ Fr [] A A1 := by
  refine Rk.make ?_
  unfold F_Giver___init__
  simp_arith [gnumber_ok]
  refine ⟨⟨?_, ?_⟩, ((Fr.push.then_set (.inr (Nat.le_refl _))).then_push).then_set (.inr (Nat.le_refl _))⟩
  · simp_arith [Gv.fs, oi_n]
  · simp_arith []
def isO (d : D) : Bool := !isOO d
def Gv.writeN (G : Gv) (n : Nat) : Int := min (n : Int) (512 - ((G.kept.filter isO).length : Int))
def Gv.write (G : Gv) (ds : List Int) : Gv := { G with kept := G.kept ++ (ds.map D.int).take (G.writeN ds.length).toNat }
theorem write_ok {A : Hs} {g k : Nat} {G : Gv} {ds : List Int} (h : IsG A g k G) (hf : G.fin = false) (hb : ∀ b ∈ ds, 0 ≤ b ∧ b ≤ 255) (hl : ds.length ≤ 1000) (hk : ∀ d ∈ G.kept, Itm d) (hn : (G.kept.filter isO).length ≤ 512) (hn2 : G.kept.length ≤ 1000) :
    Rk (F_Giver_write [.ref g, .tup (ds.map D.int)] A) fun v A1 => v = .int (G.writeN ds.length) ∧ IsG A1 g k (G.write ds) ∧ Fr [k] A A1 := by
  obtain ⟨A1, e1, f1⟩ := is_data_ok (A := A) hb hl
  have h1 := h.frame f1 (by simp) (by simp)
  have ho := h1.o
  have hlk := h1.l
  have hgl := lt_of_get ho
  have hkl := lt_of_get hlk
  have hne := h.ne
  have key : lcL (gN 3) (tOf (eOp oNe (eVar 3) (eC (dS "o")))) (eVar 3) (fun A' => A'[k]? = some (O.lst G.kept)) [some (.ref g), some (.tup (ds.map D.int)), none, none] G.kept [] A1 = .ok ((G.kept.filter isO).map id) A1 := by
    refine lc_go _ _ hlk (by omega) fun d hd => ?_
    simp_arith [(hk d hd).o]
    exact ⟨rfl, fun _ => rfl⟩
  rw [List.map_id] at key
  unfold F_Giver_write
  simp_arith [e1, ho, hlk, Gv.fs, hf, key]
  refine ⟨rfl, ⟨?_, ?_⟩, ((f1.mono (by simp)).then_push).then_set (.inl (by simp))⟩
  · simp_arith [ho]
    rfl
  · simp_arith []
    rfl

theorem answered_ok {A : Hs} {g k : Nat} {G : Gv} (h : IsG A g k G) : F_Giver_answered [.ref g] A = .ok (.int G.passed) A := by
  have ho := h.o
  unfold F_Giver_answered
  simp_arith [ho, Gv.fs]
def Gv.finish (G : Gv) : Gv := { G with fin := true, kept := if G.fin then G.kept else G.kept ++ [dS "e"] }
theorem finish_ok {A : Hs} {g k : Nat} {G : Gv} (h : IsG A g k G) (hz : G.kept.length ≤ 100000) : Rk (F_Giver_finish [.ref g] A) fun v A1 => v = .non ∧ IsG A1 g k G.finish ∧ Fr [g, k] A A1 := by
  have ho := h.o
  have hl := h.l
  have hgl := lt_of_get ho
  have hkl := lt_of_get hl
  have hne := h.ne
  unfold F_Giver_finish Gv.finish
  cases q : G.fin with
  | true =>
    simp_arith [ho, hl, Gv.fs, q]
    refine ⟨⟨?_, ?_⟩, by walk_at "fr!"⟩
    · simp_arith [Gv.fs]
    · simp_arith [hl]
  | false =>
    simp_arith [ho, hl, Gv.fs, q]
    refine ⟨⟨?_, ?_⟩, by walk_at "fr!"⟩
    · simp_arith [Gv.fs]
    · simp_arith []
theorem write_fin {A : Hs} {g k : Nat} {G : Gv} {ds : List Int} (h : IsG A g k G) (hf : G.fin = true) (hb : ∀ b ∈ ds, 0 ≤ b ∧ b ≤ 255) (hl : ds.length ≤ 1000) :
    Rk (F_Giver_write [.ref g, .tup (ds.map D.int)] A) fun v A1 => v = .int 0 ∧ IsG A1 g k G ∧ Fr [] A A1 := by
  obtain ⟨A1, e1, f1⟩ := is_data_ok (A := A) hb hl
  have h1 := h.frame f1 (by simp) (by simp)
  have ho := h1.o
  unfold F_Giver_write
  simp_arith [e1, ho, Gv.fs, hf]
  exact ⟨h1, f1⟩

structure KO (kept : List D) (over : Bool) : Prop where
  n : (kept.filter isO).length ≤ 512 + (if over then 1 else 0)
  o : (kept.filter isOO).length ≤ 1
theorem KO.len {kept : List D} {over : Bool} (h : KO kept over) : kept.length ≤ 514 := by
  have h1 := h.n
  have h2 := h.o
  have : kept.length = (kept.filter isO).length + (kept.filter isOO).length := by
    clear h h1 h2
    induction kept with
    | nil => rfl
    | cons d l ih =>
      rw [List.filter_cons, List.filter_cons, List.length_cons, ih]
      unfold isO
      cases isOO d <;> simp <;> omega
  cases over <;> simp at h1 <;> omega
theorem KO.drop {kept : List D} {over : Bool} {m : Nat} (h : KO kept over) : KO (kept.drop m) over :=
  ⟨Nat.le_trans ((List.drop_sublist m kept).filter _).length_le h.n, Nat.le_trans ((List.drop_sublist m kept).filter _).length_le h.o⟩
theorem KO.write {kept : List D} {ds : List Int} {n : Nat} (h : KO kept false) (hn : n + (kept.filter isO).length ≤ 512) : KO (kept ++ (ds.map D.int).take n) false := by
  have e1 : ∀ l : List D, (∀ d ∈ l, ∃ i, d = D.int i) → l.filter isOO = [] := fun l hl => List.filter_eq_nil_iff.mpr fun d hd => by obtain ⟨i, rfl⟩ := hl d hd; simp [isOO]
  have hl : ∀ d ∈ (ds.map D.int).take n, ∃ i, d = D.int i := fun d hd => by
    obtain ⟨i, _, rfl⟩ := List.mem_map.mp (List.mem_of_mem_take hd); exact ⟨i, rfl⟩
  refine ⟨?_, ?_⟩
  · rw [List.filter_append, List.length_append]
    have := List.length_filter_le isO ((ds.map D.int).take n)
    rw [List.length_take] at this
    simp only [Bool.false_eq_true, if_false]
    omega
  · rw [List.filter_append, e1 _ hl, List.append_nil]; exact h.o
theorem KO.finish {kept : List D} (h : KO kept false) : KO (kept ++ [dS "e"]) true := by
  have e1 : isOO (dS "e") = false := by simp [isOO, dS, fS_inj]
  have h1 := h.n
  refine ⟨?_, ?_⟩
  · rw [List.filter_append, List.length_append]
    have : ([dS "e"].filter isO).length ≤ 1 := List.length_filter_le _ _
    simp at h1 ⊢; omega
  · rw [List.filter_append, List.filter_cons, e1]; simpa using h.o
def prD (p : Int × List D) : D := .tup [.int p.1, .tup p.2]
def Gv.againP (G : Gv) (t : Int) : List (Int × List D) := if G.late t then [(G.base, G.kept.take (min G.most G.sent).toNat)] else []
def chkP (kept : List D) (base s e c : Int) (i : Nat) : Int × List D := ((base + (s + i * c)) % 4294967296, (kept.drop (s + i * c).toNat).take ((s + i * c + min c (e - (s + i * c))).toNat - (s + i * c).toNat))
def chkPs (kept : List D) (base s e c : Int) : List (Int × List D) := (List.range (cnt s e c)).map (chkP kept base s e c)
def Gv.dueP (G : Gv) (t : Int) : List (Int × List D) := (G.due1 t).againP t ++ chkPs (G.due2 t).kept (G.due2 t).base (G.due2 t).sent (G.due2 t).end_ (G.due2 t).most
theorem dueL_P {G : Gv} {t : Int} : G.dueL t = (G.dueP t).map prD := by
  unfold Gv.dueL Gv.dueP
  rw [List.map_append]
  congr 1
  · unfold Gv.againL Gv.againP; split <;> rfl
  · unfold chks chkPs; rw [List.map_map]; rfl
theorem cnt_le {s e c : Int} (hc : 0 < c) : (cnt s e c : Int) ≤ max 0 (e - s) := by
  unfold cnt
  by_cases h : s < e
  · rw [if_pos h]
    have h0 : 0 ≤ (e - s - 1) / c := Int.ediv_nonneg (by omega) (by omega)
    have h1 : (e - s - 1) / c ≤ e - s - 1 := Int.ediv_le_self _ (by omega)
    omega
  · rw [if_neg h]; omega
theorem dueP_ok {G : Gv} {t : Int} (hG : G.Ok) (hk : ∀ d ∈ G.kept, Itm d) (hl : G.kept.length ≤ 514) : (G.dueP t).length ≤ 600 ∧ ∀ p ∈ G.dueP t, 0 ≤ p.1 ∧ p.1 < 4294967296 ∧ (∀ d ∈ p.2, Itm d) ∧ p.2.length ≤ 200 := by
  have k2 : (G.due2 t).kept = G.kept := by unfold Gv.due2 Gv.again; split <;> rfl
  have hm := hG.most
  have h2 : (G.due2 t).Ok := hG.due1.again
  have hs := h2.sent
  have hm2 := h2.most
  unfold Gv.dueP
  refine ⟨?_, fun p hp => ?_⟩
  · rw [List.length_append]
    have a1 : ((G.due1 t).againP t).length ≤ 1 := by unfold Gv.againP; split <;> simp
    have a2 : (chkPs (G.due2 t).kept (G.due2 t).base (G.due2 t).sent (G.due2 t).end_ (G.due2 t).most).length ≤ 514 := by
      unfold chkPs
      rw [List.length_map, List.length_range]
      have := cnt_le (s := (G.due2 t).sent) (e := (G.due2 t).end_) hm2.1
      have he : (G.due2 t).end_ ≤ G.kept.length := by unfold Gv.end_; rw [k2]; omega
      omega
    omega
  · rcases List.mem_append.mp hp with hp | hp
    · unfold Gv.againP at hp
      split at hp
      · rw [List.mem_singleton] at hp
        subst hp
        refine ⟨hG.base.1, hG.base.2, fun d hd => hk d (List.mem_of_mem_take hd), ?_⟩
        have hmm : (G.due1 t).most = G.most := rfl
        simp only [List.length_take]
        omega
      · cases hp
    · unfold chkPs at hp
      obtain ⟨i, hi, rfl⟩ := List.mem_map.mp hp
      unfold chkP
      refine ⟨by simp only; omega, by simp only; omega, fun d hd => hk d ?_, ?_⟩
      · rw [← k2]; exact List.mem_of_mem_drop (List.mem_of_mem_take hd)
      · simp only [List.length_take, List.length_drop]
        have hx : 0 ≤ (i : Int) * (G.due2 t).most := Int.mul_nonneg (by omega) (by omega)
        generalize (i : Int) * (G.due2 t).most = X at *
        omega
theorem due_Ok {G : Gv} {t : Int} (h : G.Ok) : (G.dueG t).Ok := by
  have h2 : (G.due2 t).Ok := h.due1.again
  refine ⟨h2.base, h2.most, h2.fw, ?_⟩
  have := h2.sent
  show 0 ≤ max (G.due2 t).sent _
  omega
theorem due_kept {G : Gv} {t : Int} : (G.dueG t).kept = G.kept ∧ (G.dueG t).fin = G.fin ∧ (G.dueG t).now = t := by
  have e : ∀ G : Gv, (G.again t).kept = G.kept ∧ (G.again t).fin = G.fin ∧ (G.again t).now = G.now := fun G => by
    unfold Gv.again; split <;> exact ⟨rfl, rfl, rfl⟩
  obtain ⟨a, b, c⟩ := e (G.due1 t)
  exact ⟨a, b, c⟩
theorem heard_Ok {G : Gv} {a room t : Int} (h : G.Ok) (ha : 0 ≤ a ∧ a < 4294967296) : (G.heardG a room t).Ok := by
  unfold Gv.heardG
  simp only
  split
  · exact ⟨h.base, h.most, h.fw, h.sent⟩
  · exact ⟨ha, h.most, h.fw, by show 0 ≤ G.sent - _; omega⟩
theorem heard_kept {G : Gv} {a room t : Int} : (∃ n, (G.heardG a room t).kept = G.kept.drop n) ∧ (G.heardG a room t).fin = G.fin ∧ (G.heardG a room t).now = t := by
  unfold Gv.heardG
  simp only
  split
  · exact ⟨⟨0, rfl⟩, rfl, rfl⟩
  · exact ⟨⟨_, rfl⟩, rfl, rfl⟩
theorem dueP_all {P : D → Prop} {G : Gv} {t : Int} (hk : ∀ d ∈ G.kept, P d) : ∀ p ∈ G.dueP t, ∀ d ∈ p.2, P d := by
  have k2 : (G.due2 t).kept = G.kept := by unfold Gv.due2 Gv.again; split <;> rfl
  intro p hp d hd
  unfold Gv.dueP at hp
  rcases List.mem_append.mp hp with hp | hp
  · unfold Gv.againP at hp
    split at hp
    · rw [List.mem_singleton] at hp
      subst hp
      exact hk d (List.mem_of_mem_take hd)
    · cases hp
  · unfold chkPs at hp
    obtain ⟨i, hi, rfl⟩ := List.mem_map.mp hp
    exact hk d (by rw [← k2]; exact List.mem_of_mem_drop (List.mem_of_mem_take hd))

def kvI (L : List (Int × D)) : List (D × D) := L.map fun p => (D.int p.1, p.2)
theorem kget_kvI {L : List (Int × D)} {k : Int} : kget (kvI L) (.int k) = L.lookup k := by
  induction L with
  | nil => rfl
  | cons p L ih =>
    obtain ⟨a, d⟩ := p
    unfold kvI at ih ⊢
    rw [List.map_cons, z0z, z4k, look_cons_i, ih]
    by_cases h : a = k
    · subst h; simp
    · simp [h, Ne.symm h]
theorem khas_kvI {L : List (Int × D)} {k : Int} (h : L.lookup k = none) : khas (kvI L) (.int k) = false := by
  induction L with
  | nil => rfl
  | cons p L ih =>
    obtain ⟨a, d⟩ := p
    rw [look_cons_i] at h
    by_cases q : k = a
    · rw [if_pos q] at h; cases h
    · rw [if_neg q] at h
      have := ih h
      unfold khas kvI at this ⊢
      rw [List.map_cons, List.any_cons, this, z4k, decide_eq_false (fun e => q e.symm)]; rfl
theorem kput_kvI {L : List (Int × D)} {k : Int} {d : D} (h : L.lookup k = none) : kput (kvI L) (.int k) d = kvI (L ++ [(k, d)]) := by
  unfold kput; rw [khas_kvI h]; simp [kvI]
theorem kdel_kvI {L : List (Int × D)} {k : Int} : kdel (kvI L) (.int k) = kvI (L.filter fun p => decide (p.1 ≠ k)) := by
  induction L with
  | nil => rfl
  | cons p L ih =>
    obtain ⟨a, d⟩ := p
    unfold kdel kvI at ih ⊢
    rw [List.map_cons, List.filter_cons, List.filter_cons, ih, z4k]
    by_cases h : a = k
    · simp [h]
    · simp [h]
theorem len_kvI {L : List (Int × D)} : (kvI L).length = L.length := by simp [kvI]
theorem is_within_ok {p lo hi : Int} {A : Hs} : F_is_within [.int p, .int lo, .int hi] A = .ok (.bl (decide (lo ≤ p) && decide (p ≤ hi))) A := by
  unfold F_is_within
  by_cases h : lo ≤ p
  · simp_arith [h, Bool.true_and]
  · simp_arith [h, Bool.false_and]
structure Tv where
  wanted : Int
  room : Int
  ahead : List (Int × D)
  unread : List D
  over : Bool
def Tv.fs (T : Tv) (h : Nat) : List (String × D) := [("wanted", .int T.wanted), ("whole_room", .int T.room), ("ahead", .ref h), ("unread", .tup T.unread), ("over", .bl T.over)]
structure IsT (A : Hs) (t h : Nat) (T : Tv) : Prop where
  o : A[t]? = some (.obj "Taker" (T.fs h))
  l : A[h]? = some (.dic false false (kvI T.ahead))
theorem IsT.ne {A : Hs} {t h : Nat} {T : Tv} (k : IsT A t h T) : t ≠ h := fun e => by have := k.o; rw [e, k.l] at this; cases this
theorem IsT.frame {A A1 : Hs} {t h : Nat} {T : Tv} {s : List Nat} (k : IsT A t h T) (f : Fr s A A1) (hg : t ∉ s) (hk : h ∉ s) : IsT A1 t h T := ⟨f.get k.o hg, f.get k.l hk⟩
def Tv.come (T : Tv) (d : D) : Tv := if isE d then { T with wanted := (T.wanted + 1) % 4294967296, over := true, ahead := [] } else if isOO d then { T with wanted := (T.wanted + 1) % 4294967296 } else { T with wanted := (T.wanted + 1) % 4294967296, unread := T.unread ++ [d] }
theorem come_ok {A : Hs} {t h : Nat} {T : Tv} {d : D} (k : IsT A t h T) (hd : Itm d) (hw : 0 ≤ T.wanted ∧ T.wanted < 4294967296) (hu : T.unread.length ≤ 100000) : Rk (F_Taker_come_ready [.ref t, d] A) fun v A1 => v = .non ∧ ∃ h1, (h1 = h ∨ A.length ≤ h1) ∧ IsT A1 t h1 (T.come d) ∧ Fr [t] A A1 := by
  have ho := k.o
  have hl := k.l
  have htl := lt_of_get ho
  have hhl := lt_of_get hl
  have hne := k.ne
  unfold F_Taker_come_ready Tv.come
  cases q : isE d with
  | true =>
    simp_arith [ho, Tv.fs, moved_ok, hd.e, q]
    refine ⟨_, .inr (Nat.le_refl _), ⟨?_, ?_⟩, by walk_at "fr!"⟩
    · simp_arith [Tv.fs]
    · simp_arith [kvI]
  | false =>
    cases q2 : isOO d with
    | true =>
      simp_arith [ho, Tv.fs, moved_ok, hd.e, hd.o, q, q2]
      refine ⟨_, .inl rfl, ⟨?_, ?_⟩, by walk_at "fr!"⟩
      · simp_arith [Tv.fs]
      · simp_arith [hl]
    | false =>
      simp_arith [ho, Tv.fs, moved_ok, hd.e, hd.o, q, q2]
      refine ⟨_, .inl rfl, ⟨?_, ?_⟩, by walk_at "fr!"⟩
      · simp_arith [Tv.fs]
      · simp_arith [hl]
theorem taker_ok {A : Hs} {f r : Int} (hf : 0 ≤ f ∧ f ≤ 4294967295) (hr : 1 ≤ r ∧ r ≤ 128) : Rk (make "Taker" F_Taker___init__ [.int f, .int r] A) fun v A1 => v = .ref A.length ∧ IsT A1 A.length (A.length + 1) ⟨f, r, [], [], false⟩ ∧ Fr [] A A1 := by
  refine Rk.make ?_
  unfold F_Taker___init__
  simp_arith [is_within_ok, decide_eq_true hf.1, decide_eq_true hf.2, decide_eq_true hr.1, decide_eq_true hr.2]
  refine ⟨⟨?_, ?_⟩, by walk_at "fr!"⟩
  · simp_arith [Tv.fs]
  · simp_arith [kvI]
theorem wants_ok {A : Hs} {t h : Nat} {T : Tv} (k : IsT A t h T) : F_Taker_wants [.ref t] A = .ok (.tup [.int T.wanted, .int (T.room - T.unread.length)]) A := by
  have ho := k.o
  unfold F_Taker_wants F_Taker_free
  simp_arith [ho, Tv.fs]
theorem ready_ok {A : Hs} {t h : Nat} {T : Tv} (k : IsT A t h T) : F_Taker_ready [.ref t] A = .ok (.int T.unread.length) A := by
  have ho := k.o
  unfold F_Taker_ready
  simp_arith [ho, Tv.fs]
theorem ended_ok {A : Hs} {t h : Nat} {T : Tv} (k : IsT A t h T) : F_Taker_ended [.ref t] A = .ok (.bl T.over) A := by
  have ho := k.o
  unfold F_Taker_ended
  simp_arith [ho, Tv.fs]
theorem read_ok {A : Hs} {t h : Nat} {T : Tv} {n : Int} (k : IsT A t h T) (hn : 0 ≤ n) : Rk (F_Taker_read [.ref t, .int n] A) fun v A1 => v = .tup (T.unread.take n.toNat) ∧ IsT A1 t h { T with unread := T.unread.drop n.toNat } ∧ Fr [t] A A1 := by
  have ho := k.o
  have hl := k.l
  have htl := lt_of_get ho
  have hhl := lt_of_get hl
  have hne := k.ne
  unfold F_Taker_read
  simp_arith [ho, Tv.fs, is_within_ok, decide_eq_true hn, Int.le_refl]
  refine ⟨⟨?_, ?_⟩, by walk_at "fr!"⟩
  · simp_arith [Tv.fs]
  · simp_arith [hl]
def Tv.put1 (T : Tv) (w0 free number : Int) (s : Nat) (d : D) : Tv := if ((number + s) % 4294967296 - w0) % 4294967296 < free ∧ T.ahead.lookup ((number + s) % 4294967296) = none then { T with ahead := T.ahead ++ [((number + s) % 4294967296, d)] } else T
def Tv.puts (T : Tv) (w0 free number : Int) (ds : List D) : Nat → Tv
  | 0 => T
  | i + 1 => match ds[i]? with
    | some d => (T.puts w0 free number ds i).put1 w0 free number i d
    | none => T.puts w0 free number ds i
theorem puts_same {T : Tv} {w0 free number : Int} {ds : List D} : ∀ i, (T.puts w0 free number ds i).wanted = T.wanted ∧ (T.puts w0 free number ds i).room = T.room ∧ (T.puts w0 free number ds i).unread = T.unread ∧ (T.puts w0 free number ds i).over = T.over ∧ (T.puts w0 free number ds i).ahead.length ≤ T.ahead.length + i ∧ ∀ p ∈ (T.puts w0 free number ds i).ahead, p ∈ T.ahead ∨ p.2 ∈ ds
  | 0 => ⟨rfl, rfl, rfl, rfl, Nat.le_refl _, fun p h => .inl h⟩
  | i + 1 => by
    have ih := puts_same (T := T) (w0 := w0) (free := free) (number := number) (ds := ds) i
    unfold Tv.puts
    cases q : ds[i]? with
    | none => exact ⟨ih.1, ih.2.1, ih.2.2.1, ih.2.2.2.1, by have := ih.2.2.2.2.1; simp only; omega, ih.2.2.2.2.2⟩
    | some d =>
      simp only
      unfold Tv.put1
      split
      · refine ⟨ih.1, ih.2.1, ih.2.2.1, ih.2.2.2.1, by have := ih.2.2.2.2.1; simp; omega, fun p h => ?_⟩
        rcases List.mem_append.mp h with h | h
        · exact ih.2.2.2.2.2 p h
        · rw [List.mem_singleton] at h; subst h; exact .inr (List.mem_of_getElem? q)
      · exact ⟨ih.1, ih.2.1, ih.2.2.1, ih.2.2.2.1, by have := ih.2.2.2.2.1; omega, ih.2.2.2.2.2⟩
def Tv.drain : Nat → Tv → Tv
  | 0, T => T
  | n + 1, T => match T.ahead.lookup T.wanted with
    | none => T
    | some d => if T.over then T else drain n (Tv.come { T with ahead := T.ahead.filter fun p => decide (p.1 ≠ T.wanted) } d)
def Tv.take (T : Tv) (number : Int) (ds : List D) : Tv := if T.over then T else Tv.drain ((T.puts T.wanted (T.room - T.unread.length) number ds ds.length).ahead.length + 1) (T.puts T.wanted (T.room - T.unread.length) number ds ds.length)
structure Tv.Ok (T : Tv) : Prop where
  w : 0 ≤ T.wanted ∧ T.wanted < 4294967296
  i : ∀ p ∈ T.ahead, Itm p.2
  u : T.unread.length + T.ahead.length ≤ 50000
theorem look_mem {L : List (Int × D)} {k : Int} {d : D} (h : L.lookup k = some d) : (k, d) ∈ L := by
  induction L with
  | nil => cases h
  | cons p L ih =>
    obtain ⟨a, e⟩ := p
    rw [look_cons_i] at h
    by_cases q : k = a
    · rw [if_pos q] at h; cases h; rw [q]; exact List.mem_cons_self
    · rw [if_neg q] at h; exact List.mem_cons_of_mem _ (ih h)
theorem filter_lt {L : List (Int × D)} {k : Int} {d : D} (h : L.lookup k = some d) : (L.filter fun p => decide (p.1 ≠ k)).length < L.length := by
  have hm := look_mem h
  rcases Nat.lt_or_ge (L.filter fun p => decide (p.1 ≠ k)).length L.length with q | q
  · exact q
  · have e := List.filter_eq_self.mp (List.Sublist.eq_of_length_le List.filter_sublist q) _ hm
    simp at e
theorem Tv.Ok.come {T : Tv} {d : D} (h : T.Ok) (hu : T.unread.length + T.ahead.length + 1 ≤ 50000) : (T.come d).Ok := by
  unfold Tv.come
  have hw : 0 ≤ (T.wanted + 1) % 4294967296 ∧ (T.wanted + 1) % 4294967296 < 4294967296 := by omega
  have := h.u
  split
  · exact ⟨hw, fun p hp => by simp at hp, by simp; omega⟩
  · split
    · exact ⟨hw, h.i, h.u⟩
    · exact ⟨hw, h.i, by simp; omega⟩
theorem drain_same {n m : Nat} {T : Tv} (hn : T.ahead.length < n) (hm : T.ahead.length < m) : Tv.drain n T = Tv.drain m T := by
  induction n generalizing m T with
  | zero => omega
  | succ n ih =>
    cases m with
    | zero => omega
    | succ m =>
      unfold Tv.drain
      cases q : T.ahead.lookup T.wanted with
      | none => rfl
      | some d =>
        simp only
        split
        · rfl
        · have hl := filter_lt q
          have : (Tv.come { T with ahead := T.ahead.filter fun p => decide (p.1 ≠ T.wanted) } d).ahead.length ≤ (T.ahead.filter fun p => decide (p.1 ≠ T.wanted)).length := by
            unfold Tv.come; split
            · simp
            · split <;> exact Nat.le_refl _
          exact ih (by omega) (by omega)
theorem take_ok {A : Hs} {t h : Nat} {T : Tv} {number : Int} {ds : List D} (k : IsT A t h T) (hT : T.Ok) (hn : 0 ≤ number ∧ number < 4294967296) (hds : ∀ d ∈ ds, Itm d) (hr : 0 ≤ T.room) (hz : T.unread.length + T.ahead.length + ds.length + 1 ≤ 50000) :
    Rk (F_Taker_take [.ref t, .int number, .tup ds] A) fun v A1 => v = .non ∧ ∃ h1, (h1 = h ∨ A.length ≤ h1) ∧ IsT A1 t h1 (T.take number ds) ∧ Fr [t, h] A A1 := by
  have ho := k.o
  have hl := k.l
  unfold F_Taker_take Tv.take
  cases q : T.over with
  | true =>
    simp_arith [ho, Tv.fs, q]
    exact ⟨h, .inl rfl, k, .refl⟩
  | false =>
    simp_arith [ho, Tv.fs, q, wants_ok k]
    refine for_go (R := fun rs => Rk (finR (seqR rs _)) _) (fun i e B => ∃ (o5 o6 o7 : Option D), e = [some (.ref t), some (.int number), some (.tup ds), some (.int T.wanted), some (.int (T.room - T.unread.length)), o5, o6, o7] ∧ IsT B t h (T.puts T.wanted (T.room - T.unread.length) number ds i) ∧ Fr [t, h] A B) ⟨none, none, none, rfl, k, .refl⟩ (fun _ _ _ _ _ => trivial) ?_ ?_
    · rintro i _ B d hd ⟨o5, o6, o7, rfl, kB, fB⟩
      obtain ⟨x, hx, rfl⟩ := enumL_get hd
      have hoB := kB.o
      have hlB := kB.l
      have hhl := lt_of_get hlB
      have hne := kB.ne
      obtain ⟨p1, p2, p3, p4, p5, p6⟩ := puts_same (T := T) (w0 := T.wanted) (free := T.room - T.unread.length) (number := number) (ds := ds) i
      have hi := lt_of_get hx
      have hw := hT.w
      have hsz : (kvI (T.puts T.wanted (T.room - T.unread.length) number ds i).ahead).length < 16000000 := by rw [len_kvI]; omega
      have e : T.puts T.wanted (T.room - T.unread.length) number ds (i + 1) = (T.puts T.wanted (T.room - T.unread.length) number ds i).put1 T.wanted (T.room - T.unread.length) number i x := by
        rw [Tv.puts]; simp only [hx]
      have hpl : 0 ≤ (number + (i : Int)) % 4294967296 ∧ (number + (i : Int)) % 4294967296 < 4294967296 := by omega
      by_cases c1 : ((number + (i : Int)) % 4294967296 - T.wanted) % 4294967296 < T.room - T.unread.length
      · cases c2 : (T.puts T.wanted (T.room - T.unread.length) number ds i).ahead.lookup ((number + (i : Int)) % 4294967296) with
        | none =>
          simp_arith [hoB, hlB, Tv.fs, moved_ok, far_ok, c1, kget_kvI, c2]
          refine ⟨_, _, _, rfl, ?_, ?_⟩
          · rw [e]; unfold Tv.put1; rw [if_pos ⟨c1, c2⟩]
            refine ⟨?_, ?_⟩
            · simp_arith [hoB]
              rfl
            · simp_arith [kput_kvI c2]
          · walk_at "fr!"
        | some d2 =>
          simp_arith [hoB, hlB, Tv.fs, moved_ok, far_ok, c1, kget_kvI, c2]
          refine ⟨_, _, _, rfl, ?_, fB⟩
          rw [e]; unfold Tv.put1; rw [if_neg (by rw [c2]; simp)]; exact kB
      · simp_arith [hoB, hlB, Tv.fs, moved_ok, far_ok, c1]
        refine ⟨_, _, _, rfl, ?_, fB⟩
        rw [e]; unfold Tv.put1; rw [if_neg (fun z => c1 z.1)]; exact kB
    · rintro _ B ⟨o5, o6, o7, rfl, kB, fB⟩
      rw [enumL_len] at kB
      simp_arith []
      obtain ⟨p1, p2, p3, p4, p5, p6⟩ := puts_same (T := T) (w0 := T.wanted) (free := T.room - T.unread.length) (number := number) (ds := ds) ds.length
      have hok : (T.puts T.wanted (T.room - T.unread.length) number ds ds.length).Ok := ⟨by rw [p1]; exact hT.w, fun p hp => (p6 p hp).elim (hT.i p) (hds p.2), by rw [p3]; omega⟩
      generalize T.puts T.wanted (T.room - T.unread.length) number ds ds.length = T0 at *
      refine wh_go (R := fun rs => Rk (finR rs) _) (fun n e B => e = [some (.ref t), some (.int number), some (.tup ds), some (.int T.wanted), some (.int (T.room - T.unread.length)), o5, o6, o7] ∧ ∃ h1 T1, (h1 = h ∨ A.length ≤ h1) ∧ T1.ahead.length = n ∧ T1.Ok ∧ Tv.drain (T0.ahead.length + 1) T0 = Tv.drain (n + 1) T1 ∧ IsT B t h1 T1 ∧ Fr [t, h] A B) (n := T0.ahead.length) ⟨rfl, h, T0, .inl rfl, rfl, hok, rfl, kB, fB⟩ ?_
      rintro n _ B ⟨rfl, h1, T1, hh1, hn1, ok1, hd1, k1, f1⟩
      have hoB := k1.o
      have hlB := k1.l
      have hhl := lt_of_get hlB
      have hne := k1.ne
      rw [hd1]
      cases c : T1.ahead.lookup T1.wanted with
      | none =>
        rw [show Tv.drain (n + 1) T1 = T1 by unfold Tv.drain; rw [c]]
        simp_arith [hoB, hlB, Tv.fs, kget_kvI, c]
        exact ⟨h1, hh1, k1, f1⟩
      | some d =>
        cases c2 : T1.over with
        | true =>
          rw [show Tv.drain (n + 1) T1 = T1 by unfold Tv.drain; rw [c]; simp [c2]]
          simp_arith [hoB, hlB, Tv.fs, kget_kvI, c, c2]
          exact ⟨h1, hh1, k1, f1⟩
        | false =>
          have hst : Tv.drain (n + 1) T1 = Tv.drain n (Tv.come { T1 with ahead := T1.ahead.filter fun p => decide (p.1 ≠ T1.wanted) } d) := by rw [Tv.drain]; rw [c]; simp [c2]
          rw [hst]
          have hm := look_mem c
          have hf := filter_lt c
          have k2 : IsT (B.set h1 (.dic false false (kdel (kvI T1.ahead) (.int T1.wanted)))) t h1 { T1 with ahead := T1.ahead.filter fun p => decide (p.1 ≠ T1.wanted) } := ⟨by simp_arith [hoB]; rfl, by simp_arith [kdel_kvI]⟩
          obtain ⟨_, B2, b2, rfl, h2, hh2, k3, f2⟩ := (come_ok (d := d) k2 (show Itm d from ok1.i _ hm) ok1.w (by have := ok1.u; show T1.unread.length ≤ _; omega)).ex
          have hce : (Tv.come { T1 with ahead := T1.ahead.filter fun p => decide (p.1 ≠ T1.wanted) } d).ahead.length ≤ (T1.ahead.filter fun p => decide (p.1 ≠ T1.wanted)).length := by
            unfold Tv.come; split
            · simp
            · split <;> exact Nat.le_refl _
          have hok2 : (Tv.come { T1 with ahead := T1.ahead.filter fun p => decide (p.1 ≠ T1.wanted) } d).Ok := by
            refine Tv.Ok.come ⟨ok1.w, fun p hp => ok1.i p (List.mem_filter.mp hp).1, ?_⟩ ?_
            · have := ok1.u; show T1.unread.length + (T1.ahead.filter fun p => decide (p.1 ≠ T1.wanted)).length ≤ _; omega
            · have := ok1.u; show T1.unread.length + (T1.ahead.filter fun p => decide (p.1 ≠ T1.wanted)).length + 1 ≤ _; omega
          generalize (T1.ahead.filter fun p => decide (p.1 ≠ T1.wanted)).length = m at *
          generalize Tv.come { T1 with ahead := T1.ahead.filter fun p => decide (p.1 ≠ T1.wanted) } d = X at *
          simp_arith [hoB, hlB, Tv.fs, kget_kvI, c, c2, b2]
          refine ⟨_, ?_, h2, X, ?_, rfl, hok2, ?_, k3, ?_⟩
          · omega
          · rcases hh2 with rfl | hh2
            · exact hh1
            · refine .inr ?_
              have := f1.le; simp at hh2; omega
          · refine drain_same ?_ ?_ <;> omega
          · refine (Fr.then_set f1 ?_).trans' f2 ?_
            · rcases hh1 with rfl | hh1
              · exact .inl (by simp)
              · exact .inr hh1
            · intro j hj
              exact .inl (by simp at hj; simp [hj])

theorem tdrain_ok : ∀ {n : Nat} {T : Tv}, T.Ok → T.unread.length + T.ahead.length + 1 ≤ 50000 → (T.drain n).Ok ∧ (T.drain n).unread.length + (T.drain n).ahead.length ≤ T.unread.length + T.ahead.length
  | 0, T, h, _ => ⟨h, Nat.le_refl _⟩
  | n + 1, T, h, hz => by
    unfold Tv.drain
    cases q : T.ahead.lookup T.wanted with
    | none => exact ⟨h, Nat.le_refl _⟩
    | some d =>
      simp only
      split
      · exact ⟨h, Nat.le_refl _⟩
      · have hf := filter_lt q
        have hok : Tv.Ok { T with ahead := T.ahead.filter fun p => decide (p.1 ≠ T.wanted) } := ⟨h.w, fun p hp => h.i p (List.mem_filter.mp hp).1, by have := h.u; show T.unread.length + (T.ahead.filter fun p => decide (p.1 ≠ T.wanted)).length ≤ _; omega⟩
        have h2 : (Tv.come { T with ahead := T.ahead.filter fun p => decide (p.1 ≠ T.wanted) } d).unread.length + (Tv.come { T with ahead := T.ahead.filter fun p => decide (p.1 ≠ T.wanted) } d).ahead.length ≤ T.unread.length + T.ahead.length := by
          unfold Tv.come; split
          · simp
          · split
            · simp only; omega
            · simp only [List.length_append, List.length_singleton]; omega
        obtain ⟨a, b⟩ := tdrain_ok (n := n) (hok.come (d := d) (by show T.unread.length + (T.ahead.filter fun p => decide (p.1 ≠ T.wanted)).length + 1 ≤ _; omega)) (by omega)
        exact ⟨a, by omega⟩
theorem ttake_ok {T : Tv} {number : Int} {ds : List D} (h : T.Ok) (hds : ∀ d ∈ ds, Itm d) (hz : T.unread.length + T.ahead.length + ds.length + 1 ≤ 50000) : (T.take number ds).Ok ∧ (T.take number ds).unread.length + (T.take number ds).ahead.length ≤ T.unread.length + T.ahead.length + ds.length := by
  unfold Tv.take
  split
  · exact ⟨h, Nat.le_add_right _ _⟩
  · obtain ⟨p1, p2, p3, p4, p5, p6⟩ := puts_same (T := T) (w0 := T.wanted) (free := T.room - T.unread.length) (number := number) (ds := ds) ds.length
    obtain ⟨a, b⟩ := tdrain_ok (n := (T.puts T.wanted (T.room - T.unread.length) number ds ds.length).ahead.length + 1) (T := T.puts T.wanted (T.room - T.unread.length) number ds ds.length) ⟨by rw [p1]; exact h.w, fun p hp => (p6 p hp).elim (h.i p) (hds p.2), by rw [p3]; omega⟩ (by rw [p3]; omega)
    rw [p3] at b
    exact ⟨a, by omega⟩

/-! texts of one-sign letters -/
theorem st1_dS {o : Str → D → Hs → RE D} {s : String} {b : E} {env : Sl} {A : Hs} : eSt1 o (eC (dS s)) b env A = (b env A).bind fun y A2 => o (fS s) y A2 := rfl
theorem wkA_dS {s : String} {A : Hs} : wkA A (dS s) = some ⟨signsOf (fS s), tt⟩ := rfl
theorem oIn_str {c : Nat} {z : Str} {A : Hs} : oIn (.str ⟨#[c]⟩) (.str z) A = .ok (.bl (decide (c ∈ z.cps.toList))) A := rfl
theorem oIn_dS {s : String} {c : Nat} {z : Str} {A : Hs} (h : fS s = ⟨#[c]⟩) : oIn (dS s) (.str z) A = .ok (.bl (decide (c ∈ z.cps.toList))) A := by
  unfold dS; rw [h]; rfl
def sg (c : Nat) : D := .str ⟨#[c]⟩
theorem strs_sg : ∀ cs : List Nat, strsOf (cs.map sg) = some (cs.map fun c => (⟨#[c]⟩ : Str))
  | [] => rfl
  | c :: cs => by rw [List.map_cons]; show (strsOf (cs.map sg)).map _ = _; rw [strs_sg cs]; rfl
theorem join_sg : ∀ cs : List Nat, Txt.join (fS "") (cs.map fun c => (⟨#[c]⟩ : Str)) = ⟨cs.toArray⟩ := by
  intro cs
  cases cs with
  | nil => rfl
  | cons c cs =>
    have key : ∀ (cs : List Nat) (acc : Array Nat), (cs.map fun c => (⟨#[c]⟩ : Str)).foldl (fun acc p => acc ++ (fS "").cps ++ p.cps) acc = acc ++ cs.toArray := by
      intro cs
      induction cs with
      | nil => intro acc; simp
      | cons c cs ih =>
        intro acc
        rw [List.map_cons, List.foldl_cons, ih]
        have : (fS "").cps = #[] := rfl
        rw [this]
        simp
    have h2 := key cs #[c]
    show (⟨_⟩ : Str) = _
    have h3 : (((c :: cs).map fun c => (⟨#[c]⟩ : Str)).drop 1).foldl (fun acc p => acc ++ (fS "").cps ++ p.cps) ((((c :: cs).map fun c => (⟨#[c]⟩ : Str)).headD Str.empty).cps) = (c :: cs).toArray := by
      rw [List.map_cons, List.drop_succ_cons, List.drop_zero]
      show (cs.map fun c => (⟨#[c]⟩ : Str)).foldl (fun acc p => acc ++ (fS "").cps ++ p.cps) #[c] = _
      rw [h2]; simp
    exact congrArg Str.mk h3
theorem oJoin_sg {A : Hs} {i : Nat} {cs : List Nat} (h : A[i]? = some (.lst (cs.map sg))) (hl : cs.length ≤ 1000) : oJoin (fS "") (.ref i) A = .ok (.str ⟨cs.toArray⟩) A := by
  unfold oJoin seqA
  rw [seqL_ref h]
  simp only [Option.bind_some, strs_sg]
  rw [join_sg, if_pos]
  have : ((cs.map fun c => (⟨#[c]⟩ : Str)).map (·.length)).sum = cs.length := by
    clear h hl
    induction cs with
    | nil => rfl
    | cons c cs ih => rw [List.map_cons, List.map_cons, List.sum_cons, ih, List.length_cons]; show 1 + _ = _; omega
  have hz : (fS "").length = 0 := rfl
  rw [this, hz]; omega

/-! numbers and segments -/
theorem from_nought_ok {p q : Int} {A : Hs} : F_is_from_nought [.int p, .int q] A = .ok (.bl (decide (0 ≤ p) && decide (p ≤ q))) A := by
  unfold F_is_from_nought
  by_cases h : 0 ≤ p
  · simp_arith [h, Bool.true_and]
  · simp_arith [h, Bool.false_and]
def LET : List Nat := [97, 99, 101, 111, 113]
/-- the letters of marks in their order -/
def mkOf (z : Str) : Str := ⟨(LET.filter fun c => decide (c ∈ z.cps.toList)).toArray⟩
theorem signs_LET : signsOf (fS "aceoq") = LET.map sg := rfl
def cOf : D → Nat
  | .str s => s.cps.toList.headD 0
  | _ => 0
theorem cOf_sg {c : Nat} : cOf (sg c) = c := rfl
theorem are_marks_ok {z : Str} {A : Hs} : ∃ A1, F_are_marks [.str z] A = .ok (.bl (decide (z = mkOf z))) A1 ∧ Fr [] A A1 := by
  have hl : (LET.filter fun c => decide (c ∈ z.cps.toList)).length ≤ 1000 := Nat.le_trans (List.length_filter_le _ _) (by decide)
  refine ⟨_, ?_, .push (u := .lst ((LET.filter fun c => decide (c ∈ z.cps.toList)).map sg))⟩
  unfold F_are_marks
  simp_arith [st1_dS, wkA_dS, signs_LET]
  rw [lc_go (fun d => decide (cOf d ∈ z.cps.toList)) id trivial (by rw [List.length_map]; decide)]
  rotate_left
  · intro d hd
    obtain ⟨c, hc, rfl⟩ := List.mem_map.mp hd
    show Got _ _
    unfold sg
    simp_arith [oIn_str]
    exact ⟨rfl, fun _ => rfl⟩
  rw [List.map_id, List.filter_map]
  have e : (LET.filter ((fun d => decide (cOf d ∈ z.cps.toList)) ∘ sg)) = LET.filter fun c => decide (c ∈ z.cps.toList) := rfl
  rw [e]
  simp_arith [oJoin_sg z9e hl]
  rfl
structure Sg where
  source : Int
  target : Int
  marks : Str
  number : Int
  answer : Int
  room : Int
  data : List D
def Sg.fs (S : Sg) : List (String × D) := [("source", .int S.source), ("target", .int S.target), ("marks", .str S.marks), ("number", .int S.number), ("answer", .int S.answer), ("room", .int S.room), ("data", .tup S.data)]
def Sg.tl (S : Sg) : D := .tup [.int S.source, .int S.target, .str S.marks, .int S.number, .int S.answer, .int S.room, .tup S.data]
def IsS (A : Hs) (i : Nat) (S : Sg) : Prop := A[i]? = some (.obj "Segment" S.fs)
structure Sg.Ok (S : Sg) : Prop where
  s : 0 ≤ S.source ∧ S.source ≤ 255
  t : 0 ≤ S.target ∧ S.target ≤ 255
  m : S.marks = mkOf S.marks
  n : 0 ≤ S.number ∧ S.number ≤ 4294967295
  a : 0 ≤ S.answer ∧ S.answer ≤ 4294967295
  r : 0 ≤ S.room ∧ S.room ≤ 128
  d : ∃ ds : List Int, S.data = ds.map D.int ∧ ∀ b ∈ ds, 0 ≤ b ∧ b ≤ 255
  l : S.data.length ≤ 200
theorem seg_ok {A : Hs} {S : Sg} (h : S.Ok) : Rk (make "Segment" F_Segment___init__ [.int S.source, .int S.target, .str S.marks, .int S.number, .int S.answer, .int S.room, .tup S.data] A) fun v A1 => v = .ref A.length ∧ IsS A1 A.length S ∧ Fr [] A A1 := by
  refine Rk.make ?_
  obtain ⟨ds, hds, hb⟩ := h.d
  have hl := h.l
  obtain ⟨A1, e1, f1⟩ := are_marks_ok (z := S.marks) (A := A ++ [.obj "Segment" []])
  rw [decide_eq_true h.m] at e1
  obtain ⟨A2, e2, f2⟩ := is_data_ok (ds := ds) (A := A1) hb (by rw [hds, List.length_map] at hl; omega)
  rw [← hds] at e2
  have o2 : A2[A.length]? = some (.obj "Segment" []) := f2.get (f1.get z9e (by simp)) (by simp)
  have n2 := lt_of_get o2
  have F2 : Fr [] A A2 := (Fr.push.trans f1).trans f2
  have hlI : (S.data.length : Int) ≤ 200 := by omega
  unfold F_Segment___init__
  simp_arith [from_nought_ok, e1, e2, decide_eq_true h.s.1, decide_eq_true h.s.2, decide_eq_true h.t.1, decide_eq_true h.t.2, decide_eq_true h.n.1, decide_eq_true h.n.2, decide_eq_true h.a.1, decide_eq_true h.a.2, decide_eq_true h.r.1, decide_eq_true h.r.2, o2]
  refine ⟨?_, by walk_at "fr!"⟩
  unfold IsS Sg.fs
  simp_arith []
/-! a talk -/
structure Kv where
  here : Int
  there : Int
  first : Int
  last : Int
  ending : String
  fin : Bool
  rested : Option Int
  other : Option Int
  G : Gv
  T : Option Tv
def tkD : Option (Nat × Nat) → D
  | none => .non
  | some u => .ref u.1
def Kv.fs (K : Kv) (g : Nat) (u : Option (Nat × Nat)) : List (String × D) := [("here", .int K.here), ("there", .int K.there), ("begun_with", .int K.first), ("giver", .ref g), ("taker", tkD u), ("other_first", oi K.other), ("last_tick", .int K.last), ("ending", dS K.ending), ("finished", .bl K.fin), ("rested", oi K.rested)]
def IsU (A : Hs) : Option (Nat × Nat) → Option Tv → Prop
  | none, none => True
  | some u, some T => IsT A u.1 u.2 T
  | _, _ => False
structure IsK (A : Hs) (t g k : Nat) (u : Option (Nat × Nat)) (K : Kv) : Prop where
  o : A[t]? = some (.obj "Talk" (K.fs g u))
  ig : IsG A g k K.G
  iu : IsU A u K.T
def fpU : Option (Nat × Nat) → List Nat
  | none => []
  | some u => [u.1, u.2]
/-- the places of a talk -/
def fpK (t g k : Nat) (u : Option (Nat × Nat)) : List Nat := t :: g :: k :: fpU u
theorem ne_kind {A : Hs} {i j : Nat} {u v : O} (h1 : A[i]? = some u) (h2 : A[j]? = some v) (h : u ≠ v) : i ≠ j := fun e => h (by rw [e, h2] at h1; exact (Option.some.inj h1).symm)
theorem IsU.frame {A A1 : Hs} {u : Option (Nat × Nat)} {T : Option Tv} {s : List Nat} (h : IsU A u T) (f : Fr s A A1) (d : ∀ j ∈ fpU u, j ∉ s) : IsU A1 u T := by
  cases u with
  | none => cases T with
    | none => trivial
    | some _ => exact h.elim
  | some u => cases T with
    | none => exact h.elim
    | some T => exact IsT.frame h f (d _ (by simp [fpU])) (d _ (by simp [fpU]))
theorem IsK.frame {A A1 : Hs} {t g k : Nat} {u : Option (Nat × Nat)} {K : Kv} {s : List Nat} (h : IsK A t g k u K) (f : Fr s A A1) (d : ∀ j ∈ fpK t g k u, j ∉ s) : IsK A1 t g k u K :=
  ⟨f.get h.o (d _ (by simp [fpK])), h.ig.frame f (d _ (by simp [fpK])) (d _ (by simp [fpK])), h.iu.frame f fun j hj => d j (by simp [fpK, hj])⟩
theorem IsK.up0 {A A1 : Hs} {t g k : Nat} {u : Option (Nat × Nat)} {K : Kv} (h : IsK A t g k u K) (f : Fr [] A A1) : IsK A1 t g k u K := h.frame f (by simp)
/-- what is told of the takers' places, by the object alone -/
theorem IsU.off {A : Hs} {u : Option (Nat × Nat)} {T : Option Tv} {i : Nat} {C : String} {fs : List (String × D)} (h : IsU A u T) (hi : A[i]? = some (.obj C fs)) (hC : C ≠ "Taker") : ∀ j ∈ fpU u, j ≠ i := by
  cases u with
  | none => simp [fpU]
  | some u => cases T with
    | none => exact h.elim
    | some T =>
      intro j hj
      simp only [fpU, List.mem_cons, List.not_mem_nil, or_false] at hj
      rcases hj with rfl | rfl
      · exact ne_kind (IsT.o h) hi (by simp; exact fun e => absurd e (Ne.symm hC))
      · exact ne_kind (IsT.l h) hi (by simp)
theorem IsU.offl {A : Hs} {u : Option (Nat × Nat)} {T : Option Tv} {i : Nat} {l : List D} (h : IsU A u T) (hi : A[i]? = some (.lst l)) : ∀ j ∈ fpU u, j ≠ i := by
  cases u with
  | none => simp [fpU]
  | some u => cases T with
    | none => exact h.elim
    | some T =>
      intro j hj
      simp only [fpU, List.mem_cons, List.not_mem_nil, or_false] at hj
      rcases hj with rfl | rfl
      · exact ne_kind (IsT.o h) hi (by simp)
      · exact ne_kind (IsT.l h) hi (by simp)
section
variable {A A1 : Hs} {t g k : Nat} {u : Option (Nat × Nat)} {K K1 : Kv}
/-- the talk's own fields -/
theorem IsK.setO (h : IsK A t g k u K) (e1 : K1.G = K.G) (e2 : K1.T = K.T) : IsK (A.set t (.obj "Talk" (K1.fs g u))) t g k u K1 := by
  have a := ne_kind h.ig.o h.o (by simp)
  have b := ne_kind h.ig.l h.o (by simp)
  have c := h.iu.off h.o (by decide)
  have f : Fr [t] A (A.set t (.obj "Talk" (K1.fs g u))) := .set (by simp)
  refine ⟨get_set h.o, ?_, ?_⟩
  · rw [e1]; exact h.ig.frame f (by simp [a]) (by simp [b])
  · rw [e2]; exact h.iu.frame f fun j hj => by simpa using c j hj
/-- the giver has gone on -/
theorem IsK.upG {G1 : Gv} {k1 : Nat} (h : IsK A t g k u K) (F : Fr [g, k] A A1) (hg : IsG A1 g k1 G1) : IsK A1 t g k1 u { K with G := G1 } := by
  have a1 := ne_kind h.o h.ig.o (by simp)
  have a2 := ne_kind h.o h.ig.l (by simp)
  have c1 := h.iu.off h.ig.o (by decide)
  have c2 := h.iu.offl h.ig.l
  exact ⟨F.get h.o (by simp [a1, a2]), hg, h.iu.frame F fun j hj => by simp [c1 j hj, c2 j hj]⟩
/-- the taker has gone on -/
theorem IsK.upT {T1 : Tv} {v : Nat × Nat} {b1 : Nat} {T0 : Tv} (h : IsK A t g k (some v) K) (e : K.T = some T0) (F : Fr [v.1, v.2] A A1) (ht : IsT A1 v.1 b1 T1) : IsK A1 t g k (some (v.1, b1)) { K with T := some T1 } := by
  have hT : IsT A v.1 v.2 T0 := by have := h.iu; rw [e] at this; exact this
  have a1 := ne_kind h.o hT.o (by simp)
  have a2 := ne_kind h.o hT.l (by simp)
  have b1' := ne_kind h.ig.o hT.o (by simp)
  have b2 := ne_kind h.ig.o hT.l (by simp)
  have c1 := ne_kind h.ig.l hT.o (by simp)
  have c2 := ne_kind h.ig.l hT.l (by simp)
  exact ⟨F.get h.o (by simp [a1, a2]), h.ig.frame F (by simp [b1', b2]) (by simp [c1, c2]), ht⟩
end
def Kv.op (K : Kv) : Bool := decide (0 < K.G.passed)
def Kv.stand (K : Kv) : String := if K.ending ≠ "" then K.ending else if 0 < K.G.passed then (match K.rested with
    | some r => if K.last - r < 120 then "rests" else "closed"
    | none => match K.T with
      | some T => if T.over then "left" else if K.fin then "ends" else "open"
      | none => "")
  else if K.T.isNone then "calls" else "answers"
def Kv.over (K : Kv) : Bool := decide (K.stand = "cut" ∨ K.stand = "gone" ∨ K.stand = "closed")
section
variable {A : Hs} {t g k : Nat} {u : Option (Nat × Nat)} {K : Kv}
theorem is_open_ok (h : IsK A t g k u K) : F_Talk_is_open [.ref t] A = .ok (.bl K.op) A := by
  have o := h.o
  have og := h.ig.o
  unfold F_Talk_is_open
  simp_arith [o, Kv.fs, og, Gv.fs, answered_ok h.ig]
  rfl
theorem stand_ok (h : IsK A t g k u K) (hT : 0 < K.G.passed → K.T ≠ none) : F_Talk_stand [.ref t] A = .ok (dS K.stand) A := by
  have o := h.o
  have hu := h.iu
  have hop := is_open_ok h
  unfold F_Talk_stand Kv.stand
  unfold Kv.op at hop
  by_cases q1 : K.ending = ""
  · by_cases q2 : 0 < K.G.passed
    · cases hr : K.rested with
      | some r =>
        by_cases q3 : K.last - r < 120
        · simp_arith [o, Kv.fs, q1, hop, q2, hr, oi_s, q3]
        · simp_arith [o, Kv.fs, q1, hop, q2, hr, oi_s, q3]
      | none =>
        cases hK : K.T with
        | none => exact absurd hK (hT q2)
        | some T =>
          cases u with
          | none => rw [hK] at hu; exact hu.elim
          | some u =>
            rw [hK] at hu
            have ot := IsT.o hu
            have e := ended_ok hu
            cases q4 : T.over with
            | true => simp_arith [o, Kv.fs, q1, hop, q2, hr, oi_n, tkD, ot, Tv.fs, e, q4]
            | false =>
              cases q5 : K.fin with
              | true => simp_arith [o, Kv.fs, q1, hop, q2, hr, oi_n, tkD, ot, Tv.fs, e, q4, q5]
              | false => simp_arith [o, Kv.fs, q1, hop, q2, hr, oi_n, tkD, ot, Tv.fs, e, q4, q5]
    · cases hK : K.T with
      | none =>
        cases u with
        | some u => rw [hK] at hu; exact hu.elim
        | none => simp_arith [o, Kv.fs, q1, hop, q2, tkD]
      | some T =>
        cases u with
        | none => rw [hK] at hu; exact hu.elim
        | some u => simp_arith [o, Kv.fs, q1, hop, q2, tkD]
  · simp_arith [o, Kv.fs, q1]
theorem in3 {s : String} : inl_ A (dS s) [dS "cut", dS "gone", dS "closed"] false = .ok (.bl (decide (s = "cut" ∨ s = "gone" ∨ s = "closed"))) A := by
  have e : ∀ x : String, (fS x == fS s) = decide (s = x) := fun x => by
    by_cases h : s = x
    · subst h; simp
    · rw [decide_eq_false h, beq_eq_false_iff_ne]; exact fun z => h (fS_inj.mp z).symm
  unfold inl_
  simp only [dS, pyA, allSome, List.map_cons, List.map_nil, Option.map, List.any_cons, List.any_nil, PyData.eqv, e]
  by_cases h1 : s = "cut" <;> by_cases h2 : s = "gone" <;> by_cases h3 : s = "closed" <;> simp [h1, h2, h3]
theorem is_over_ok (h : IsK A t g k u K) (hT : 0 < K.G.passed → K.T ≠ none) : F_Talk_is_over [.ref t] A = .ok (.bl K.over) A := by
  have o := h.o
  have hs := stand_ok h hT
  unfold F_Talk_is_over Kv.over
  simp_arith [o, Kv.fs, hs, in3]
theorem pass_ok {tick : Int} (h : IsK A t g k u K) (ht : K.last ≤ tick) : ∃ A1, F_Talk_pass_to [.ref t, .int tick] A = .ok .non A1 ∧ IsK A1 t g k u { K with last := tick } ∧ Fr [t] A A1 := by
  have o := h.o
  have e : F_need_tick [.int tick, .int K.last] A = .ok .non A := by
    unfold F_need_tick
    simp_arith []
  refine ⟨_, ?_, h.setO (K1 := { K with last := tick }) rfl rfl, .set (by simp)⟩
  unfold F_Talk_pass_to
  simp_arith [o, Kv.fs, e]
end

/-! what a talk makes -/
structure Tv.Win (T : Tv) : Prop where
  a : ∀ p ∈ T.ahead, (0 ≤ p.1 ∧ p.1 < 4294967296) ∧ (p.1 - T.wanted) % 4294967296 < T.room - T.unread.length
  r : T.room = 128
  u : T.unread.length ≤ 128
  nd : T.ahead.Pairwise fun p q => p.1 ≠ q.1
theorem look_ne {L : List (Int × D)} {p : Int × D} (h : L.lookup p.1 = none) : ¬ p ∈ L := by
  induction L with
  | nil => simp
  | cons q L ih =>
    obtain ⟨a, d⟩ := q
    rw [look_cons_i] at h
    intro hp
    by_cases c : p.1 = a
    · rw [if_pos c] at h; cases h
    · rw [if_neg c] at h
      rcases List.mem_cons.mp hp with rfl | hp
      · exact c rfl
      · exact ih h hp
/-- unlike numbers below n are at most n -/
theorem pigeon : ∀ (n : Nat) (l : List Int), l.Nodup → (∀ x ∈ l, 0 ≤ x ∧ x < n) → l.length ≤ n
  | 0, l, _, h => by
    cases l with
    | nil => exact Nat.le_refl 0
    | cons x l => have := h x List.mem_cons_self; omega
  | n + 1, l, nd, h => by
    by_cases c : (n : Int) ∈ l
    · have h1 := pigeon n (l.erase n) (nd.erase _) fun x hx => by
        have hm := (nd.mem_erase_iff).mp hx
        have := h x hm.2
        have := hm.1
        omega
      rw [List.length_erase_of_mem c] at h1
      omega
    · have := pigeon n l nd fun x hx => by
        have := h x hx
        have : x ≠ n := fun e => c (e ▸ hx)
        omega
      omega
theorem Tv.Win.len {T : Tv} (h : T.Win) : T.ahead.length ≤ 128 := by
  have h1 : (T.ahead.map fun p => (p.1 - T.wanted) % 4294967296).Nodup := by
    rw [List.Nodup, List.pairwise_map]
    refine List.Pairwise.imp_of_mem (fun {p q} hp hq hne => ?_) h.nd
    have := (h.a p hp).1
    have := (h.a q hq).1
    omega
  have h2 := pigeon 128 _ h1 fun x hx => by
    obtain ⟨p, hp, rfl⟩ := List.mem_map.mp hx
    have := (h.a p hp).2
    have := h.r
    omega
  rwa [List.length_map] at h2
theorem come_win {T : Tv} {d : D} (h : T.Win) (hw : 0 ≤ T.wanted ∧ T.wanted < 4294967296) (hl : T.ahead.lookup T.wanted = some d) : (Tv.come { T with ahead := T.ahead.filter fun p => decide (p.1 ≠ T.wanted) } d).Win := by
  have h0 := h.a _ (look_mem hl)
  have hr := h.r
  have hu := h.u
  simp only at h0
  have hf : ∀ p ∈ T.ahead.filter fun p => decide (p.1 ≠ T.wanted), (0 ≤ p.1 ∧ p.1 < 4294967296) ∧ (p.1 - (T.wanted + 1) % 4294967296) % 4294967296 < T.room - (T.unread.length + 1) := fun p hp => by
    obtain ⟨h1, h2⟩ := List.mem_filter.mp hp
    have h3 := h.a p h1
    have h4 : p.1 ≠ T.wanted := by simpa using h2
    refine ⟨h3.1, ?_⟩
    have := h3.1
    have := h3.2
    omega
  have hnd : (T.ahead.filter fun p => decide (p.1 ≠ T.wanted)).Pairwise fun p q => p.1 ≠ q.1 := h.nd.sublist List.filter_sublist
  unfold Tv.come
  split
  · exact ⟨fun p hp => by simp at hp, hr, hu, .nil⟩
  · split
    · refine ⟨fun p hp => ⟨(hf p hp).1, ?_⟩, hr, hu, hnd⟩
      have := (hf p hp).2
      show (p.1 - (T.wanted + 1) % 4294967296) % 4294967296 < T.room - (T.unread.length : Int)
      omega
    · refine ⟨fun p hp => ⟨(hf p hp).1, ?_⟩, hr, ?_, hnd⟩
      · have := (hf p hp).2
        show (p.1 - (T.wanted + 1) % 4294967296) % 4294967296 < T.room - ((T.unread ++ [d]).length : Int)
        rw [List.length_append, List.length_singleton]; omega
      · show (T.unread ++ [d]).length ≤ 128
        rw [List.length_append, List.length_singleton]; omega
theorem drain_win : ∀ {n : Nat} {T : Tv}, T.Win → (0 ≤ T.wanted ∧ T.wanted < 4294967296) → (Tv.drain n T).Win
  | 0, _, h, _ => h
  | n + 1, T, h, hw => by
    unfold Tv.drain
    cases q : T.ahead.lookup T.wanted with
    | none => exact h
    | some d =>
      simp only
      split
      · exact h
      · refine drain_win (come_win h hw q) ?_
        unfold Tv.come
        split
        · show 0 ≤ (T.wanted + 1) % 4294967296 ∧ (T.wanted + 1) % 4294967296 < 4294967296; omega
        · split <;> (show 0 ≤ (T.wanted + 1) % 4294967296 ∧ (T.wanted + 1) % 4294967296 < 4294967296; omega)
theorem take_win {T : Tv} {number : Int} {ds : List D} (h : T.Win) (hw : 0 ≤ T.wanted ∧ T.wanted < 4294967296) : (T.take number ds).Win := by
  unfold Tv.take
  split
  · exact h
  · have key : ∀ i, (T.puts T.wanted (T.room - T.unread.length) number ds i).Win := by
      intro i
      induction i with
      | zero => exact h
      | succ i ih =>
        obtain ⟨p1, p2, p3, p4, p5, p6⟩ := puts_same (T := T) (w0 := T.wanted) (free := T.room - T.unread.length) (number := number) (ds := ds) i
        unfold Tv.puts
        cases ds[i]? with
        | none => exact ih
        | some d =>
          simp only
          unfold Tv.put1
          split
          · rename_i hc
            refine ⟨fun p hp => ?_, ih.r, ih.u, ?_⟩
            rotate_left
            · refine List.pairwise_append.mpr ⟨ih.nd, List.pairwise_singleton _ _, fun p hp q hq => ?_⟩
              rw [List.mem_singleton] at hq
              subst hq
              intro e
              have e' : p.1 = (number + (i : Int)) % 4294967296 := e
              have hl := hc.2
              rw [← e'] at hl
              exact look_ne hl hp
            rcases List.mem_append.mp hp with hp | hp
            · exact ih.a p hp
            · rw [List.mem_singleton] at hp
              subst hp
              refine ⟨by simp only; omega, ?_⟩
              show ((number + (i : Int)) % 4294967296 - (T.puts T.wanted (T.room - T.unread.length) number ds i).wanted) % 4294967296 < (T.puts T.wanted (T.room - T.unread.length) number ds i).room - ((T.puts T.wanted (T.room - T.unread.length) number ds i).unread.length : Int)
              rw [p1, p2, p3]; exact hc.1
          · exact ih
    obtain ⟨p1, _⟩ := puts_same (T := T) (w0 := T.wanted) (free := T.room - T.unread.length) (number := number) (ds := ds) ds.length
    exact drain_win (key _) (by rw [p1]; exact hw)
theorem read_win {T : Tv} {n : Nat} (h : T.Win) : Tv.Win { T with unread := T.unread.drop n } := by
  refine ⟨fun p hp => ⟨(h.a p hp).1, ?_⟩, h.r, ?_, h.nd⟩
  · have := (h.a p hp).2
    show (p.1 - T.wanted) % 4294967296 < T.room - ((T.unread.drop n).length : Int)
    rw [List.length_drop]; omega
  · have := h.u
    show (T.unread.drop n).length ≤ 128
    rw [List.length_drop]; omega
/-- an item that may stand in a segment: a byte, o, e -/
def Byt (d : D) : Prop := (∃ i, d = .int i ∧ 0 ≤ i ∧ i ≤ 255) ∨ d = dS "o" ∨ d = dS "e"
theorem Byt.itm {d : D} (h : Byt d) : Itm d := h.elim (fun ⟨i, e, _⟩ => .inl ⟨i, e⟩) .inr
/-- what holds of a talk in every state -/
structure Kv.Ok (K : Kv) : Prop where
  h : 0 ≤ K.here ∧ K.here ≤ 255
  t : 0 ≤ K.there ∧ K.there ≤ 255
  f : 0 ≤ K.first ∧ K.first < 4294967296
  gk : K.G.Ok
  ko : KO K.G.kept K.G.fin
  ki : ∀ d ∈ K.G.kept, Byt d
  gm : K.G.most = 32
  now : K.G.now ≤ K.last
  op : 0 < K.G.passed → K.T ≠ none
  tk : ∀ T, K.T = some T → T.Ok ∧ T.Win ∧ ∀ d ∈ T.unread, Itm d
def Kv.wants (K : Kv) : Int × Int := match K.T with
  | some T => (T.wanted, T.room - T.unread.length)
  | none => (0, 0)
def Kv.mk' (K : Kv) (z : Str) (n : Int) (data : List D) : Sg := if 97 ∈ z.cps.toList then ⟨K.here, K.there, z, n, K.wants.1, K.wants.2, data⟩ else ⟨K.here, K.there, z, n, 0, 0, data⟩
theorem mk_Ok {K : Kv} {z : Str} {n : Int} {data : List D} (h : K.Ok) (hz : z = mkOf z) (hn : 0 ≤ n ∧ n < 4294967296) (hd : ∃ ds : List Int, data = ds.map D.int ∧ ∀ b ∈ ds, 0 ≤ b ∧ b ≤ 255) (hl : data.length ≤ 200) : (K.mk' z n data).Ok := by
  have w : (0 ≤ K.wants.1 ∧ K.wants.1 ≤ 4294967295) ∧ 0 ≤ K.wants.2 ∧ K.wants.2 ≤ 128 := by
    unfold Kv.wants
    cases q : K.T with
    | none => exact ⟨by decide, by decide⟩
    | some T =>
      obtain ⟨a, b, _⟩ := h.tk T q
      have := a.w
      have := b.r
      have := b.u
      simp only
      omega
  unfold Kv.mk'
  split
  · exact ⟨h.h, h.t, hz, ⟨hn.1, by show n ≤ 4294967295; omega⟩, w.1, w.2, hd, hl⟩
  · exact ⟨h.h, h.t, hz, ⟨hn.1, by show n ≤ 4294967295; omega⟩, by show (0 : Int) ≤ 0 ∧ (0 : Int) ≤ 4294967295; decide, by show (0 : Int) ≤ 0 ∧ (0 : Int) ≤ 128; decide, hd, hl⟩
section
variable {A : Hs} {t g k : Nat} {u : Option (Nat × Nat)} {K : Kv}
theorem made_ok {z : Str} {n : Int} {data : List D} (h : IsK A t g k u K) (hz : 97 ∈ z.cps.toList → K.T ≠ none) (hS : (K.mk' z n data).Ok) : Rk (F_Talk_made [.ref t, .str z, .int n, .tup data] A) fun v A1 => v = .ref A.length ∧ IsS A1 A.length (K.mk' z n data) ∧ Fr [] A A1 := by
  have o := h.o
  have hu := h.iu
  obtain ⟨_, A1, e1, rfl, s1, f1⟩ := (seg_ok (A := A) hS).ex
  have ia : oIn (dS "a") (.str z) A = .ok (.bl (decide (97 ∈ z.cps.toList))) A := oIn_dS (c := 97) rfl
  unfold F_Talk_made
  by_cases q : 97 ∈ z.cps.toList
  · cases hK : K.T with
    | none => exact absurd hK (hz q)
    | some T =>
      cases u with
      | none => rw [hK] at hu; exact hu.elim
      | some u =>
        rw [hK] at hu
        have ot := IsT.o hu
        have ew := wants_ok hu
        have em : K.mk' z n data = ⟨K.here, K.there, z, n, T.wanted, T.room - T.unread.length, data⟩ := by unfold Kv.mk' Kv.wants; rw [if_pos q, hK]
        rw [em] at e1 s1 ⊢
        simp only at e1
        simp_arith [ia, decide_eq_true q, o, Kv.fs, tkD, ot, Tv.fs, ew, e1]
        exact ⟨s1, f1⟩
  · have em : K.mk' z n data = ⟨K.here, K.there, z, n, 0, 0, data⟩ := by unfold Kv.mk'; rw [if_neg q]
    rw [em] at e1 s1 ⊢
    simp only at e1
    simp_arith [ia, decide_eq_false q, o, Kv.fs, e1]
    exact ⟨s1, f1⟩
end

/-! segments of items -/
def isI (d : D) : Bool := !isE d && !isOO d
/-- marks by what there is: a, e, o, q -/
def mrk (a e o q : Bool) : Str := ⟨((if a then [97] else []) ++ (if e then [101] else []) ++ (if o then [111] else []) ++ (if q then [113] else [])).toArray⟩
theorem mrk_ok (a e o q : Bool) : mrk a e o q = mkOf (mrk a e o q) ∧ (97 ∈ (mrk a e o q).cps.toList ↔ a = true) := by
  cases a <;> cases e <;> cases o <;> cases q <;> decide
/-- whether an item is this text -/
def eqs (s : String) : D → Bool
  | .str x => decide (x = fS s)
  | _ => false
theorem pys : ∀ {l : List D}, (∀ d ∈ l, Itm d) → ∃ ps, (∀ A, allSome (l.map (pyA A 39)) = some ps) ∧ ∀ s : String, (ps.any fun z => PyData.eqv z (.str (fS s))) = l.any (eqs s)
  | [], _ => ⟨[], fun _ => rfl, fun _ => rfl⟩
  | d :: l, h => by
    obtain ⟨ps, h1, h2⟩ := pys (l := l) fun x hx => h x (List.mem_cons_of_mem _ hx)
    rcases h d List.mem_cons_self with ⟨i, rfl⟩ | rfl | rfl
    · exact ⟨.int i :: ps, fun A => by rw [List.map_cons]; simp [allSome, pyA, h1 A], fun s => by rw [List.any_cons, List.any_cons, h2]; rfl⟩
    · refine ⟨.str (fS "o") :: ps, fun A => by rw [List.map_cons]; simp [allSome, pyA, h1 A, dS], fun s => ?_⟩
      rw [List.any_cons, List.any_cons, h2]
      congr 1
    · refine ⟨.str (fS "e") :: ps, fun A => by rw [List.map_cons]; simp [allSome, pyA, h1 A, dS], fun s => ?_⟩
      rw [List.any_cons, List.any_cons, h2]
      congr 1
theorem inE {A : Hs} {l : List D} (h : ∀ d ∈ l, Itm d) : inl_ A (dS "e") l false = .ok (.bl (l.any isE)) A := by
  obtain ⟨ps, h1, h2⟩ := pys h
  unfold inl_
  rw [h1 A]
  simp only [dS, pyA]
  rw [h2 "e"]
  rfl
theorem inO {A : Hs} {l : List D} (h : ∀ d ∈ l, Itm d) : inl_ A (dS "o") l false = .ok (.bl (l.any isOO)) A := by
  obtain ⟨ps, h1, h2⟩ := pys h
  unfold inl_
  rw [h1 A]
  simp only [dS, pyA]
  rw [h2 "o"]
  rfl
theorem notOE {A : Hs} {d : D} (h : Itm d) : inl_ A d [dS "o", dS "e"] true = .ok (.bl (isI d)) A := by
  rcases h with ⟨i, rfl⟩ | rfl | rfl
  · unfold inl_; simp [pyA, allSome, dS, PyData.eqv, isI, isE, isOO]
  · unfold inl_; simp [pyA, allSome, dS, PyData.eqv, isI, isE, isOO, fS_inj]
  · unfold inl_; simp [pyA, allSome, dS, PyData.eqv, isI, isE, isOO, fS_inj]
theorem eqNil {A : Hs} {l : List D} (h : ∀ d ∈ l, Itm d) : oEq (.tup l) (.tup []) A = .ok (.bl (decide (l = []))) A := by
  obtain ⟨ps, h1, _⟩ := pys h
  cases l with
  | nil => exact oEq_pd rfl
  | cons d l =>
    refine eqA_of (b := false) ?_
    have h2 := h1 A
    cases ps with
    | nil =>
      cases q : pyA A 39 d with
      | none => simp [allSome, q] at h2
      | some p => cases q2 : allSome (l.map (pyA A 39)) <;> simp [allSome, q, q2] at h2
    | cons p ps =>
      unfold eqA
      rw [pyA, pyA, h2]
      simp [allSome, PyData.eqv, PyData.eqvAll]
theorem byt_data : ∀ {l : List D}, (∀ d ∈ l, Byt d) → ∃ ds : List Int, l.filter isI = ds.map D.int ∧ ∀ b ∈ ds, 0 ≤ b ∧ b ≤ 255
  | [], _ => ⟨[], rfl, by simp⟩
  | d :: l, h => by
    obtain ⟨ds, e, hb⟩ := byt_data (l := l) fun x hx => h x (List.mem_cons_of_mem _ hx)
    rw [List.filter_cons]
    cases q : isI d with
    | false => exact ⟨ds, by simpa using e, hb⟩
    | true =>
      rcases h d List.mem_cons_self with ⟨i, rfl, hi⟩ | rfl | rfl
      · exact ⟨i :: ds, by simp [e], fun b hb' => (List.mem_cons.mp hb').elim (fun z => z ▸ hi) (hb b)⟩
      · simp [isI, isE, isOO, dS, fS_inj] at q
      · simp [isI, isE, isOO, dS, fS_inj] at q
def Kv.segOf (K : Kv) (p : Int × List D) : Sg := K.mk' (mrk K.T.isSome (p.2.any isE) (p.2.any isOO) (decide (p.2 = []))) p.1 (p.2.filter isI)
theorem segOf_Ok {K : Kv} {p : Int × List D} (h : K.Ok) (hn : 0 ≤ p.1 ∧ p.1 < 4294967296) (hd : ∀ d ∈ p.2, Byt d) (hl : p.2.length ≤ 200) : (K.segOf p).Ok :=
  mk_Ok h (mrk_ok _ _ _ _).1 hn (byt_data hd) (Nat.le_trans (List.length_filter_le _ _) hl)
theorem iadd_s {A : Hs} {x y : Str} (h : x.length + y.length ≤ 16000000) : oIAdd (.str x) (.str y) A = .ok (.str (x ++ y)) A := by
  unfold oIAdd; simp only; rw [if_pos (z0l h)]
theorem iadd_dd {A : Hs} {x y : String} (h : (fS x).length + (fS y).length ≤ 16000000) : oIAdd (dS x) (dS y) A = .ok (.str (fS x ++ fS y)) A := iadd_s h
theorem iadd_sd {A : Hs} {x : Str} {y : String} (h : x.length + (fS y).length ≤ 16000000) : oIAdd (.str x) (dS y) A = .ok (.str (x ++ fS y)) A := iadd_s h
theorem mrk_eq (a e o q : Bool) : (if a = true then fS "a" else fS "") ++ (if e = true then fS "e" else fS "") ++ (if o = true then fS "o" else fS "") ++ (if q = true then fS "q" else fS "") = mrk a e o q := by
  cases a <;> cases e <;> cases o <;> cases q <;> rfl
section
variable {A : Hs} {t g k : Nat} {u : Option (Nat × Nat)} {K : Kv}
theorem segment_of_ok {p : Int × List D} (h : IsK A t g k u K) (hK : K.Ok) (hn : 0 ≤ p.1 ∧ p.1 < 4294967296) (hd : ∀ d ∈ p.2, Byt d) (hl : p.2.length ≤ 200) : Rk (F_Talk_segment_of [.ref t, .int p.1, .tup p.2] A) fun v A1 => ∃ i, v = .ref i ∧ A.length ≤ i ∧ IsS A1 i (K.segOf p) ∧ Fr [] A A1 := by
  have hi : ∀ d ∈ p.2, Itm d := fun d hx => (hd d hx).itm
  have o := h.o
  have hu := h.iu
  have iE := inE (A := A) hi
  have iO := inO (A := A) hi
  have iN := eqNil (A := A) hi
  have hS := segOf_Ok hK hn hd hl
  have h1 : IsK (A ++ [.lst (p.2.filter isI)]) t g k u K := h.up0 .push
  obtain ⟨_, A1, e1, rfl, s1, f1⟩ := (made_ok (z := mrk K.T.isSome (p.2.any isE) (p.2.any isOO) (decide (p.2 = []))) (n := p.1) (data := p.2.filter isI) h1 (fun z => by
    have := (mrk_ok _ _ _ _).2.mp z
    intro e; rw [e] at this; cases this) hS).ex
  have o1 := h1.o
  have hlen := lt_of_get o
  have tkn : isNon (tkD u) = !K.T.isSome := by
    cases u with
    | none => cases hT : K.T with
      | none => rfl
      | some _ => rw [hT] at hu; exact hu.elim
    | some u => cases hT : K.T with
      | none => rw [hT] at hu; exact hu.elim
      | some _ => rfl
  have hseg : K.segOf p = K.mk' (mrk K.T.isSome (p.2.any isE) (p.2.any isOO) (decide (p.2 = []))) p.1 (p.2.filter isI) := rfl
  unfold F_Talk_segment_of
  generalize hE : p.2.any isE = bE at *
  generalize hO : p.2.any isOO = bO at *
  generalize hQ : decide (p.2 = []) = bQ at *
  generalize hT : K.T.isSome = bT at *
  have lcE : ∀ (o3 : Option D), lcL (gN 4) (tOf (eOp oNotIn (eVar 4) (eTup (aCons (eC (dS "o")) (aCons (eC (dS "e")) aNil))))) (eVar 4) tt [some (.ref t), some (.int p.1), some (.tup p.2), o3, none] p.2 [] A = .ok ((p.2.filter isI).map id) A := fun o3 => by
    refine lc_go _ _ trivial (by omega) fun d hx => ?_
    simp_arith [notOE (hi d hx)]
    exact fun _ => rfl
  simp only [List.map_id] at lcE
  have hx := mrk_eq bT bE bO bQ
  have hlc := Nat.le_trans (List.length_filter_le isI p.2) hl
  cases bT <;> cases bE <;> cases bO <;> cases bQ
  all_goals
    simp only [if_true, if_false, Bool.false_eq_true] at hx
    simp_arith [o, Kv.fs, tkn, iE, iO, iN, iadd_dd, iadd_sd, hx, lcE, o1, e1]
    exact ⟨_, rfl, by simp, by rw [hseg]; simpa using s1, Fr.push.trans f1⟩
end

/-! what is due -/
/-- a list of segments -/
def IsL (A : Hs) (r : Nat) (L : List Sg) : Prop := ∃ ps : List Nat, A[r]? = some (.lst (ps.map D.ref)) ∧ ps.length = L.length ∧ ∀ (j i : Nat) (S : Sg), ps[j]? = some i → L[j]? = some S → IsS A i S
theorem IsL.nil {A : Hs} {r : Nat} (h : A[r]? = some (.lst [])) : IsL A r [] := ⟨[], h, rfl, fun j i S h => by simp at h⟩
theorem IsL.up0 {A A1 : Hs} {r : Nat} {L : List Sg} (h : IsL A r L) (f : Fr [] A A1) : IsL A1 r L := by
  obtain ⟨ps, a, b, c⟩ := h
  exact ⟨ps, f.get a (by simp), b, fun j i S h1 h2 => f.get (c j i S h1 h2) (by simp)⟩
def Kv.due (K : Kv) (t : Int) : Kv × List Sg :=
  if Kv.over { K with last := t } then ({ K with last := t }, [])
  else if 16 ≤ (K.G.dueG t).tried then ({ K with last := t, G := K.G.dueG t, ending := "gone" }, [])
  else ({ K with last := t, G := K.G.dueG t }, (K.G.dueP t).map (Kv.segOf { K with last := t, G := K.G.dueG t }))
theorem ok_last {K : Kv} {t : Int} (h : K.Ok) (ht : K.last ≤ t) : Kv.Ok { K with last := t } := ⟨h.h, h.t, h.f, h.gk, h.ko, h.ki, h.gm, Int.le_trans h.now ht, h.op, h.tk⟩
theorem dueG_same {G : Gv} {t : Int} : (G.dueG t).most = G.most ∧ (G.dueG t).passed = G.passed := by
  have e : ∀ G : Gv, (G.again t).most = G.most ∧ (G.again t).passed = G.passed := fun G => by unfold Gv.again; split <;> exact ⟨rfl, rfl⟩
  exact e (G.due1 t)
theorem ok_due {K : Kv} {t : Int} (h : K.Ok) (ht : K.last ≤ t) : Kv.Ok { K with last := t, G := K.G.dueG t } := by
  obtain ⟨k1, k2, k3⟩ := due_kept (G := K.G) (t := t)
  obtain ⟨k4, k5⟩ := dueG_same (G := K.G) (t := t)
  exact ⟨h.h, h.t, h.f, due_Ok h.gk, by show KO (K.G.dueG t).kept (K.G.dueG t).fin; rw [k1, k2]; exact h.ko, by show ∀ d ∈ (K.G.dueG t).kept, Byt d; rw [k1]; exact h.ki, by show (K.G.dueG t).most = 32; rw [k4]; exact h.gm, by show (K.G.dueG t).now ≤ t; rw [k3]; exact Int.le_refl _, by show 0 < (K.G.dueG t).passed → _; rw [k5]; exact h.op, h.tk⟩
theorem due_Kok {K : Kv} {t : Int} (h : K.Ok) (ht : K.last ≤ t) : (K.due t).1.Ok ∧ ∀ S ∈ (K.due t).2, S.Ok := by
  unfold Kv.due
  split
  · exact ⟨ok_last h ht, by simp⟩
  · split
    · have := ok_due h ht
      exact ⟨⟨this.h, this.t, this.f, this.gk, this.ko, this.ki, this.gm, this.now, this.op, this.tk⟩, by simp⟩
    · refine ⟨ok_due h ht, fun S hS => ?_⟩
      obtain ⟨p, hp, rfl⟩ := List.mem_map.mp hS
      obtain ⟨_, d2⟩ := dueP_ok (t := t) h.gk (fun d hd => (h.ki d hd).itm) h.ko.len
      obtain ⟨a, b, c, d⟩ := d2 p hp
      exact segOf_Ok (ok_due h ht) ⟨a, b⟩ (dueP_all h.ki p hp) d
section
variable {A : Hs} {t g k : Nat} {u : Option (Nat × Nat)} {K : Kv}
theorem tdue_ok {tick : Int} (h : IsK A t g k u K) (hK : K.Ok) (ht : K.last ≤ tick) : Rk (F_Talk_due [.ref t, .int tick] A) fun v A1 => ∃ r, v = .ref r ∧ A.length ≤ r ∧ IsL A1 r (K.due tick).2 ∧ IsK A1 t g k u (K.due tick).1 ∧ Fr [t, g] A A1 := by
  obtain ⟨A1, e1, h1, f1⟩ := pass_ok (tick := tick) h ht
  have hK1 := ok_last hK ht
  have eo := is_over_ok h1 hK1.op
  have o := h.o
  have o1 := h1.o
  have l1 := f1.le
  unfold Kv.due
  cases q : Kv.over { K with last := tick } with
  | true =>
    rw [q] at eo
    unfold F_Talk_due
    simp_arith [o, Kv.fs, e1, o1, eo]
    exact ⟨_, rfl, l1, .nil z9e, h1.up0 .push, (f1.mono (by simp)).then_push⟩
  | false =>
    rw [q] at eo
    have og := h1.ig.o
    obtain ⟨_, A2, e2, r2, rfl, hr2, l2, g2, f2⟩ := (due_ok (t := tick) h1.ig hK.gk (Int.le_trans hK.now ht) (by have := hK.ko.len; show K.G.kept.length ≤ 1000; omega)).ex
    have h2 := h1.upG (f2.mono (by simp)) g2
    have o2 := h2.o
    have og2 := h2.ig.o
    have et := tries_ok h2.ig
    have n2 := f2.le
    have nt := lt_of_get o2
    rw [dueL_P] at l2
    simp only [Bool.false_eq_true, if_false]
    by_cases q2 : 16 ≤ (K.G.dueG tick).tried
    · rw [if_pos q2]
      unfold F_Talk_due
      simp_arith [o, Kv.fs, e1, o1, eo, og, Gv.fs, e2, o2, og2, et, q2]
      have h3 := h2.setO (K1 := { K with last := tick, G := K.G.dueG tick, ending := "gone" }) rfl rfl
      exact ⟨A2.length, rfl, by omega, .nil (by simp_arith []), h3.up0 .push, (((f1.mono (by simp)).trans (f2.mono (by simp))).then_set (.inl (by simp))).then_push⟩
    · rw [if_neg q2]
      obtain ⟨d1, d2⟩ := dueP_ok (t := tick) hK.gk (fun d hd => (hK.ki d hd).itm) hK.ko.len
      have hK2 := ok_due hK ht
      have dl : ((K.G.dueP tick).map prD).length = (K.G.dueP tick).length := List.length_map ..
      unfold F_Talk_due
      simp_arith [o, Kv.fs, e1, o1, eo, og, Gv.fs, e2, o2, og2, et, q2, l2]
      obtain ⟨K2, hk2⟩ : ∃ K2, K2 = ({ K with last := tick, G := K.G.dueG tick } : Kv) := ⟨_, rfl⟩
      have h2' : IsK A2 t g k u K2 := by rw [hk2]; exact h2
      rw [← hk2] at hK2 ⊢
      clear h2 h1 hK1 o1 eo og q g2 og2 et
      obtain ⟨L, hL⟩ : ∃ L, L = K.G.dueP tick := ⟨_, rfl⟩
      have hby := dueP_all (t := tick) hK.ki
      rw [← hL] at d1 d2 dl hby ⊢
      replace l2 : A2[r2]? = some (.lst (L.map prD)) := by rw [hL]; exact l2
      refine Rk.call (P := fun v B => ∃ (ps : List Nat) (B0 : Hs), v = .ref B0.length ∧ B = B0 ++ [.lst (ps.map D.ref)] ∧ ps.length = L.length ∧ (∀ (j i : Nat) (p : Int × List D), ps[j]? = some i → L[j]? = some p → IsS B0 i (K2.segOf p)) ∧ Fr [] A2 B0) (fun r => Rk (finR (ofE _ r _)) _)
        (lc_rk ((lc_run (ds := L.map prD) (fun i acc B => ∃ ps : List Nat, acc = ps.map D.ref ∧ ps.length = i ∧ (∀ (j x : Nat) (p : Int × List D), ps[j]? = some x → L[j]? = some p → IsS B x (K2.segOf p)) ∧ Fr [] A2 B) ⟨[], rfl, rfl, by simp, .refl⟩ (by omega) ?_ ?_).mono ?_)) ?_
      · rintro i acc B ⟨ps, rfl, hl, hall, fB⟩
        exact fB.get l2 (by simp)
      · rintro i d hd acc B ⟨ps, rfl, hl, hall, fB⟩
        rw [List.getElem?_map] at hd
        cases hp : L[i]? with
        | none => rw [hp] at hd; cases hd
        | some p =>
          rw [hp] at hd; cases hd
          have hm := List.mem_of_getElem? hp
          obtain ⟨a, b, _, c⟩ := d2 p hm
          have hB := h2'.up0 fB
          obtain ⟨_, B1, b1, x, rfl, hx, s1, fB1⟩ := (segment_of_ok (p := p) hB hK2 ⟨a, b⟩ (hby p hm) c).ex
          have oB := hB.o
          show Got _ _
          unfold prD
          simp_arith [oB, Kv.fs, b1]
          refine ⟨ps ++ [x], by rw [List.map_append]; rfl, by rw [List.length_append, hl]; rfl, fun j y q hj hq => ?_, fB.trans fB1⟩
          rcases Nat.lt_or_ge j ps.length with hlt | hge
          · rw [List.getElem?_append_left hlt] at hj
            exact fB1.get (hall j y q hj hq) (by simp)
          · rw [List.getElem?_append_right hge] at hj
            have hj0 : j - ps.length = 0 := by
              rcases Nat.eq_zero_or_pos (j - ps.length) with z | z
              · exact z
              · rw [List.getElem?_eq_none (by simp; omega)] at hj; cases hj
            rw [hj0] at hj
            simp only [List.getElem?_cons_zero, Option.some.injEq] at hj
            subst hj
            rw [show j = i by omega, hp] at hq
            cases hq
            exact s1
      · rintro acc B ⟨ps, rfl, hl, hall, fB⟩
        rw [List.length_map] at hl
        exact ⟨ps, B, rfl, rfl, hl, hall, fB⟩
      · rintro _ _ ⟨ps, B, rfl, rfl, hl, hall, fB⟩
        simp_arith []
        have nB := fB.le
        refine ⟨B.length, rfl, by omega, ⟨ps, z9e, by rw [hl, List.length_map], fun j i S h1 h2 => ?_⟩, h2'.up0 fB.then_push, ((f1.mono (by simp)).trans (f2.mono (by simp))).trans' fB.then_push (by simp)⟩
        rw [List.getElem?_map] at h2
        obtain ⟨p, hp, rfl⟩ := Option.map_eq_some_iff.mp h2
        exact get_push (hall j i p h1 hp)
end

/-! what is heard -/
def Sub (n : Nat) (l l1 : List Nat) : Prop := ∀ j ∈ l1, j ∈ l ∨ n ≤ j
def Kv.begin (K : Kv) (n : Int) : Kv := { K with T := some ⟨(n + 1) % 4294967296, 128, [], [], false⟩, other := some n }
def Kv.next (K : Kv) : Int := (K.G.base + K.G.sent) % 4294967296
def Kv.isAns (K : Kv) (a : Int) : Bool := if (K.next - (K.first + K.G.passed) % 4294967296) % 4294967296 < (a - (K.first + K.G.passed) % 4294967296) % 4294967296 then false else (K.op || decide (a = (K.first + 1) % 4294967296))
def Sg.has (S : Sg) (c : Nat) : Bool := decide (c ∈ S.marks.cps.toList)
def Kv.cutBy (K : Kv) (S : Sg) : Bool := if S.has 97 = true ∧ K.op = false then true else match K.T with
  | none => false
  | some T => decide ((S.number - T.wanted) % 4294967296 ≤ T.room - T.unread.length)
def Sg.items (S : Sg) : List D := (if S.has 111 then [dS "o"] else []) ++ S.data ++ (if S.has 101 then [dS "e"] else [])
section
variable {A : Hs} {t g k : Nat} {u : Option (Nat × Nat)} {K : Kv}
theorem begin_ok {n : Int} (h : IsK A t g k u K) (hn : 0 ≤ n ∧ n < 4294967296) : Rk (F_Talk_begin_taker [.ref t, .int n] A) fun v A1 => v = .non ∧ IsK A1 t g k (some (A.length, A.length + 1)) (K.begin n) ∧ Fr [t] A A1 := by
  obtain ⟨_, A1, e1, rfl, t1, f1⟩ := (taker_ok (A := A) (f := (n + 1) % 4294967296) (r := 128) (by omega) (by decide)).ex
  have h1 := h.up0 f1
  have o1 := h1.o
  have nt := lt_of_get h.o
  have n1 := lt_of_get o1
  unfold F_Talk_begin_taker
  simp_arith [moved_ok, e1, o1, Kv.fs]
  have a := ne_kind h1.ig.o h1.o (by simp)
  have b := ne_kind h1.ig.l h1.o (by simp)
  refine ⟨⟨?_, ?_, ?_⟩, (f1.mono (by simp)).then_set (.inl (by simp))⟩
  · simp_arith [Kv.fs, Kv.begin, tkD, oi_s]
  · exact h1.ig.frame (s := [t]) (.set (by simp)) (by simp [a]) (by simp [b])
  · exact IsT.frame (s := [t]) t1 (.set (by simp)) (by simp; omega) (by simp; omega)
theorem next_ok' (h : IsK A t g k u K) (hK : K.Ok) : F_Giver_next_number [.ref g] A = .ok (.int K.next) A := next_number_ok h.ig hK.gk.base
theorem is_answer_ok {a : Int} (h : IsK A t g k u K) (hK : K.Ok) (ha : 0 ≤ a ∧ a < 4294967296) : F_Talk_is_answer [.ref t, .int a] A = .ok (.bl (K.isAns a)) A := by
  have o := h.o
  have og := h.ig.o
  have en := next_ok' h hK
  have ea := answered_ok h.ig
  have eo := is_open_ok h
  have f := hK.f
  have nn : 0 ≤ K.next ∧ K.next < 4294967296 := by unfold Kv.next; omega
  unfold F_Talk_is_answer Kv.isAns
  by_cases q : (K.next - (K.first + K.G.passed) % 4294967296) % 4294967296 < (a - (K.first + K.G.passed) % 4294967296) % 4294967296
  · simp_arith [o, Kv.fs, og, Gv.fs, ea, moved_ok, far_ok, en, q]
  · cases q2 : K.op with
    | true => rw [q2] at eo; simp_arith [o, Kv.fs, og, Gv.fs, ea, moved_ok, far_ok, en, q, eo, Bool.true_or]
    | false => rw [q2] at eo; simp_arith [o, Kv.fs, og, Gv.fs, ea, moved_ok, far_ok, en, q, eo, Bool.false_or]
theorem has_ok {s : String} {c i : Nat} {S : Sg} (h : IsS A i S) (hc : fS s = ⟨#[c]⟩) : oIn (dS s) (.str S.marks) A = .ok (.bl (S.has c)) A := oIn_dS hc
theorem cut_by_ok {i : Nat} {S : Sg} (h : IsK A t g k u K) (hK : K.Ok) (s : IsS A i S) (hS : S.Ok) : F_Talk_is_cut_by [.ref t, .ref i] A = .ok (.bl (K.cutBy S)) A := by
  have o := h.o
  have hu := h.iu
  have ia := has_ok (s := "a") (c := 97) s rfl
  have eo := is_open_ok h
  have sn := hS.n
  have s0 := s
  unfold IsS at s0
  have fin : F_Talk_is_cut_by [.ref t, .ref i] A = .ok (.bl (K.cutBy S)) A ∨ True := .inr trivial
  unfold F_Talk_is_cut_by Kv.cutBy
  cases q1 : S.has 97 with
  | true =>
    rw [q1] at ia
    cases q2 : K.op with
    | false => rw [q2] at eo; simp_arith [o, Kv.fs, s0, Sg.fs, ia, eo]
    | true =>
      rw [q2] at eo
      cases hT : K.T with
      | none => cases u with
        | none => simp_arith [o, Kv.fs, s0, Sg.fs, ia, eo, tkD]
        | some _ => rw [hT] at hu; exact hu.elim
      | some T => cases u with
        | none => rw [hT] at hu; exact hu.elim
        | some u =>
          rw [hT] at hu
          have ot := IsT.o hu
          have ew := wants_ok hu
          have tw := (hK.tk T hT).1.w
          simp_arith [o, Kv.fs, s0, Sg.fs, ia, eo, tkD, ot, Tv.fs, ew, far_ok]
  | false =>
    rw [q1] at ia
    cases hT : K.T with
    | none => cases u with
      | none => simp_arith [o, Kv.fs, s0, Sg.fs, ia, tkD]
      | some _ => rw [hT] at hu; exact hu.elim
    | some T => cases u with
      | none => rw [hT] at hu; exact hu.elim
      | some u =>
        rw [hT] at hu
        have ot := IsT.o hu
        have ew := wants_ok hu
        have tw := (hK.tk T hT).1.w
        simp_arith [o, Kv.fs, s0, Sg.fs, ia, tkD, ot, Tv.fs, ew, far_ok]
theorem numbered_ok {i : Nat} {S : Sg} (s : IsS A i S) (hS : S.Ok) : ∃ A1, F_Segment_numbered [.ref i] A = .ok (.tup S.items) A1 ∧ Fr [] A A1 := by
  have s0 := s
  unfold IsS at s0
  have n0 := lt_of_get s0
  have hl := hS.l
  suffices H : Rk (F_Segment_numbered [.ref i] A) fun v A1 => v = .tup S.items ∧ Fr [] A A1 by
    obtain ⟨_, A1, e1, rfl, f1⟩ := H.ex
    exact ⟨A1, e1, f1⟩
  have so : signsOf (fS "o") = [sg 111] := rfl
  have se : signsOf (fS "e") = [sg 101] := rfl
  have key : ∀ (B : Hs) (c : Nat), oIn (sg c) (.str S.marks) B = .ok (.bl (S.has c)) B := fun B c => oIn_str
  have sB : ∀ (x : O), (A ++ [x])[i]? = some (.obj "Segment" S.fs) := fun x => get_push s0
  unfold F_Segment_numbered Sg.items
  simp_arith [wkA_dS, so]
  rw [lc_go (fun d => S.has (cOf d)) id trivial (by simp)]
  rotate_left
  · intro d hd
    rw [List.mem_singleton] at hd
    subst hd
    simp_arith [s0, Sg.fs, key, cOf_sg]
    exact fun _ => rfl
  cases q1 : S.has 111 with
  | true =>
    cases q2 : S.has 101 with
    | true =>
      simp_arith [List.filter_cons, List.filter_nil, cOf_sg, q1, List.map_id, sB, Sg.fs, wkA_dS, se]
      rw [lc_go (fun d => S.has (cOf d)) id trivial (by simp)]
      rotate_left
      · intro d hd
        rw [List.mem_singleton] at hd
        subst hd
        simp_arith [sB, Sg.fs, key, cOf_sg]
        exact fun _ => rfl
      simp_arith [List.filter_cons, List.filter_nil, cOf_sg, q2, List.map_id]
      exact ⟨rfl, by walk_at "fr!"⟩
    | false =>
      simp_arith [List.filter_cons, List.filter_nil, cOf_sg, q1, List.map_id, sB, Sg.fs, wkA_dS, se]
      rw [lc_go (fun d => S.has (cOf d)) id trivial (by simp)]
      rotate_left
      · intro d hd
        rw [List.mem_singleton] at hd
        subst hd
        simp_arith [sB, Sg.fs, key, cOf_sg]
        exact fun _ => rfl
      simp_arith [List.filter_cons, List.filter_nil, cOf_sg, q2, List.map_id]
      exact ⟨rfl, by walk_at "fr!"⟩
  | false =>
    cases q2 : S.has 101 with
    | true =>
      simp_arith [List.filter_cons, List.filter_nil, cOf_sg, q1, List.map_id, sB, Sg.fs, wkA_dS, se]
      rw [lc_go (fun d => S.has (cOf d)) id trivial (by simp)]
      rotate_left
      · intro d hd
        rw [List.mem_singleton] at hd
        subst hd
        simp_arith [sB, Sg.fs, key, cOf_sg]
        exact fun _ => rfl
      simp_arith [List.filter_cons, List.filter_nil, cOf_sg, q2, List.map_id]
      exact ⟨rfl, by walk_at "fr!"⟩
    | false =>
      simp_arith [List.filter_cons, List.filter_nil, cOf_sg, q1, List.map_id, sB, Sg.fs, wkA_dS, se]
      rw [lc_go (fun d => S.has (cOf d)) id trivial (by simp)]
      rotate_left
      · intro d hd
        rw [List.mem_singleton] at hd
        subst hd
        simp_arith [sB, Sg.fs, key, cOf_sg]
        exact fun _ => rfl
      simp_arith [List.filter_cons, List.filter_nil, cOf_sg, q2, List.map_id]
      walk_at "fr!"
end


/-! take, counted, heard -/
def hdO : List D → Bool
  | [] => false
  | d :: _ => isOO d
theorem eqO {A : Hs} {l : List D} (h : ∀ d ∈ l, Itm d) : oEq (.tup (l.take 1)) (.tup [dS "o"]) A = .ok (.bl (hdO l)) A := by
  refine eqA_of ?_
  unfold eqA
  cases l with
  | nil => simp [pyA, allSome, dS, PyData.eqv, PyData.eqvAll, hdO]
  | cons d l =>
    rcases h d List.mem_cons_self with ⟨i, rfl⟩ | rfl | rfl
    · simp [pyA, allSome, dS, PyData.eqv, PyData.eqvAll, hdO, isOO]
    · simp [pyA, allSome, dS, PyData.eqv, PyData.eqvAll, hdO, isOO]
    · simp [pyA, allSome, dS, PyData.eqv, PyData.eqvAll, hdO, isOO, fS_inj]
theorem neNil {A : Hs} {l : List D} (h : ∀ d ∈ l, Itm d) : oNe (.tup l) (.tup []) A = .ok (.bl (!decide (l = []))) A := by
  have := eqNil (A := A) h
  unfold oEq oB at this
  unfold oNe oB
  cases q : eqA A (.tup l) (.tup []) with
  | none => simp [q] at this
  | some b => simp [q] at this ⊢; exact this
def Tv.takeI (T : Tv) (number : Int) (l : List D) : Tv := if hdO l then T.take ((number + 1) % 4294967296) (l.drop 1) else T.take number l
theorem Sg.Ok.items {S : Sg} (h : S.Ok) : (∀ d ∈ S.items, Itm d) ∧ S.items.length ≤ 202 := by
  obtain ⟨ds, e, hd⟩ := h.d
  have hl := h.l
  unfold Sg.items
  refine ⟨fun d hx => ?_, ?_⟩
  · rw [List.mem_append, List.mem_append] at hx
    rcases hx with (hx | hx) | hx
    · split at hx
      · rw [List.mem_singleton] at hx; exact .inr (.inl hx)
      · cases hx
    · rw [e] at hx
      obtain ⟨i, _, rfl⟩ := List.mem_map.mp hx
      exact .inl ⟨i, rfl⟩
    · split at hx
      · rw [List.mem_singleton] at hx; exact .inr (.inr hx)
      · cases hx
  · rw [List.length_append, List.length_append]
    have a : (if S.has 111 = true then [dS "o"] else []).length ≤ 1 := by split <;> simp
    have b : (if S.has 101 = true then [dS "e"] else []).length ≤ 1 := by split <;> simp
    omega
theorem takeI_ok {T : Tv} {number : Int} {l : List D} (h : T.Ok) (w : T.Win) (hi : ∀ d ∈ l, Itm d) (hl : l.length ≤ 1000) : (T.takeI number l).Ok ∧ (T.takeI number l).Win := by
  have a := w.u
  have b := w.len
  unfold Tv.takeI
  split
  · exact ⟨(ttake_ok h (fun d hd => hi d (List.mem_of_mem_drop hd)) (by rw [List.length_drop]; omega)).1, take_win w h.w⟩
  · exact ⟨(ttake_ok h hi (by omega)).1, take_win w h.w⟩
theorem drain_unread : ∀ {n : Nat} {T : Tv}, (∀ d ∈ T.unread, Itm d) → (∀ p ∈ T.ahead, Itm p.2) → ∀ d ∈ (T.drain n).unread, Itm d
  | 0, _, h, _ => h
  | n + 1, T, h, h2 => by
    unfold Tv.drain
    cases q : T.ahead.lookup T.wanted with
    | none => exact h
    | some d =>
      simp only
      split
      · exact h
      · have hd := h2 _ (look_mem q)
        have hf : ∀ p ∈ T.ahead.filter fun p => decide (p.1 ≠ T.wanted), Itm p.2 := fun p hp => h2 p (List.mem_filter.mp hp).1
        refine drain_unread ?_ ?_
        · unfold Tv.come
          split
          · exact h
          · split
            · exact h
            · intro x hx
              rcases List.mem_append.mp hx with hx | hx
              · exact h x hx
              · rw [List.mem_singleton] at hx; rw [hx]; exact hd
        · unfold Tv.come
          split
          · intro p hp; cases hp
          · split <;> exact hf
theorem takeI_unread {T : Tv} {number : Int} {l : List D} (h : T.Ok) (hu : ∀ d ∈ T.unread, Itm d) (hi : ∀ d ∈ l, Itm d) : ∀ d ∈ (T.takeI number l).unread, Itm d := by
  have key : ∀ (n : Int) (l : List D), (∀ d ∈ l, Itm d) → ∀ d ∈ (T.take n l).unread, Itm d := fun n l hi => by
    unfold Tv.take
    split
    · exact hu
    · obtain ⟨p1, p2, p3, p4, p5, p6⟩ := puts_same (T := T) (w0 := T.wanted) (free := T.room - T.unread.length) (number := n) (ds := l) l.length
      refine drain_unread ?_ fun p hp => ?_
      · rw [p3]; exact hu
      · rcases p6 p hp with hp | hp
        · exact h.i p hp
        · exact hi _ hp
  unfold Tv.takeI
  split
  · exact key _ _ fun d hd => hi d (List.mem_of_mem_drop hd)
  · exact key _ _ hi
/-- what comes of a deed that answers with a list of segments -/
def HR (A : Hs) (t g k : Nat) (u : Option (Nat × Nat)) (K1 : Kv) (L : List Sg) (v : D) (A1 : Hs) : Prop :=
  ∃ r k1 u1, v = .ref r ∧ A.length ≤ r ∧ IsL A1 r L ∧ IsK A1 t g k1 u1 K1 ∧ Sub A.length (fpK t g k u) (fpK t g k1 u1) ∧ Fr (fpK t g k u) A A1 ∧ r ∉ fpK t g k1 u1
theorem IsL.one {A : Hs} {r i : Nat} {S : Sg} (h : A[r]? = some (.lst [.ref i])) (s : IsS A i S) : IsL A r [S] := ⟨[i], h, rfl, fun j x T h1 h2 => by
  cases j with
  | zero => simp at h1 h2; subst h1; subst h2; exact s
  | succ j => simp at h1⟩
theorem Sub.refl {n : Nat} {l : List Nat} : Sub n l l := fun _ h => .inl h
def Kv.ck1 (K : Kv) (S : Sg) (t : Int) : Kv := if S.has 97 then { K with G := K.G.heardG S.answer S.room t, T := K.T.map fun T => T.takeI S.number S.items } else K
def Kv.resting (K : Kv) : Bool := K.rested.isNone && K.fin && (match K.T with
  | some T => T.over
  | none => false) && decide ((K.G.kept.length : Int) = 0)
def Kv.ck2 (K : Kv) (t : Int) : Kv := if K.resting then { K with rested := some t } else K
def Kv.ckL (K : Kv) (S : Sg) : List Sg := if S.items ≠ [] ∨ S.has 113 = true then [K.mk' (fS "a") K.next []] else []
def Kv.counted (K : Kv) (S : Sg) (t : Int) : Kv × List Sg := ((K.ck1 S t).ck2 t, ((K.ck1 S t).ck2 t).ckL S)
section
variable {A : Hs} {t g k : Nat} {u : Nat × Nat} {K : Kv} {T : Tv}
theorem ktake_ok {number : Int} {l : List D} (h : IsK A t g k (some u) K) (hT : K.T = some T) (ok : T.Ok) (w : T.Win) (hn : 0 ≤ number ∧ number < 4294967296) (hi : ∀ d ∈ l, Itm d) (hl : l.length ≤ 1000) :
    Rk (F_Talk_take [.ref t, .int number, .tup l] A) fun v A1 => v = .non ∧ ∃ b1, (b1 = u.2 ∨ A.length ≤ b1) ∧ IsK A1 t g k (some (u.1, b1)) { K with T := some (T.takeI number l) } ∧ Fr [u.1, u.2] A A1 := by
  have hu : IsT A u.1 u.2 T := by have := h.iu; rw [hT] at this; exact this
  have o := h.o
  have ot := hu.o
  have a := w.u
  have b := w.len
  have hr := w.r
  have eo := eqO (A := A) hi
  unfold F_Talk_take
  cases q : hdO l with
  | true =>
    have e : T.takeI number l = T.take ((number + 1) % 4294967296) (l.drop 1) := by unfold Tv.takeI; rw [if_pos q]
    rw [q] at eo
    obtain ⟨_, A1, e1, rfl, b1, hb, t1, f1⟩ := (take_ok (number := (number + 1) % 4294967296) (ds := l.drop 1) hu ok (by omega) (fun d hd => hi d (List.mem_of_mem_drop hd)) (by omega) (by rw [List.length_drop]; omega)).ex
    rw [e]
    simp_arith [o, Kv.fs, eo, tkD, ot, Tv.fs, moved_ok, e1]
    exact ⟨b1, hb, h.upT hT f1 t1, f1⟩
  | false =>
    have e : T.takeI number l = T.take number l := by unfold Tv.takeI; rw [if_neg (by rw [q]; decide)]
    rw [q] at eo
    obtain ⟨_, A1, e1, rfl, b1, hb, t1, f1⟩ := (take_ok (number := number) (ds := l) hu ok hn hi (by omega) (by omega)).ex
    rw [e]
    simp_arith [o, Kv.fs, eo, tkD, ot, Tv.fs, e1]
    exact ⟨b1, hb, h.upT hT f1 t1, f1⟩
end

noncomputable def ceS : S := (sSeq (sIf (tOo (tOf (eOp oNe (eVar 3) (eTup aNil))) (tOf (eOp oIn (eC (dS "q")) (eFld ["Segment"] "marks" (eVar 1))))) (sRet (eLst (aCons (eMeth "made" [("Talk", F_Talk_made)] (eVar 0) (aCons (eC (dS "a")) (aCons (eMeth "next_number" [("Giver", F_Giver_next_number)] (eFld ["Talk"] "giver" (eVar 0)) aNil) (aCons (eTup aNil) aNil)))) aNil))) sNx) (sRet (eLst aNil)))
noncomputable def ckS : S := (sSeq (sIf (tAn (tOf (eOp oIs (eFld ["Talk"] "rested" (eVar 0)) (eC .non))) (tAn (tOf (eFld ["Giver", "Talk"] "finished" (eVar 0))) (tAn (tOf (eMeth "ended" [("Taker", F_Taker_ended)] (eFld ["Talk"] "taker" (eVar 0)) aNil)) (tOf (eOp oEq (eMeth "left" [("Giver", F_Giver_left)] (eFld ["Talk"] "giver" (eVar 0)) aNil) (eC (.int 0))))))) (sFl ["Talk"] "rested" (eVar 0) (eVar 2)) sNx) ceS)
theorem counted_eq : F_Talk_counted = mkFn 3 4 (sSeq (sSet 3 (eMeth "numbered" [("Segment", F_Segment_numbered)] (eVar 1) aNil)) (sSeq (sIf (tOf (eOp oIn (eC (dS "a")) (eFld ["Segment"] "marks" (eVar 1)))) (sSeq (sDrop (eMeth "heard" [("Giver", F_Giver_heard)] (eFld ["Talk"] "giver" (eVar 0)) (aCons (eFld ["Segment"] "answer" (eVar 1)) (aCons (eFld ["Segment"] "room" (eVar 1)) (aCons (eVar 2) aNil))))) (sDrop (eMeth "take" [("Talk", F_Talk_take)] (eVar 0) (aCons (eFld ["Segment"] "number" (eVar 1)) (aCons (eVar 3) aNil))))) sNx) ckS)) := rfl
section
variable {A A0 : Hs} {t g k : Nat} {u : Option (Nat × Nat)} {K : Kv}
theorem fpK_of {t g k : Nat} {u : Option (Nat × Nat)} : ∀ x ∈ fpK t g k u, x = t ∨ x = g ∨ x = k ∨ x ∈ fpU u := by
  intro x hx; simpa [fpK] using hx
theorem IsK.lt {A : Hs} {t g k : Nat} {u : Option (Nat × Nat)} {K : Kv} (h : IsK A t g k u K) : ∀ j ∈ fpK t g k u, j < A.length := fun j hj => by
  rcases fpK_of j hj with e | e | e | e
  · rw [e]; exact lt_of_get h.o
  · rw [e]; exact lt_of_get h.ig.o
  · rw [e]; exact lt_of_get h.ig.l
  · cases u with
    | none => simp [fpU] at e
    | some u =>
      have hu := h.iu
      cases hT : K.T with
      | none => rw [hT] at hu; exact hu.elim
      | some T =>
        rw [hT] at hu
        simp only [fpU, List.mem_cons, List.not_mem_nil, or_false] at e
        rcases e with e | e
        · rw [e]; exact lt_of_get (IsT.o hu)
        · rw [e]; exact lt_of_get (IsT.l hu)
/-- the end of counted -/
theorem ce_ok {i : Nat} {S : Sg} {tick : Int} (h : IsK A t g k u K) (hK : K.Ok) (hT : K.T ≠ none) (s : IsS A i S) (hS : S.Ok) :
    Rk (finR (ceS [some (.ref t), some (.ref i), some (.int tick), some (.tup S.items)] A)) fun v A1 => ∃ r, v = .ref r ∧ A.length ≤ r ∧ IsL A1 r (K.ckL S) ∧ Fr [] A A1 := by
  have en := neNil (A := A) hS.items.1
  have iq := has_ok (s := "q") (c := 113) s rfl
  have o := h.o
  have og := h.ig.o
  have s0 := s
  unfold IsS at s0
  have ex := next_ok' h hK
  have nn : 0 ≤ K.next ∧ K.next < 4294967296 := by unfold Kv.next; omega
  obtain ⟨_, A1, e1, rfl, s1, f1⟩ := (made_ok (z := fS "a") (n := K.next) (data := []) h (fun _ => hT) (mk_Ok hK (by decide) nn ⟨[], rfl, by simp⟩ (by simp))).ex
  unfold ceS Kv.ckL
  have e1' : F_Talk_made [.ref t, dS "a", .int K.next, .tup []] A = .ok (.ref A.length) A1 := e1
  have l1 := f1.le
  by_cases q : S.items = []
  · have qb : decide (S.items = []) = true := decide_eq_true q
    rw [qb] at en
    cases q2 : S.has 113 with
    | true =>
      rw [q2] at iq
      rw [if_pos (.inr rfl)]
      clear q qb
      simp_arith [en, iq, s0, Sg.fs, o, Kv.fs, og, Gv.fs, ex, e1']
      exact ⟨_, rfl, l1, .one z9e (get_push s1), f1.then_push⟩
    | false =>
      rw [q2] at iq
      rw [if_neg (by rw [q]; simp)]
      clear q qb
      simp_arith [en, iq, s0, Sg.fs, o, Kv.fs, og, Gv.fs, ex, e1']
      exact ⟨_, rfl, Nat.le_refl _, .nil z9e, .push⟩
  · have qb : decide (S.items = []) = false := decide_eq_false q
    rw [qb] at en
    rw [if_pos (.inl q)]
    clear q qb
    simp_arith [en, iq, s0, Sg.fs, o, Kv.fs, og, Gv.fs, ex, e1']
    exact ⟨_, rfl, l1, .one z9e (get_push s1), f1.then_push⟩
theorem ok_rest {t : Int} (h : K.Ok) : Kv.Ok { K with rested := some t } := ⟨h.h, h.t, h.f, h.gk, h.ko, h.ki, h.gm, h.now, h.op, h.tk⟩
theorem ck_ok {i : Nat} {S : Sg} {tick : Int} (h : IsK A t g k u K) (hK : K.Ok) (hT : K.T ≠ none) (s : IsS A i S) (hS : S.Ok) :
    Rk (finR (ckS [some (.ref t), some (.ref i), some (.int tick), some (.tup S.items)] A)) fun v A1 => ∃ r, v = .ref r ∧ A.length ≤ r ∧ IsL A1 r ((K.ck2 tick).ckL S) ∧ IsK A1 t g k u (K.ck2 tick) ∧ Fr [t] A A1 := by
  cases hT' : K.T with
  | none => exact absurd hT' hT
  | some T =>
    cases u with
    | none => have := h.iu; rw [hT'] at this; exact this.elim
    | some u =>
      have hu : IsT A u.1 u.2 T := by have := h.iu; rw [hT'] at this; exact this
      have o := h.o
      have ot := hu.o
      have og := h.ig.o
      have ee := ended_ok hu
      have el := left_ok h.ig
      have nt := lt_of_get o
      have same : ∀ {K1 : Kv}, K1.G = K.G → (∀ x, K1.mk' x = K.mk' x) → K1.ckL S = K.ckL S := fun e1 e2 => by unfold Kv.ckL Kv.next; rw [e1, e2]
      have keep : K.resting = false → (∀ B : Hs, B = A → Rk (finR (ceS [some (.ref t), some (.ref i), some (.int tick), some (.tup S.items)] B)) fun v A1 => ∃ r, v = .ref r ∧ A.length ≤ r ∧ IsL A1 r ((K.ck2 tick).ckL S) ∧ IsK A1 t g k (some u) (K.ck2 tick) ∧ Fr [t] A A1) := fun q B hB => by
        subst hB
        have e : K.ck2 tick = K := by unfold Kv.ck2; rw [if_neg (by rw [q]; decide)]
        rw [e]
        refine (ce_ok h hK hT s hS).mono ?_
        rintro v A1 ⟨r, rfl, a, b, c⟩
        exact ⟨r, rfl, a, b, h.up0 c, c.mono (by simp)⟩
      unfold ckS
      cases q1 : K.rested with
      | some x =>
        have q : K.resting = false := by unfold Kv.resting; rw [q1]; rfl
        simp_arith [o, Kv.fs, q1, oi_s]
        exact keep q A rfl
      | none =>
        cases q2 : K.fin with
        | false =>
          have q : K.resting = false := by unfold Kv.resting; rw [q1, q2]; rfl
          simp_arith [o, Kv.fs, q1, oi_n, q2]
          exact keep q A rfl
        | true =>
          cases q3 : T.over with
          | false =>
            have q : K.resting = false := by unfold Kv.resting; rw [q1, q2, hT']; simp only; rw [q3]; rfl
            simp_arith [o, Kv.fs, q1, oi_n, q2, tkD, ot, Tv.fs, ee, q3]
            exact keep q A rfl
          | true =>
            by_cases q4 : (K.G.kept.length : Int) = 0
            · have q : K.resting = true := by unfold Kv.resting; rw [q1, q2, hT']; simp only; rw [q3, decide_eq_true q4]; rfl
              have e : K.ck2 tick = { K with rested := some tick } := by unfold Kv.ck2; rw [if_pos q]
              have h1 := h.setO (K1 := { K with rested := some tick }) rfl rfl
              have si : i ≠ t := ne_kind s o (by simp)
              have s1 : IsS (A.set t (.obj "Talk" (Kv.fs { K with rested := some tick } g (some u)))) i S := get_set_ne (Ne.symm si) s
              have key := ce_ok (tick := tick) h1 (ok_rest hK) (by show K.T ≠ none; exact hT) s1 hS
              rw [e]
              simp_arith [o, Kv.fs, q1, oi_n, q2, tkD, ot, Tv.fs, ee, q3, og, Gv.fs, el, q4]
              simp_arith [Kv.fs, q1, oi_s, q2, tkD] at key
              refine key.mono ?_
              rintro v A1 ⟨r, rfl, a, b, c⟩
              have a' : A.length ≤ r := by simpa using a
              have hk := h1.up0 (A1 := A1) (by simp_arith [Kv.fs, q1, oi_s, q2, tkD]; exact c)
              exact ⟨r, rfl, a', b, by simpa only [q2] using hk, (Fr.set (by simp)).trans (c.mono (by simp))⟩
            · have q : K.resting = false := by unfold Kv.resting; rw [decide_eq_false q4]; simp
              simp_arith [o, Kv.fs, q1, oi_n, q2, tkD, ot, Tv.fs, ee, q3, og, Gv.fs, el, q4]
              exact keep q A rfl
end

/-! heard -/
theorem IsS.off {A A1 : Hs} {i t g k : Nat} {u : Option (Nat × Nat)} {K : Kv} {S : Sg} (s : IsS A i S) (h : IsK A t g k u K) (f : Fr (fpK t g k u) A A1) : IsS A1 i S := by
  refine f.get s fun hi => ?_
  rcases fpK_of i hi with e | e | e | e
  · exact ne_kind s h.o (by simp) e
  · exact ne_kind s h.ig.o (by simp) e
  · exact ne_kind s h.ig.l (by simp) e
  · exact h.iu.off s (by decide) i e rfl
theorem heard_same {G : Gv} {a room t : Int} : (G.heardG a room t).most = G.most := by
  unfold Gv.heardG; simp only; split <;> rfl
theorem ck1_Ok {K : Kv} {S : Sg} {tick : Int} (hK : K.Ok) (hT : K.T ≠ none) (hS : S.Ok) (ht : tick ≤ K.last) : (K.ck1 S tick).Ok ∧ (K.ck1 S tick).T ≠ none := by
  unfold Kv.ck1
  split
  · obtain ⟨⟨n, k1⟩, k2, k3⟩ := heard_kept (G := K.G) (a := S.answer) (room := S.room) (t := tick)
    have sa := hS.a
    have nT : (K.T.map fun T => T.takeI S.number S.items) ≠ none := by
      cases q : K.T with
      | none => exact absurd q hT
      | some T => simp
    refine ⟨⟨hK.h, hK.t, hK.f, heard_Ok hK.gk (by omega), ?_, ?_, ?_, ?_, fun _ => nT, fun T h => ?_⟩, nT⟩
    · show KO (K.G.heardG S.answer S.room tick).kept (K.G.heardG S.answer S.room tick).fin
      rw [k1, k2]; exact hK.ko.drop
    · show ∀ d ∈ (K.G.heardG S.answer S.room tick).kept, Byt d
      rw [k1]; exact fun d hd => hK.ki d (List.mem_of_mem_drop hd)
    · show (K.G.heardG S.answer S.room tick).most = 32
      rw [heard_same]; exact hK.gm
    · show (K.G.heardG S.answer S.room tick).now ≤ K.last
      rw [k3]; exact ht
    · have h' : (K.T.map fun T => T.takeI S.number S.items) = some T := h
      obtain ⟨T0, h0, rfl⟩ := Option.map_eq_some_iff.mp h'
      obtain ⟨a, b, c⟩ := hK.tk T0 h0
      obtain ⟨i1, i2⟩ := hS.items
      obtain ⟨x, y⟩ := takeI_ok (number := S.number) a b i1 (by omega)
      exact ⟨x, y, takeI_unread a c i1⟩
  · exact ⟨hK, hT⟩
theorem counted_Ok {K : Kv} {S : Sg} {tick : Int} (hK : K.Ok) (hT : K.T ≠ none) (hS : S.Ok) (ht : tick ≤ K.last) : (K.counted S tick).1.Ok := by
  have := (ck1_Ok hK hT hS ht).1
  show ((K.ck1 S tick).ck2 tick).Ok
  unfold Kv.ck2
  split
  · exact ok_rest this
  · exact this
section
variable {A : Hs} {t g k : Nat} {u : Option (Nat × Nat)} {K : Kv}
theorem counted_ok {i : Nat} {S : Sg} {tick : Int} (h : IsK A t g k u K) (hK : K.Ok) (hT : K.T ≠ none) (s : IsS A i S) (hS : S.Ok) (ht : tick ≤ K.last) (hn : K.G.now ≤ tick) :
    Rk (F_Talk_counted [.ref t, .ref i, .int tick] A) fun v A1 => HR A t g k u (K.counted S tick).1 (K.counted S tick).2 v A1 := by
  obtain ⟨A1, e1, f1⟩ := numbered_ok s hS
  have h1 := h.up0 f1
  have s1 : IsS A1 i S := f1.get s (by simp)
  have s0 := s
  have s1' := s1
  unfold IsS at s0 s1'
  have ia := has_ok (s := "a") (c := 97) s1 rfl
  obtain ⟨i1, i2⟩ := hS.items
  have o1 := h1.o
  have og1 := h1.ig.o
  have n1 := f1.le
  unfold Kv.counted
  simp only
  rw [counted_eq]
  cases q : S.has 97 with
  | false =>
    have e : K.ck1 S tick = K := by unfold Kv.ck1; rw [if_neg (by rw [q]; decide)]
    rw [q] at ia
    rw [e]
    simp_arith [s0, e1, s1', Sg.fs, ia]
    refine (ck_ok h1 hK hT s1 hS).mono ?_
    rintro v A2 ⟨r, rfl, a, b, c, d⟩
    exact ⟨r, k, u, rfl, by omega, b, c, .refl, (f1.mono (by simp)).trans (d.mono (by simp [fpK])), fun hh => by have := h1.lt r hh; omega⟩
  | true =>
    rw [q] at ia
    cases hT' : K.T with
    | none => exact absurd hT' hT
    | some T =>
      cases u with
      | none => have := h.iu; rw [hT'] at this; exact this.elim
      | some u =>
        obtain ⟨t1, t2, _⟩ := hK.tk T hT'
        have sa := hS.a
        have sn := hS.n
        obtain ⟨_, A2, e2, rfl, k2, hk2, g2, f2⟩ := (heard_ok (a := S.answer) (room := S.room) (t := tick) h1.ig hK.gk.base (by omega) hn).ex
        have h2 := h1.upG (f2.mono (by simp)) g2
        have s2 : IsS A2 i S := f2.get s1 (by have := ne_kind s1 h1.ig.o (by simp); simp [this])
        have s2' := s2
        unfold IsS at s2'
        have o2 := h2.o
        have n2 := f2.le
        obtain ⟨_, A3, e3, rfl, b3, hb3, h3, f3⟩ := (ktake_ok (number := S.number) (l := S.items) h2 (by show K.T = some T; exact hT') t1 t2 (by omega) i1 (by omega)).ex
        have n3 := f3.le
        have s3 : IsS A3 i S := f3.get s2 (by
          have a := h2.iu.off s2 (by decide)
          intro hi
          exact a i (by simpa [fpU] using hi) rfl)
        have e : K.ck1 S tick = { K with G := K.G.heardG S.answer S.room tick, T := some (T.takeI S.number S.items) } := by unfold Kv.ck1; rw [if_pos q, hT']; rfl
        obtain ⟨c1, c2⟩ := ck1_Ok (tick := tick) hK hT hS ht
        have h3' : IsK A3 t g k2 (some (u.1, b3)) (K.ck1 S tick) := by rw [e]; exact h3
        have key := ck_ok (tick := tick) h3' c1 c2 s3 hS
        clear h3
        simp_arith [s0, e1, s1', Sg.fs, ia, o1, Kv.fs, og1, Gv.fs, e2, o2, s2', e3]
        refine key.mono ?_
        rintro v A4 ⟨r, rfl, a, b, c, d⟩
        have f12 : Fr (fpK t g k (some u)) A A2 := (f1.mono (by simp)).trans (f2.mono (by simp [fpK]))
        refine ⟨r, k2, some (u.1, b3), rfl, by omega, b, c, fun j hj => ?_, (f12.trans (f3.mono (by simp [fpK, fpU]))).trans (d.mono (by simp [fpK])), fun hh => by have := h3'.lt r hh; omega⟩
        rcases fpK_of j hj with rfl | rfl | rfl | hj
        · exact .inl (by simp [fpK])
        · exact .inl (by simp [fpK])
        · rcases hk2 with rfl | hk2
          · exact .inl (by simp [fpK])
          · exact .inr (by omega)
        · simp only [fpU, List.mem_cons, List.not_mem_nil, or_false] at hj
          rcases hj with rfl | rfl
          · exact .inl (by simp [fpK, fpU])
          · rcases hb3 with rfl | hb3
            · exact .inl (by simp [fpK, fpU])
            · exact .inr (by omega)
end

noncomputable def hrS : S := (sSeq (sIf (tOf (eOp oIs (eFld ["Talk"] "taker" (eVar 0)) (eC .non))) (sSeq (sIf (tOo (tOf (eOp oNotIn (eC (dS "o")) (eFld ["Segment"] "marks" (eVar 1)))) (tOf (eOp oNotIn (eC (dS "a")) (eFld ["Segment"] "marks" (eVar 1))))) (sRet (eLst aNil)) sNx) (sDrop (eMeth "begin_taker" [("Talk", F_Talk_begin_taker)] (eVar 0) (aCons (eFld ["Segment"] "number" (eVar 1)) aNil)))) sNx) (sRet (eMeth "counted" [("Talk", F_Talk_counted)] (eVar 0) (aCons (eVar 1) (aCons (eVar 2) aNil)))))
theorem heard_eq : F_Talk_heard = mkFn 3 3 (sSeq (sDrop (eMeth "pass_to" [("Talk", F_Talk_pass_to)] (eVar 0) (aCons (eVar 2) aNil))) (sSeq (sIf (tOf (eMeth "is_over" [("Talk", F_Talk_is_over)] (eVar 0) aNil)) (sRet (eLst aNil)) sNx) (sSeq (sIf (tAn (tOf (eOp oIn (eC (dS "a")) (eFld ["Segment"] "marks" (eVar 1)))) (tNo (tOf (eMeth "is_answer" [("Talk", F_Talk_is_answer)] (eVar 0) (aCons (eFld ["Segment"] "answer" (eVar 1)) aNil))))) (sSeq (sIf (tOo (tOf (eMeth "is_open" [("Talk", F_Talk_is_open)] (eVar 0) aNil)) (tOf (eOp oIn (eC (dS "c")) (eFld ["Segment"] "marks" (eVar 1))))) (sRet (eLst aNil)) sNx) (sRet (eLst (aCons (eMeth "made" [("Talk", F_Talk_made)] (eVar 0) (aCons (eC (dS "c")) (aCons (eFld ["Segment"] "answer" (eVar 1)) (aCons (eTup aNil) aNil)))) aNil)))) sNx) (sSeq (sIf (tOf (eOp oIn (eC (dS "c")) (eFld ["Segment"] "marks" (eVar 1)))) (sSeq (sIf (tOf (eMeth "is_cut_by" [("Talk", F_Talk_is_cut_by)] (eVar 0) (aCons (eVar 1) aNil))) (sFl ["Talk"] "ending" (eVar 0) (eC (dS "cut"))) sNx) (sRet (eLst aNil))) sNx) hrS)))) := rfl
def Kv.hear3 (K : Kv) (S : Sg) (t : Int) : Kv × List Sg := match K.T with
  | none => if S.has 111 = true ∧ S.has 97 = true then (K.begin S.number).counted S t else (K, [])
  | some _ => K.counted S t
def Kv.hear2 (K : Kv) (S : Sg) (t : Int) : Kv × List Sg := if S.has 99 then (if K.cutBy S then { K with ending := "cut" } else K, []) else K.hear3 S t
def Kv.hear1 (K : Kv) (S : Sg) (t : Int) : Kv × List Sg :=
  if K.over then (K, []) else if (S.has 97 && !K.isAns S.answer) = true then (K, if K.op = true ∨ S.has 99 = true then [] else [K.mk' (fS "c") S.answer []]) else K.hear2 S t
def Kv.heard (K : Kv) (S : Sg) (t : Int) : Kv × List Sg := Kv.hear1 { K with last := t } S t
theorem begin_Ok {K : Kv} {n : Int} (hK : K.Ok) (hn : 0 ≤ n ∧ n < 4294967296) : (K.begin n).Ok := by
  refine ⟨hK.h, hK.t, hK.f, hK.gk, hK.ko, hK.ki, hK.gm, hK.now, fun _ => by unfold Kv.begin; simp, fun T h => ?_⟩
  have h' : some (⟨(n + 1) % 4294967296, 128, [], [], false⟩ : Tv) = some T := h
  cases h'
  refine ⟨⟨?_, fun p hp => (by cases hp), by show 0 + 0 ≤ 50000; decide⟩, ⟨fun p hp => (by cases hp), rfl, by show 0 ≤ 128; decide, .nil⟩, fun d hd => (by cases hd)⟩
  show 0 ≤ (n + 1) % 4294967296 ∧ (n + 1) % 4294967296 < 4294967296
  omega
theorem ok_end {K : Kv} {e : String} (h : K.Ok) : Kv.Ok { K with ending := e } := ⟨h.h, h.t, h.f, h.gk, h.ko, h.ki, h.gm, h.now, h.op, h.tk⟩
theorem hear1_Ok {K : Kv} {S : Sg} {tick : Int} (hK : K.Ok) (hS : S.Ok) (ht : tick ≤ K.last) : (K.hear1 S tick).1.Ok := by
  have sn := hS.n
  unfold Kv.hear1
  split
  · exact hK
  · split
    · exact hK
    · unfold Kv.hear2
      split
      · show Kv.Ok (if K.cutBy S then _ else _)
        split
        · exact ok_end hK
        · exact hK
      · unfold Kv.hear3
        cases q : K.T with
        | none =>
          simp only
          split
          · exact counted_Ok (begin_Ok hK (by omega)) (by unfold Kv.begin; simp) hS ht
          · exact hK
        | some T => exact counted_Ok hK (by rw [q]; simp) hS ht
theorem heard_Kok {K : Kv} {S : Sg} {tick : Int} (hK : K.Ok) (hS : S.Ok) (ht : K.last ≤ tick) : (K.heard S tick).1.Ok :=
  hear1_Ok (ok_last hK ht) hS (Int.le_refl _)
section
variable {A : Hs} {t g k : Nat} {u : Option (Nat × Nat)} {K : Kv}
theorem HR.pre {A0 A1 : Hs} {K1 : Kv} {L : List Sg} {v : D} (f : Fr (fpK t g k u) A0 A) (h : HR A t g k u K1 L v A1) : HR A0 t g k u K1 L v A1 := by
  obtain ⟨r, k1, u1, rfl, a, b, c, d, e, n⟩ := h
  have := f.le
  exact ⟨r, k1, u1, rfl, by omega, b, c, fun j hj => (d j hj).imp id fun x => by omega, f.trans e, n⟩
theorem Rk.ret {e : Sl} {r : RE D} {P : D → Hs → Prop} (h : Rk r P) : Rk (finR (ofE e r fun d A1 => .rt d A1)) P := by
  obtain ⟨v, A1, rfl, h⟩ := h.ex
  exact h
theorem HR.nil (h : IsK A t g k u K) : HR A t g k u K [] (.ref A.length) (A ++ [.lst []]) := ⟨_, k, u, rfl, Nat.le_refl _, .nil z9e, h.up0 .push, .refl, .push, fun hh => by have := h.lt _ hh; omega⟩
theorem notIn_dS {s : String} {c : Nat} {z : Str} {A : Hs} (h : fS s = ⟨#[c]⟩) : oNotIn (dS s) (.str z) A = .ok (.bl (!decide (c ∈ z.cps.toList))) A := by
  have := oIn_dS (z := z) (A := A) h
  unfold oIn oB at this
  unfold oNotIn oB
  cases q : inA A (dS s) (.str z) with
  | none => simp [q] at this
  | some b => simp [q] at this ⊢; exact this
/-- behind the cuts -/
theorem hr_ok {i : Nat} {S : Sg} {tick : Int} (h : IsK A t g k u K) (hK : K.Ok) (s : IsS A i S) (hS : S.Ok) (ht : tick ≤ K.last) (hn : K.G.now ≤ tick) :
    Rk (finR (hrS [some (.ref t), some (.ref i), some (.int tick)] A)) fun v A1 => HR A t g k u (K.hear3 S tick).1 (K.hear3 S tick).2 v A1 := by
  have o := h.o
  have hu := h.iu
  have s0 := s
  unfold IsS at s0
  have sn := hS.n
  have no : oNotIn (dS "o") (.str S.marks) A = .ok (.bl (!S.has 111)) A := notIn_dS rfl
  have na : oNotIn (dS "a") (.str S.marks) A = .ok (.bl (!S.has 97)) A := notIn_dS rfl
  unfold hrS Kv.hear3
  cases hT : K.T with
  | some T =>
    cases u with
    | none => rw [hT] at hu; exact hu.elim
    | some u =>
      have key := counted_ok h hK (by rw [hT]; simp) s hS ht hn
      simp_arith [o, Kv.fs, tkD]
      exact Rk.ret key
  | none =>
    cases u with
    | some u => rw [hT] at hu; exact hu.elim
    | none =>
      cases q1 : S.has 111 with
      | false =>
        rw [q1] at no
        simp_arith [o, Kv.fs, tkD, s0, Sg.fs, no]
        exact .nil h
      | true =>
        rw [q1] at no
        cases q2 : S.has 97 with
        | false =>
          rw [q2] at na
          simp_arith [o, Kv.fs, tkD, s0, Sg.fs, no, na]
          exact .nil h
        | true =>
          rw [q2] at na
          obtain ⟨_, A1, e1, rfl, k1, f1⟩ := (begin_ok (n := S.number) h (by omega)).ex
          have s1 : IsS A1 i S := f1.get s (by have := ne_kind s h.o (by simp); simp [this])
          have o1 := k1.o
          have n1 := f1.le
          have key := counted_ok k1 (begin_Ok hK (by omega)) (by unfold Kv.begin; simp) s1 hS ht hn
          simp_arith [o, Kv.fs, tkD, s0, Sg.fs, no, na, e1, o1]
          refine Rk.ret (key.mono ?_)
          rintro v A2 ⟨r, k2, u2, rfl, a, b, c, d, e, nr⟩
          refine ⟨r, k2, u2, rfl, by omega, b, c, fun j hj => ?_, (f1.mono (by simp [fpK])).trans' e fun j hj => ?_, nr⟩
          · rcases d j hj with x | x
            · simp only [fpK, fpU, List.mem_cons, List.not_mem_nil, or_false] at x ⊢
              omega
            · exact .inr (by omega)
          · simp only [fpK, fpU, List.mem_cons, List.not_mem_nil, or_false] at hj ⊢
            omega
theorem theard2 {i : Nat} {S : Sg} {tick : Int} (h : IsK A t g k u K) (hK : K.Ok) (s : IsS A i S) (hS : S.Ok) (ht : K.last ≤ tick) :
    Rk (F_Talk_heard [.ref t, .ref i, .int tick] A) fun v A1 => HR A t g k u (K.heard S tick).1 (K.heard S tick).2 v A1 := by
  obtain ⟨A1, e1, h1, f1⟩ := pass_ok (tick := tick) h ht
  have hK1 := ok_last hK ht
  have hn : K.G.now ≤ tick := Int.le_trans hK.now ht
  have f1' : Fr (fpK t g k u) A A1 := f1.mono (by simp [fpK])
  have s1 : IsS A1 i S := s.off h f1'
  have o := h.o
  have eo := is_over_ok h1 hK1.op
  unfold Kv.heard
  suffices H : Rk (F_Talk_heard [.ref t, .ref i, .int tick] A) fun v A2 => HR A1 t g k u (Kv.hear1 { K with last := tick } S tick).1 (Kv.hear1 { K with last := tick } S tick).2 v A2 from H.mono fun v A2 x => x.pre f1'
  obtain ⟨K1, hk⟩ : ∃ K1, K1 = ({ K with last := tick } : Kv) := ⟨_, rfl⟩
  have el : K1.last = tick := by rw [hk]
  have en : K1.G.now ≤ tick := by rw [hk]; exact hn
  rw [← hk] at hK1 eo h1 ⊢
  clear hk
  have o1 := h1.o
  have s0 := s1
  unfold IsS at s0
  have sa := hS.a
  have ia := has_ok (s := "a") (c := 97) s1 rfl
  have ic := has_ok (s := "c") (c := 99) s1 rfl
  have ea := is_answer_ok (a := S.answer) h1 hK1 (by omega)
  have eop := is_open_ok h1
  have ec := cut_by_ok h1 hK1 s1 hS
  have key := hr_ok h1 hK1 s1 hS (Int.le_of_eq el.symm) en
  have hc2 : Rk (finR (seqR (.nx [some (.ref t), some (.ref i), some (.int tick)] A1) hrS)) fun v A2 => HR A1 t g k u (K1.hear3 S tick).1 (K1.hear3 S tick).2 v A2 := key
  rw [heard_eq]
  unfold Kv.hear1
  cases q0 : K1.over with
  | true =>
    rw [q0] at eo
    simp_arith [o, Kv.fs, e1, o1, eo]
    exact .nil h1
  | false =>
    rw [q0] at eo
    have tail : (S.has 97 && !K1.isAns S.answer) = false → Rk (F_Talk_heard [.ref t, .ref i, .int tick] A) fun v A2 => HR A1 t g k u (K1.hear2 S tick).1 (K1.hear2 S tick).2 v A2 := fun q => by
      rw [heard_eq]
      unfold Kv.hear2
      cases q3 : S.has 99 with
      | true =>
        rw [q3] at ic
        cases q1 : S.has 97 with
        | false =>
          rw [q1] at ia
          cases q4 : K1.cutBy S with
          | true =>
            rw [q4] at ec
            simp_arith [o, Kv.fs, e1, o1, eo, s0, Sg.fs, ia, ic, ec]
            have h2 := h1.setO (K1 := { K1 with ending := "cut" }) rfl rfl
            have := HR.nil h2
            simp_arith [Kv.fs] at this
            exact HR.pre (.set (by simp [fpK])) this
          | false =>
            rw [q4] at ec
            simp_arith [o, Kv.fs, e1, o1, eo, s0, Sg.fs, ia, ic, ec]
            exact .nil h1
        | true =>
          rw [q1] at ia
          have q2 : K1.isAns S.answer = true := by rw [q1] at q; simpa using q
          rw [q2] at ea
          cases q4 : K1.cutBy S with
          | true =>
            rw [q4] at ec
            simp_arith [o, Kv.fs, e1, o1, eo, s0, Sg.fs, ia, ea, ic, ec]
            have h2 := h1.setO (K1 := { K1 with ending := "cut" }) rfl rfl
            have := HR.nil h2
            simp_arith [Kv.fs] at this
            exact HR.pre (.set (by simp [fpK])) this
          | false =>
            rw [q4] at ec
            simp_arith [o, Kv.fs, e1, o1, eo, s0, Sg.fs, ia, ea, ic, ec]
            exact .nil h1
      | false =>
        rw [q3] at ic
        cases q1 : S.has 97 with
        | false =>
          rw [q1] at ia
          simp_arith [o, Kv.fs, e1, o1, eo, s0, Sg.fs, ia, ic]
          exact key
        | true =>
          rw [q1] at ia
          have q2 : K1.isAns S.answer = true := by rw [q1] at q; simpa using q
          rw [q2] at ea
          simp_arith [o, Kv.fs, e1, o1, eo, s0, Sg.fs, ia, ea, ic]
          exact key
    rw [heard_eq] at tail
    cases q : (S.has 97 && !K1.isAns S.answer) with
    | false => exact tail q
    | true =>
      obtain ⟨q1, q2'⟩ := Bool.and_eq_true_iff.mp q
      have q2 : K1.isAns S.answer = false := by simpa using q2'
      rw [q1] at ia
      rw [q2] at ea
      clear tail key hc2 q q2'
      cases q3 : K1.op with
      | true =>
        rw [q3] at eop
        simp_arith [o, Kv.fs, e1, o1, eo, s0, Sg.fs, ia, ea, eop, true_or]
        exact .nil h1
      | false =>
        rw [q3] at eop
        cases q4 : S.has 99 with
        | true =>
          rw [q4] at ic
          simp_arith [o, Kv.fs, e1, o1, eo, s0, Sg.fs, ia, ea, eop, ic, or_true]
          exact .nil h1
        | false =>
          rw [q4] at ic
          obtain ⟨_, A2, e2, rfl, s2, f2⟩ := (made_ok (z := fS "c") (n := S.answer) (data := []) h1 (fun z => absurd z (by decide)) (mk_Ok hK1 (by decide) (by omega) ⟨[], rfl, by simp⟩ (by simp))).ex
          have e2' : F_Talk_made [.ref t, dS "c", .int S.answer, .tup []] A1 = .ok (.ref A1.length) A2 := e2
          have n2 := f2.le
          simp_arith [o, Kv.fs, e1, o1, eo, s0, Sg.fs, ia, ea, eop, ic, e2', or_false, Bool.false_eq_true]
          exact ⟨_, k, u, rfl, n2, .one z9e (get_push s2), h1.up0 f2.then_push, .refl, f2.then_push.mono (by simp), fun hh => by have := h1.lt _ hh; omega⟩
theorem theard_ok {i : Nat} {S : Sg} {tick : Int} (h : IsK A t g k u K) (hK : K.Ok) (s : IsS A i S) (hS : S.Ok) (ht : K.last ≤ tick) :
    Rk (F_Talk_heard [.ref t, .ref i, .int tick] A) fun v A1 => ∃ r k1 u1, v = .ref r ∧ A.length ≤ r ∧ IsL A1 r (K.heard S tick).2 ∧ IsK A1 t g k1 u1 (K.heard S tick).1 ∧ Sub A.length (fpK t g k u) (fpK t g k1 u1) ∧ Fr (fpK t g k u) A A1 := by
  refine (theard2 h hK s hS ht).mono ?_
  rintro v A1 ⟨r, k1, u1, a, b, c, d, e, f, _⟩
  exact ⟨r, k1, u1, a, b, c, d, e, f⟩
end

/-! a talk made, written to, read, cut -/
theorem is_number_talks_ok {p q : Int} {A : Hs} : F_is_number_talks [.int p, .int q] A = .ok (.bl (decide (0 ≤ p) && decide (p < q))) A := by
  unfold F_is_number_talks
  by_cases h : 0 ≤ p
  · simp_arith [h, Bool.true_and]
  · simp_arith [h, Bool.false_and]
theorem nt_ok {p q : Int} {A : Hs} (h : q ≤ p) : F_need_tick [.int p, .int q] A = .ok .non A := by
  unfold F_need_tick
  simp_arith []
theorem is_number_talks_yes {p q : Int} {A : Hs} (h : 0 ≤ p) (h2 : p < q) : F_is_number_talks [.int p, .int q] A = .ok (.bl true) A := by
  rw [is_number_talks_ok, decide_eq_true h, decide_eq_true h2]; rfl
def G0 (f : Int) : Gv := ⟨f, 32, 4, 4, 0, 1, 32, 0, 0, 0, none, false, [dS "o"]⟩
def K0 (h th f t : Int) : Kv := ⟨h, th, f, t, "", false, none, none, G0 f, none⟩
theorem G0_Ok {f : Int} (h : 0 ≤ f ∧ f < 4294967296) : (G0 f).Ok := ⟨h, by show (0 : Int) < 32 ∧ (32 : Int) ≤ 200; decide, by show (0 : Int) < 4; decide, by show (0 : Int) ≤ 0; decide⟩
theorem K0_Ok {h th f t : Int} (hh : 0 ≤ h ∧ h ≤ 255) (ht : 0 ≤ th ∧ th ≤ 255) (hf : 0 ≤ f ∧ f < 4294967296) (htk : 0 ≤ t) : (K0 h th f t).Ok := by
  refine ⟨hh, ht, hf, G0_Ok hf, ⟨?_, ?_⟩, ?_, rfl, htk, fun z => absurd z (by show ¬ (0 : Int) < 0; decide), fun T z => by cases z⟩
  · exact Nat.le_trans (List.length_filter_le _ _) (by show 1 ≤ 512; decide)
  · exact Nat.le_trans (List.length_filter_le _ _) (by show 1 ≤ 1; decide)
  · intro d hd
    have : d ∈ [dS "o"] := hd
    rw [List.mem_singleton] at this
    exact .inr (.inl this)
section
variable {A : Hs} {t g k : Nat} {u : Option (Nat × Nat)} {K : Kv}
theorem talk0_ok {h th f tick : Int} (hh : 0 ≤ h ∧ h ≤ 255) (ht : 0 ≤ th ∧ th ≤ 255) (hf : 0 ≤ f ∧ f < 4294967296) (htk : 0 ≤ tick) :
    Rk (make "Talk" F_Talk___init__ [.int h, .int th, .int f, .int tick, .non] A) fun v A1 => v = .ref A.length ∧ IsK A1 A.length (A.length + 1) (A.length + 2) none (K0 h th f tick) ∧ Fr [] A A1 := by
  refine Rk.make ?_
  obtain ⟨B, hB⟩ : ∃ B, B = (A ++ [O.obj "Talk" []]).set A.length (.obj "Talk" [("here", .int h), ("there", .int th), ("begun_with", .int f)]) := ⟨_, rfl⟩
  have hBl : B.length = A.length + 1 := by rw [hB]; simp
  obtain ⟨_, A2, e2, rfl, g2, f2⟩ := (giver_ok (A := B) (f := f) (m := 32) (w := 4) hf (by decide) (by decide)).ex
  have oB : B[A.length]? = some (.obj "Talk" [("here", .int h), ("there", .int th), ("begun_with", .int f)]) := by rw [hB]; simp_arith []
  have o2 := f2.get oB (by simp)
  have n2 := lt_of_get o2
  have fB : Fr [] A B := by rw [hB]; walk_at "fr!"
  rw [hBl] at g2 e2
  rw [hB] at e2
  have i1 : ∀ B, F_is_number_talks [.int h, .int 256] B = .ok (.bl true) B := fun B => is_number_talks_yes hh.1 (by omega)
  have i2 : ∀ B, F_is_number_talks [.int th, .int 256] B = .ok (.bl true) B := fun B => is_number_talks_yes ht.1 (by omega)
  have i3 : ∀ B, F_is_number_talks [.int f, .int 4294967296] B = .ok (.bl true) B := fun B => is_number_talks_yes hf.1 hf.2
  unfold F_Talk___init__
  simp_arith [i1, i2, i3, nt_ok, e2, o2]
  refine ⟨⟨?_, ?_, trivial⟩, ?_⟩
  · simp_arith [Kv.fs, K0, tkD, oi_n]
  · refine g2.frame (s := [A.length]) ?_ (by simp) (by simp)
    walk_at "fr!"
  · have := fB.trans f2
    walk_at "fr!"
theorem talk1_ok {h th f tick : Int} {i : Nat} {S : Sg} (s : IsS A i S) (hS : S.Ok) (hh : 0 ≤ h ∧ h ≤ 255) (ht : 0 ≤ th ∧ th ≤ 255) (hf : 0 ≤ f ∧ f < 4294967296) (htk : 0 ≤ tick) :
    Rk (make "Talk" F_Talk___init__ [.int h, .int th, .int f, .int tick, .ref i] A) fun v A1 => v = .ref A.length ∧ (∃ u, IsK A1 A.length (A.length + 1) (A.length + 2) (some u) (Kv.begin (K0 h th f tick) S.number) ∧ A.length ≤ u.1 ∧ A.length ≤ u.2) ∧ Fr [] A A1 := by
  refine Rk.make ?_
  obtain ⟨B, hB⟩ : ∃ B, B = (A ++ [O.obj "Talk" []]).set A.length (.obj "Talk" [("here", .int h), ("there", .int th), ("begun_with", .int f)]) := ⟨_, rfl⟩
  have hBl : B.length = A.length + 1 := by rw [hB]; simp
  obtain ⟨_, A2, e2, rfl, g2, f2⟩ := (giver_ok (A := B) (f := f) (m := 32) (w := 4) hf (by decide) (by decide)).ex
  have oB : B[A.length]? = some (.obj "Talk" [("here", .int h), ("there", .int th), ("begun_with", .int f)]) := by rw [hB]; simp_arith []
  have o2 := f2.get oB (by simp)
  have n2 := lt_of_get o2
  have fB : Fr [] A B := by rw [hB]; walk_at "fr!"
  have ni := lt_of_get s
  have s2 : IsS A2 i S := f2.get (fB.get s (by simp)) (by simp)
  have sn := hS.n
  have n22 := f2.le
  rw [hBl] at g2 e2
  rw [hB] at e2
  have i1 : ∀ B, F_is_number_talks [.int h, .int 256] B = .ok (.bl true) B := fun B => is_number_talks_yes hh.1 (by omega)
  have i2 : ∀ B, F_is_number_talks [.int th, .int 256] B = .ok (.bl true) B := fun B => is_number_talks_yes ht.1 (by omega)
  have i3 : ∀ B, F_is_number_talks [.int f, .int 4294967296] B = .ok (.bl true) B := fun B => is_number_talks_yes hf.1 hf.2
  obtain ⟨A3, hA3⟩ : ∃ A3, A3 = A2.set A.length (.obj "Talk" ((K0 h th f tick).fs (A.length + 1) none)) := ⟨_, rfl⟩
  have k3 : IsK A3 A.length (A.length + 1) (A.length + 2) none (K0 h th f tick) := by
    rw [hA3]
    refine ⟨get_set o2, ?_, trivial⟩
    exact g2.frame (s := [A.length]) (.set (by simp)) (by simp) (by simp)
  have l3 : A3.length = A2.length := by rw [hA3]; simp
  have s3 : IsS A3 i S := by rw [hA3]; exact get_set_ne (by omega) s2
  obtain ⟨_, A4, e4, rfl, k4, f4⟩ := (begin_ok (n := S.number) k3 (by omega)).ex
  have s3' := s3
  have o3 := k3.o
  unfold IsS at s3'
  rw [hA3] at e4 s3' o3
  simp only [Kv.fs, K0, tkD, oi_n] at e4 s3' o3
  have e4' := e4
  unfold F_Talk___init__
  simp_arith [i1, i2, i3, nt_ok, e2, o2, s3', o3, Sg.fs, e4]
  refine ⟨⟨_, k4, by simp only; omega, by simp only; omega⟩, ?_⟩
  have fA3 : Fr [A.length] A2 A3 := by rw [hA3]; exact .set (by simp)
  exact (fB.trans f2).trans' (fA3.trans f4) (by simp)
end

def Kv.write (K : Kv) (ds : List Int) : Kv := if K.over = true ∨ K.G.fin = true then K else { K with G := K.G.write ds }
def Kv.writeN (K : Kv) (n : Nat) : Int := if K.over = true ∨ K.G.fin = true then 0 else K.G.writeN n
def Kv.unread (K : Kv) : List D := match K.T with
  | none => []
  | some T => T.unread
def Kv.read (K : Kv) (n : Nat) : Kv := { K with T := K.T.map fun T => { T with unread := T.unread.drop n } }
def Kv.cut (K : Kv) : Kv × List Sg := if K.over then (K, []) else ({ K with ending := "cut" }, [Kv.mk' { K with ending := "cut" } (fS "c") K.next []])
section
variable {A : Hs} {t g k : Nat} {u : Option (Nat × Nat)} {K : Kv}
theorem twrite_ok {ds : List Int} (h : IsK A t g k u K) (hK : K.Ok) (hb : ∀ b ∈ ds, 0 ≤ b ∧ b ≤ 255) (hl : ds.length ≤ 1000) :
    Rk (F_Talk_write [.ref t, .tup (ds.map D.int)] A) fun v A1 => v = .int (K.writeN ds.length) ∧ IsK A1 t g k u (K.write ds) ∧ Fr [g, k] A A1 := by
  obtain ⟨A1, e1, f1⟩ := is_data_ok (A := A) hb hl
  have h1 := h.up0 f1
  have o1 := h1.o
  have o := h.o
  have og1 := h1.ig.o
  have eo := is_over_ok h1 hK.op
  have hk := hK.ko.len
  unfold F_Talk_write Kv.write Kv.writeN
  cases q : K.over with
  | true =>
    rw [q] at eo
    simp_arith [e1, o1, Kv.fs, eo, true_or]
    exact ⟨h1, f1.mono (by simp)⟩
  | false =>
    rw [q] at eo
    cases q2 : K.G.fin with
    | true =>
      obtain ⟨_, A2, e2, rfl, g2, f2⟩ := (write_fin h1.ig q2 hb hl).ex
      have h2 := h1.up0 f2
      simp_arith [e1, o1, Kv.fs, eo, og1, Gv.fs, e2, or_true]
      exact ⟨h2, (f1.trans f2).mono (by simp)⟩
    | false =>
      have hn := hK.ko.n
      rw [q2] at hn
      obtain ⟨_, A2, e2, rfl, g2, f2⟩ := (write_ok h1.ig q2 hb hl (fun d hd => (hK.ki d hd).itm) (by simpa using hn) (by omega)).ex
      have h2 := h1.upG (f2.mono (by simp)) g2
      simp_arith [e1, o1, Kv.fs, eo, og1, Gv.fs, e2, or_false, Bool.false_eq_true]
      exact ⟨h2, (f1.mono (by simp)).trans (f2.mono (by simp))⟩
theorem tready_ok (h : IsK A t g k u K) : F_Talk_ready [.ref t] A = .ok (.int K.unread.length) A := by
  have o := h.o
  have hu := h.iu
  unfold F_Talk_ready Kv.unread
  cases hT : K.T with
  | none =>
    cases u with
    | some _ => rw [hT] at hu; exact hu.elim
    | none => simp_arith [o, Kv.fs, tkD]; rfl
  | some T =>
    cases u with
    | none => rw [hT] at hu; exact hu.elim
    | some u =>
      rw [hT] at hu
      have ot := IsT.o hu
      have er := ready_ok hu
      simp_arith [o, Kv.fs, tkD, ot, Tv.fs, er]
theorem tread_ok {n : Int} (h : IsK A t g k u K) (hn : 0 ≤ n) : Rk (F_Talk_read [.ref t, .int n] A) fun v A1 => v = .tup (K.unread.take n.toNat) ∧ IsK A1 t g k u (K.read n.toNat) ∧ Fr (fpU u) A A1 := by
  have o := h.o
  have hu := h.iu
  unfold F_Talk_read Kv.unread Kv.read
  cases hT : K.T with
  | none =>
    cases u with
    | some _ => rw [hT] at hu; exact hu.elim
    | none =>
      simp_arith [o, Kv.fs, tkD]
      refine ⟨by simp, ?_, .refl⟩
      have e : ({ K with T := none } : Kv) = K := by rw [← hT]
      show IsK A t g k none { K with T := none }
      rw [e]; exact h
  | some T =>
    cases u with
    | none => rw [hT] at hu; exact hu.elim
    | some u =>
      rw [hT] at hu
      have ot := IsT.o hu
      obtain ⟨_, A1, e1, rfl, t1, f1⟩ := (read_ok (n := n) hu hn).ex
      simp_arith [o, Kv.fs, tkD, ot, Tv.fs, e1]
      have f1' : Fr [u.1, u.2] A A1 := f1.mono (by simp)
      exact ⟨h.upT hT f1' t1, f1'⟩
theorem tcut_ok (h : IsK A t g k u K) (hK : K.Ok) : Rk (F_Talk_cut [.ref t] A) fun v A1 => ∃ r, v = .ref r ∧ A.length ≤ r ∧ IsL A1 r K.cut.2 ∧ IsK A1 t g k u K.cut.1 ∧ Fr [t] A A1 := by
  have o := h.o
  have eo := is_over_ok h hK.op
  unfold F_Talk_cut Kv.cut
  cases q : K.over with
  | true =>
    rw [q] at eo
    simp_arith [o, Kv.fs, eo]
    exact ⟨_, rfl, Nat.le_refl _, .nil z9e, h.up0 .push, .push⟩
  | false =>
    rw [q] at eo
    have nn : 0 ≤ K.next ∧ K.next < 4294967296 := by unfold Kv.next; omega
    obtain ⟨K1, hk1⟩ : ∃ K1, K1 = ({ K with ending := "cut" } : Kv) := ⟨_, rfl⟩
    have en : K1.next = K.next := by rw [hk1]; rfl
    have hK1 : K1.Ok := by rw [hk1]; exact ok_end hK
    obtain ⟨A1, hA1⟩ : ∃ A1, A1 = A.set t (.obj "Talk" (K1.fs g u)) := ⟨_, rfl⟩
    have h1 : IsK A1 t g k u K1 := by rw [hA1]; exact h.setO (by rw [hk1]) (by rw [hk1])
    have ex := next_ok' h1 hK1
    rw [en] at ex
    obtain ⟨_, A2, e2, rfl, s2, f2⟩ := (made_ok (z := fS "c") (n := K.next) (data := []) h1 (fun z => absurd z (by decide)) (mk_Ok hK1 (by decide) nn ⟨[], rfl, by simp⟩ (by simp))).ex
    have e2' : F_Talk_made [.ref t, dS "c", .int K.next, .tup []] A1 = .ok (.ref A1.length) A2 := e2
    have o1 := h1.o
    have og1 := h1.ig.o
    have f2' : Fr [t] A A2 := by rw [hA1] at f2; exact (Fr.set (by simp)).trans (f2.mono (by simp))
    have l2 : A.length ≤ A1.length := by rw [hA1]; simp
    have fin : A.length ≤ A2.length ∧ IsL (A2 ++ [.lst [.ref A1.length]]) A2.length [K1.mk' (fS "c") K.next []] ∧ IsK (A2 ++ [.lst [.ref A1.length]]) t g k u K1 ∧ Fr [t] A (A2 ++ [.lst [.ref A1.length]]) := ⟨f2'.le, .one z9e (get_push s2), h1.up0 f2.then_push, f2'.then_push⟩
    rw [hk1] at fin
    have l1 : A1.length = A.length := by rw [hA1]; simp
    rw [l1] at fin e2'
    rw [hA1, hk1] at e2' ex o1 og1
    simp only [Kv.fs] at e2' ex o1 og1
    clear e2 hA1 hk1
    simp_arith [o, Kv.fs, eo, o1, og1, Gv.fs, ex, e2']
    exact ⟨_, rfl, fin⟩
end

/-! the opening -/
def Gd (f t : Int) : Gv := ⟨f, 32, 4, 4, 1, 1, 32, 0, 0, t, some t, false, [dS "o"]⟩
def G1 (b t : Int) : Gv := ⟨b, 32, 4, 4, 0, 128, 64, 0, 1, t, none, false, []⟩
def T1 (w : Int) : Tv := ⟨w, 128, [], [], false⟩
def K1 (h th f t f2 t2 : Int) : Kv := ⟨h, th, f, t, "", false, none, some f2, G1 ((f + 1) % 4294967296) t2, some (T1 ((f2 + 1) % 4294967296))⟩
theorem cnt1 : cnt 0 1 32 = 1 := by decide
theorem mm1 : min (1 : Int) 32 = 1 := by decide
theorem mm2 : max (0 : Int) 1 = 1 := by decide
theorem mm3 : max (0 : Int) 128 = 128 := by decide
theorem mm4 : min (512 : Int) 64 = 64 := by decide
theorem mm5 : min (32 : Int) 1 = 1 := by decide
theorem dueG_0 {f t : Int} : (G0 f).dueG t = Gd f t := by
  simp [G0, Gd, Gv.dueG, Gv.due3, Gv.due2, Gv.due1, Gv.again, Gv.late, Gv.count, Gv.counted, Gv.end_, mm1, mm2]
theorem dueP_0 {f t : Int} (h : 0 ≤ f ∧ f < 4294967296) : (G0 f).dueP t = [(f, [dS "o"])] := by
  have e : f % 4294967296 = f := by omega
  simp [G0, Gv.dueP, Gv.due2, Gv.due1, Gv.again, Gv.againP, Gv.late, Gv.count, Gv.counted, Gv.end_, chkPs, chkP, cnt1, e, mm1, mm2, mm5]
theorem isE_o : isE (dS "o") = false := by simp [isE, dS, fS_inj]
theorem isOO_o : isOO (dS "o") = true := by simp [isOO, dS]
theorem isI_o : isI (dS "o") = false := by simp [isI, isOO_o]
def Sg1 (h th f : Int) : Sg := ⟨h, th, fS "o", f, 0, 0, []⟩
def Sg2 (h th f w : Int) : Sg := ⟨h, th, fS "ao", f, w, 128, []⟩
def Sg3 (h th f w : Int) : Sg := ⟨h, th, fS "a", f, w, 128, []⟩
theorem due_call {h th f t : Int} (hf : 0 ≤ f ∧ f < 4294967296) : (K0 h th f t).due t = ({ K0 h th f t with G := Gd f t }, [Sg1 h th f]) := by
  have e : mrk false false true false = fS "o" := rfl
  have o : 97 ∈ (fS "o").cps.toList ↔ False := by decide
  unfold Kv.due
  simp only [K0, dueG_0, dueP_0 hf]
  simp [Kv.over, Kv.stand, G0, Gd, Kv.segOf, Kv.mk', isE_o, isOO_o, isI_o, e, o, Sg1]
theorem due_answer {h th f t n : Int} (hf : 0 ≤ f ∧ f < 4294967296) : ((K0 h th f t).begin n).due t = ({ (K0 h th f t).begin n with G := Gd f t }, [Sg2 h th f ((n + 1) % 4294967296)]) := by
  have e : mrk true false true false = fS "ao" := rfl
  have o : 97 ∈ (fS "ao").cps.toList ↔ True := by decide
  unfold Kv.due
  simp only [K0, Kv.begin, dueG_0, dueP_0 hf]
  simp [Kv.over, Kv.stand, G0, Gd, Kv.segOf, Kv.mk', Kv.wants, isE_o, isOO_o, isI_o, e, o, Sg2]
theorem heardG_1 {f t : Int} (hf : 0 ≤ f ∧ f < 4294967296) : (Gd f t).heardG ((f + 1) % 4294967296) 128 t = G1 ((f + 1) % 4294967296) t := by
  have e : ((f + 1) % 4294967296 - f) % 4294967296 = 1 := by omega
  unfold Gv.heardG
  simp [Gd, e, Gv.count, Gv.counted, G1, mm3, mm4]
theorem begin_eq {K : Kv} {n : Int} : K.begin n = { K with T := some (T1 ((n + 1) % 4294967296)), other := some n } := rfl
theorem isAns_1 {K : Kv} (hf : 0 ≤ K.first ∧ K.first < 4294967296) (hG : K.G.base = K.first) (hs : K.G.sent = 1) (hp : K.G.passed = 0) : K.isAns ((K.first + 1) % 4294967296) = true := by
  unfold Kv.isAns Kv.next
  rw [hG, hs, hp, if_neg (by omega), decide_eq_true rfl, Bool.or_true]
theorem takeI_o {T : Tv} {n : Int} (h : T.ahead = []) (ho : T.over = false) : T.takeI n [dS "o"] = T := by
  unfold Tv.takeI
  rw [if_pos (by simp [hdO, isOO_o])]
  simp [Tv.take, ho, Tv.puts, h, Tv.drain]
theorem takeI_nil {T : Tv} {n : Int} (h : T.ahead = []) (ho : T.over = false) : T.takeI n [] = T := by
  unfold Tv.takeI
  rw [if_neg (by simp [hdO])]
  simp [Tv.take, ho, Tv.puts, h, Tv.drain]
theorem s2n {h th f w : Int} : (Sg2 h th f w).number = f := rfl
theorem s2a {h th f w : Int} : (Sg2 h th f w).answer = w := rfl
theorem s2r {h th f w : Int} : (Sg2 h th f w).room = 128 := rfl
theorem s3n {h th f w : Int} : (Sg3 h th f w).number = f := rfl
theorem s3a {h th f w : Int} : (Sg3 h th f w).answer = w := rfl
theorem s3r {h th f w : Int} : (Sg3 h th f w).room = 128 := rfl
theorem hear_answer {h th f t f2 : Int} (hf : 0 ≤ f ∧ f < 4294967296) : Kv.heard { K0 h th f t with G := Gd f t } (Sg2 th h f2 ((f + 1) % 4294967296)) t = (K1 h th f t f2 t, [Sg3 h th ((f + 1) % 4294967296) ((f2 + 1) % 4294967296)]) := by
  have ha := isAns_1 (K := { K0 h th f t with G := Gd f t }) hf rfl rfl rfl
  have h97 : (Sg2 th h f2 ((f + 1) % 4294967296)).has 97 = true := by show decide (97 ∈ (fS "ao").cps.toList) = true; decide
  have h99 : (Sg2 th h f2 ((f + 1) % 4294967296)).has 99 = false := by show decide (99 ∈ (fS "ao").cps.toList) = false; decide
  have h111 : (Sg2 th h f2 ((f + 1) % 4294967296)).has 111 = true := by show decide (111 ∈ (fS "ao").cps.toList) = true; decide
  have h101 : (Sg2 th h f2 ((f + 1) % 4294967296)).has 101 = false := by show decide (101 ∈ (fS "ao").cps.toList) = false; decide
  have hit : (Sg2 th h f2 ((f + 1) % 4294967296)).items = [dS "o"] := by unfold Sg.items; rw [h111, h101]; rfl
  have hov : Kv.over { K0 h th f t with G := Gd f t } = false := by simp [Kv.over, Kv.stand, K0, Gd]
  have e97 : 97 ∈ (fS "a").cps.toList ↔ True := by decide
  unfold Kv.heard
  have e0 : ({ ({ K0 h th f t with G := Gd f t } : Kv) with last := t } : Kv) = { K0 h th f t with G := Gd f t } := rfl
  rw [e0]
  unfold Kv.hear1 Kv.hear2 Kv.hear3
  have ha' : Kv.isAns { K0 h th f t with G := Gd f t } (Sg2 th h f2 ((f + 1) % 4294967296)).answer = true := ha
  rw [hov, if_neg (by decide), if_neg (by rw [ha', h97]; decide), h99, if_neg (by decide)]
  show (if _ then _ else _) = _
  rw [if_pos ⟨h111, h97⟩]
  unfold Kv.counted Kv.ck1 Kv.ck2 Kv.ckL
  rw [h97, hit]
  simp only [if_true, begin_eq, K0, Option.map, s2n, s2a, s2r]
  rw [takeI_o (T := T1 ((f2 + 1) % 4294967296)) rfl rfl]
  have hg := heardG_1 (t := t) hf
  rw [hg]
  simp [Kv.resting, K1, Kv.mk', Kv.wants, e97, Sg3, T1, Kv.next, G1]
theorem hear_last {h th f t f2 : Int} (hf : 0 ≤ f ∧ f < 4294967296) : Kv.heard { (K0 h th f t).begin f2 with G := Gd f t } (Sg3 th h ((f2 + 1) % 4294967296) ((f + 1) % 4294967296)) t = (K1 h th f t f2 t, []) := by
  have ha := isAns_1 (K := { (K0 h th f t).begin f2 with G := Gd f t }) hf rfl rfl rfl
  have h97 : (Sg3 th h ((f2 + 1) % 4294967296) ((f + 1) % 4294967296)).has 97 = true := by show decide (97 ∈ (fS "a").cps.toList) = true; decide
  have h99 : (Sg3 th h ((f2 + 1) % 4294967296) ((f + 1) % 4294967296)).has 99 = false := by show decide (99 ∈ (fS "a").cps.toList) = false; decide
  have h111 : (Sg3 th h ((f2 + 1) % 4294967296) ((f + 1) % 4294967296)).has 111 = false := by show decide (111 ∈ (fS "a").cps.toList) = false; decide
  have h101 : (Sg3 th h ((f2 + 1) % 4294967296) ((f + 1) % 4294967296)).has 101 = false := by show decide (101 ∈ (fS "a").cps.toList) = false; decide
  have h113 : (Sg3 th h ((f2 + 1) % 4294967296) ((f + 1) % 4294967296)).has 113 = false := by show decide (113 ∈ (fS "a").cps.toList) = false; decide
  have hit : (Sg3 th h ((f2 + 1) % 4294967296) ((f + 1) % 4294967296)).items = [] := by unfold Sg.items; rw [h111, h101]; rfl
  have hov : Kv.over { (K0 h th f t).begin f2 with G := Gd f t } = false := by simp [Kv.over, Kv.stand, K0, Kv.begin, Gd]
  unfold Kv.heard
  have e0 : ({ ({ (K0 h th f t).begin f2 with G := Gd f t } : Kv) with last := t } : Kv) = { (K0 h th f t).begin f2 with G := Gd f t } := rfl
  rw [e0]
  unfold Kv.hear1 Kv.hear2 Kv.hear3
  have ha' : Kv.isAns { (K0 h th f t).begin f2 with G := Gd f t } (Sg3 th h ((f2 + 1) % 4294967296) ((f + 1) % 4294967296)).answer = true := ha
  rw [hov, if_neg (by decide), if_neg (by rw [ha', h97]; decide), h99, if_neg (by decide)]
  show Kv.counted _ _ _ = _
  unfold Kv.counted Kv.ck1 Kv.ck2 Kv.ckL
  rw [h97, hit, h113]
  simp only [if_true, begin_eq, K0, Option.map, s3n, s3a, s3r]
  rw [takeI_nil (T := T1 ((f2 + 1) % 4294967296)) rfl rfl]
  have hg := heardG_1 (t := t) hf
  rw [hg]
  simp [Kv.resting, K1, T1]

/-! a pair of talks, opened -/
def Dj (l l1 : List Nat) : Prop := ∀ j ∈ l, j ∉ l1
theorem Dj.symm {l l1 : List Nat} (h : Dj l l1) : Dj l1 l := fun j a b => h j b a
theorem Dj.sub {n : Nat} {l l1 l2 : List Nat} (h : Dj l l2) (s : Sub n l l1) (b : ∀ j ∈ l2, j < n) : Dj l1 l2 := fun j hj hj2 => (s j hj).elim (fun x => h j x hj2) fun x => by have := b j hj2; omega
theorem IsL.get1 {A : Hs} {r : Nat} {S : Sg} (h : IsL A r [S]) : ∃ i, A[r]? = some (.lst [.ref i]) ∧ IsS A i S := by
  obtain ⟨ps, a, b, c⟩ := h
  match ps, b with
  | [i], _ => exact ⟨i, a, c 0 i S rfl rfl⟩
theorem IsK.some {A : Hs} {t g k : Nat} {u : Option (Nat × Nat)} {K : Kv} {T : Tv} (h : IsK A t g k u K) (hT : K.T = some T) : ∃ v, u = some v := by
  cases u with
  | none => have := h.iu; rw [hT] at this; exact this.elim
  | some v => exact ⟨v, rfl⟩
theorem Sg1_Ok {h th f : Int} (hh : 0 ≤ h ∧ h ≤ 255) (ht : 0 ≤ th ∧ th ≤ 255) (hf : 0 ≤ f ∧ f < 4294967296) : (Sg1 h th f).Ok :=
  ⟨hh, ht, by show fS "o" = mkOf (fS "o"); decide, ⟨hf.1, by show f ≤ 4294967295; omega⟩, by show (0 : Int) ≤ 0 ∧ (0 : Int) ≤ 4294967295; decide, by show (0 : Int) ≤ 0 ∧ (0 : Int) ≤ 128; decide, ⟨[], rfl, by simp⟩, by show 0 ≤ 200; decide⟩
theorem Sg2_Ok {h th f w : Int} (hh : 0 ≤ h ∧ h ≤ 255) (ht : 0 ≤ th ∧ th ≤ 255) (hf : 0 ≤ f ∧ f < 4294967296) (hw : 0 ≤ w ∧ w < 4294967296) : (Sg2 h th f w).Ok :=
  ⟨hh, ht, by show fS "ao" = mkOf (fS "ao"); decide, ⟨hf.1, by show f ≤ 4294967295; omega⟩, ⟨hw.1, by show w ≤ 4294967295; omega⟩, by show (0 : Int) ≤ 128 ∧ (128 : Int) ≤ 128; decide, ⟨[], rfl, by simp⟩, by show 0 ≤ 200; decide⟩
theorem Sg3_Ok {h th f w : Int} (hh : 0 ≤ h ∧ h ≤ 255) (ht : 0 ≤ th ∧ th ≤ 255) (hf : 0 ≤ f ∧ f < 4294967296) (hw : 0 ≤ w ∧ w < 4294967296) : (Sg3 h th f w).Ok :=
  ⟨hh, ht, by show fS "a" = mkOf (fS "a"); decide, ⟨hf.1, by show f ≤ 4294967295; omega⟩, ⟨hw.1, by show w ≤ 4294967295; omega⟩, by show (0 : Int) ≤ 128 ∧ (128 : Int) ≤ 128; decide, ⟨[], rfl, by simp⟩, by show 0 ≤ 200; decide⟩
theorem pair_ok {A : Hs} {i : Nat} {tick : Int} (d : Drw A i) (htk : 0 ≤ tick) : Rk (F_l_pair [.ref i, .int tick] A) fun v A1 => ∃ (r t g k t' g' k' : Nat) (u u' : Nat × Nat) (p0 p1 f0 f1 : Int), v = .ref r ∧ A1[r]? = some (.lst [.ref t, .ref t', .tup [.int p0, .int p1], .tup [.int f0, .int f1]]) ∧
    (0 ≤ p0 ∧ p0 ≤ 255) ∧ (0 ≤ p1 ∧ p1 ≤ 255) ∧ (0 ≤ f0 ∧ f0 < 4294967296) ∧ (0 ≤ f1 ∧ f1 < 4294967296) ∧
    IsK A1 t g k (some u) (K1 p0 p1 f0 tick f1 tick) ∧ IsK A1 t' g' k' (some u') (K1 p1 p0 f1 tick f0 tick) ∧ Kv.Ok (K1 p0 p1 f0 tick f1 tick) ∧ Kv.Ok (K1 p1 p0 f1 tick f0 tick) ∧
    Dj (fpK t g k (some u)) (fpK t' g' k' (some u')) ∧ (∀ j ∈ fpK t g k (some u), A.length ≤ j) ∧ (∀ j ∈ fpK t' g' k' (some u'), A.length ≤ j) ∧ A.length ≤ r ∧ Drw A1 i ∧ Fr [i] A A1 := by
  have ni := d.lt
  obtain ⟨p0, A1, a1, b1, e1, d1, f1⟩ := next_ok (n := 256) d (by decide) (by decide)
  obtain ⟨p1, A2, a2, b2, e2, d2, f2⟩ := next_ok (n := 256) d1 (by decide) (by decide)
  obtain ⟨_, A3, e3, w0, rfl, a3, b3, d3, f3⟩ := (first_ok d2).ex
  obtain ⟨_, A4, e4, w1, rfl, a4, b4, d4, f4⟩ := (first_ok d3).ex
  obtain ⟨_, A5, e5, rfl, k5, f5⟩ := (talk0_ok (A := A4) (h := p0) (th := p1) (f := w0) (tick := tick) ⟨a1, by omega⟩ ⟨a2, by omega⟩ ⟨a3, b3⟩ htk).ex
  have O5 := K0_Ok (h := p0) (th := p1) (f := w0) (t := tick) ⟨a1, by omega⟩ ⟨a2, by omega⟩ ⟨a3, b3⟩ htk
  obtain ⟨_, A6, e6, r6, rfl, hr6, l6, k6, f6⟩ := (tdue_ok (tick := tick) k5 O5 (Int.le_refl _)).ex
  have O6 := (due_Kok (t := tick) O5 (Int.le_refl _)).1
  rw [due_call ⟨a3, b3⟩] at l6 k6 O6
  obtain ⟨i6, g6, s6⟩ := l6.get1
  obtain ⟨_, A7, e7, rfl, ⟨u', k7, hu7⟩, f7⟩ := (talk1_ok (h := p1) (th := p0) (f := w1) (tick := tick) s6 (Sg1_Ok ⟨a1, by omega⟩ ⟨a2, by omega⟩ ⟨a3, b3⟩) ⟨a2, by omega⟩ ⟨a1, by omega⟩ ⟨a4, b4⟩ htk).ex
  have O7 := begin_Ok (n := w0) (K0_Ok (h := p1) (th := p0) (f := w1) (t := tick) ⟨a2, by omega⟩ ⟨a1, by omega⟩ ⟨a4, b4⟩ htk) ⟨a3, b3⟩
  have e_s : (Sg1 p0 p1 w0).number = w0 := rfl
  rw [e_s] at k7
  obtain ⟨_, A8, e8, r8, rfl, hr8, l8, k8, f8⟩ := (tdue_ok (tick := tick) k7 O7 (Int.le_refl _)).ex
  have O8 := (due_Kok (t := tick) O7 (Int.le_refl _)).1
  rw [due_answer ⟨a4, b4⟩] at l8 k8 O8
  obtain ⟨i8, g8, s8⟩ := l8.get1
  have n56 := f6.le
  have n67 := f7.le
  have n78 := f8.le
  have n5 := lt_of_get k5.ig.l
  have n7 := lt_of_get k7.ig.l
  have m6 := lt_of_get g6
  have k6' := (k6.up0 f7).frame f8 (by simp [fpK, fpU]; omega)
  obtain ⟨_, A9, e9, r9, k9, u9, rfl, hr9, l9, K9, S9, f9⟩ := (theard_ok (tick := tick) k6' O6 s8 (Sg2_Ok ⟨a2, by omega⟩ ⟨a1, by omega⟩ ⟨a4, b4⟩ (by omega)) (Int.le_refl _)).ex
  have O9 := heard_Kok (S := Sg2 p1 p0 w1 ((w0 + 1) % 4294967296)) (tick := tick) O6 (Sg2_Ok ⟨a2, by omega⟩ ⟨a1, by omega⟩ ⟨a4, b4⟩ (by omega)) (Int.le_refl _)
  rw [hear_answer ⟨a3, b3⟩] at l9 K9 O9
  obtain ⟨i9, g9, s9⟩ := l9.get1
  have b8 := k8.lt
  have n89 := f9.le
  have dj8 : Dj (fpK A4.length (A4.length + 1) (A4.length + 2) none) (fpK A6.length (A6.length + 1) (A6.length + 2) (some u')) := fun j hj hj2 => by
    simp only [fpK, fpU, List.mem_cons, List.not_mem_nil, or_false] at hj hj2
    omega
  have k8' := k8.frame f9 dj8.symm
  have dj9 := dj8.sub S9 b8
  obtain ⟨_, A10, e10, r10, k10, u10, rfl, hr10, l10, K10, S10, f10⟩ := (theard_ok (tick := tick) k8' O8 s9 (Sg3_Ok ⟨a1, by omega⟩ ⟨a2, by omega⟩ (by omega) (by omega)) (Int.le_refl _)).ex
  have O10 := heard_Kok (S := Sg3 p0 p1 ((w0 + 1) % 4294967296) ((w1 + 1) % 4294967296)) (tick := tick) O8 (Sg3_Ok ⟨a1, by omega⟩ ⟨a2, by omega⟩ (by omega) (by omega)) (Int.le_refl _)
  rw [hear_last ⟨a4, b4⟩] at K10 O10
  have K9' := K9.frame f10 dj9
  have b9 := K9.lt
  have n910 := f10.le
  have dj10 := (dj9.symm.sub S10 b9).symm
  obtain ⟨u9, rfl⟩ := K9.some rfl
  obtain ⟨u10, rfl⟩ := K10.some rfl
  have F14 : Fr [i] A A4 := ((f1.trans f2).trans f3).trans f4
  have n14 := F14.le
  have o5 := k5.o
  have o7 := k7.o
  have o6' := k6'.o
  have o67 := (k6.up0 f7).o
  have o8' := k8'.o
  have F46 : Fr [] A4 A6 := f5.trans' f6 (by simp)
  have F48 : Fr [] A4 A8 := (F46.trans f7).trans' f8 (by simp; omega)
  have F49 : Fr [] A4 A9 := F48.trans' f9 (by simp [fpK, fpU])
  have F410 : Fr [] A4 A10 := F49.trans' f10 (by simp [fpK, fpU]; omega)
  have dX := (d4.frame F410 (by simp)).frame (s := []) (A1 := A10 ++ [.lst [.ref A4.length, .ref A6.length, .tup [.int p0, .int p1], .tup [.int w0, .int w1]]]) .push (by simp)
  have x1 := K9'.up0 (A1 := A10 ++ [.lst [.ref A4.length, .ref A6.length, .tup [.int p0, .int p1], .tup [.int w0, .int w1]]]) .push
  have x2 := K10.up0 (A1 := A10 ++ [.lst [.ref A4.length, .ref A6.length, .tup [.int p0, .int p1], .tup [.int w0, .int w1]]]) .push
  unfold F_l_pair
  simp_arith [e1, e2, e3, e4, e5, o5, Kv.fs, e6, g6, e7, o7, e8, g8, o6', o67, e9, g9, o8', e10]
  refine ⟨_, _, _, _, _, _, _, _, _, _, _, _, _, rfl, z9e, ⟨a1, by omega⟩, ⟨a2, by omega⟩, ⟨a3, b3⟩, ⟨a4, b4⟩, x1, x2, O9, O10, dj10, ?_, ?_, by omega, dX, (F14.trans' F410 (by simp)).then_push⟩
  · intro j hj
    rcases S9 j hj with x | x
    · simp only [fpK, fpU, List.mem_cons, List.not_mem_nil, or_false] at x; omega
    · omega
  · intro j hj
    rcases S10 j hj with x | x
    · simp only [fpK, fpU, List.mem_cons, List.not_mem_nil, or_false] at x; omega
    · omega

/-! a taker that takes a run of bytes in order -/
def seqA (w : Int) : List D → List (Int × D)
  | [] => []
  | d :: l => (w, d) :: seqA ((w + 1) % 4294967296) l
theorem seqA_key : ∀ {l : List D} {w : Int}, (0 ≤ w ∧ w < 4294967296) → ∀ p ∈ seqA w l, ∃ j : Nat, j < l.length ∧ p.1 = (w + j) % 4294967296
  | [], _, _, p, hp => by cases hp
  | d :: l, w, hw, p, hp => by
    rcases List.mem_cons.mp hp with rfl | hp
    · exact ⟨0, by simp, by show w = _; simp only [Int.natCast_zero] at *; omega⟩
    · obtain ⟨j, hj, e⟩ := seqA_key (l := l) (w := (w + 1) % 4294967296) (by omega) p hp
      exact ⟨j + 1, by simpa using hj, by rw [e]; push_cast; omega⟩
theorem seqA_push : ∀ {l : List D} {w : Int} {d : D}, (0 ≤ w ∧ w < 4294967296) → seqA w (l ++ [d]) = seqA w l ++ [((w + l.length) % 4294967296, d)]
  | [], w, d, hw => by
    show [(w, d)] = [((w + ((0 : Nat) : Int)) % 4294967296, d)]
    rw [show (w + ((0 : Nat) : Int)) % 4294967296 = w by omega]
  | x :: l, w, d, hw => by
    show (w, x) :: seqA _ (l ++ [d]) = (w, x) :: (seqA _ l ++ _)
    rw [seqA_push (l := l) (by omega)]
    have e : ((w + 1) % 4294967296 + (l.length : Int)) % 4294967296 = (w + ((x :: l).length : Int)) % 4294967296 := by rw [List.length_cons]; push_cast; omega
    rw [e]
theorem look_none {L : List (Int × D)} {k : Int} (h : ∀ p ∈ L, p.1 ≠ k) : L.lookup k = none := by
  induction L with
  | nil => rfl
  | cons p L ih =>
    obtain ⟨a, d⟩ := p
    rw [look_cons_i, if_neg fun e => h (a, d) List.mem_cons_self e.symm]
    exact ih fun p hp => h p (List.mem_cons_of_mem _ hp)
theorem puts_run {T : Tv} {free : Int} {ds : List D} (hw : 0 ≤ T.wanted ∧ T.wanted < 4294967296) (ha : T.ahead = []) (hf : (ds.length : Int) ≤ free) (hl : (ds.length : Int) < 4294967296) : ∀ i, i ≤ ds.length → T.puts T.wanted free T.wanted ds i = { T with ahead := seqA T.wanted (ds.take i) }
  | 0, _ => by
    show T = { T with ahead := [] }
    rw [← ha]
  | i + 1, hi => by
    have e : ds[i]? = some (ds[i]'(by omega)) := List.getElem?_eq_getElem (by omega)
    unfold Tv.puts
    rw [e]
    simp only
    rw [puts_run hw ha hf hl i (by omega)]
    have hln : (ds.take i).length = i := by rw [List.length_take]; omega
    unfold Tv.put1
    rw [if_pos]
    · have et : ds.take (i + 1) = ds.take i ++ [ds[i]'(by omega)] := by rw [List.take_succ, e]; rfl
      rw [et, seqA_push hw, hln]
    · refine ⟨by omega, look_none fun p hp => ?_⟩
      obtain ⟨j, hj, ej⟩ := seqA_key hw p hp
      rw [hln] at hj
      rw [ej]
      omega
theorem drain_run : ∀ {l : List D} {n : Nat} {T : Tv}, (0 ≤ T.wanted ∧ T.wanted < 4294967296) → T.ahead = seqA T.wanted l → T.over = false → (∀ d ∈ l, isI d = true) → l.length < n → (l.length : Int) < 4294967296 → T.drain n = { T with wanted := (T.wanted + l.length) % 4294967296, ahead := [], unread := T.unread ++ l } := by
  intro l
  induction l with
  | nil =>
    intro n T hw ha _ _ hn _
    obtain ⟨m, rfl⟩ : ∃ m, n = m + 1 := ⟨n - 1, by simp at hn; omega⟩
    unfold Tv.drain
    rw [ha]
    show T = { T with wanted := (T.wanted + ((0 : Nat) : Int)) % 4294967296, ahead := [], unread := T.unread ++ [] }
    rw [show (T.wanted + ((0 : Nat) : Int)) % 4294967296 = T.wanted by omega, List.append_nil, show ([] : List (Int × D)) = T.ahead from ha.symm]
  | cons d l ih =>
    intro n T hw ha ho hi hn hl
    obtain ⟨m, rfl⟩ : ∃ m, n = m + 1 := ⟨n - 1, by simp at hn; omega⟩
    have hl' : (l.length : Int) + 1 < 4294967296 := by simpa using hl
    have e1 : T.ahead.lookup T.wanted = some d := by
      rw [ha]; show List.lookup T.wanted ((T.wanted, d) :: _) = _; rw [look_cons_i, if_pos rfl]
    have e2 : (T.ahead.filter fun p => decide (p.1 ≠ T.wanted)) = seqA ((T.wanted + 1) % 4294967296) l := by
      rw [ha]
      show List.filter _ ((T.wanted, d) :: _) = _
      rw [List.filter_cons, if_neg (by simp)]
      refine List.filter_eq_self.mpr fun p hp => decide_eq_true ?_
      obtain ⟨j, hj, ej⟩ := seqA_key (by omega) p hp
      rw [ej]
      omega
    have hd := hi d List.mem_cons_self
    have hE : isE d = false := by unfold isI at hd; cases q : isE d <;> simp [q] at hd ⊢
    have hO : isOO d = false := by unfold isI at hd; cases q : isOO d <;> simp [q] at hd ⊢
    unfold Tv.drain
    rw [e1]
    simp only [ho, Bool.false_eq_true, if_false]
    rw [e2]
    unfold Tv.come
    simp only [hE, hO, Bool.false_eq_true, if_false]
    rw [ih (n := m) (T := ⟨(T.wanted + 1) % 4294967296, T.room, seqA ((T.wanted + 1) % 4294967296) l, T.unread ++ [d], false⟩) (by show 0 ≤ (T.wanted + 1) % 4294967296 ∧ (T.wanted + 1) % 4294967296 < 4294967296; omega) rfl rfl (fun x hx => hi x (List.mem_cons_of_mem _ hx)) (by simp at hn; omega) (by omega)]
    have e3 : ((T.wanted + 1) % 4294967296 + (l.length : Int)) % 4294967296 = (T.wanted + ((d :: l).length : Int)) % 4294967296 := by rw [List.length_cons]; push_cast; omega
    simp only [e3, List.append_assoc, List.singleton_append]
theorem take_run {T : Tv} {ds : List D} (hw : 0 ≤ T.wanted ∧ T.wanted < 4294967296) (ha : T.ahead = []) (ho : T.over = false) (hf : (ds.length : Int) ≤ T.room - T.unread.length) (hi : ∀ d ∈ ds, isI d = true) (hl : (ds.length : Int) < 4294967296) : T.take T.wanted ds = { T with wanted := (T.wanted + ds.length) % 4294967296, unread := T.unread ++ ds } := by
  unfold Tv.take
  rw [ho, if_neg (by decide), puts_run hw ha hf hl ds.length (Nat.le_refl _), List.take_length]
  have hlen : ∀ {l : List D} {w : Int}, (seqA w l).length = l.length := by
    intro l
    induction l with
    | nil => intro w; rfl
    | cons d l ih => intro w; show _ + 1 = _ + 1; rw [ih]
  rw [drain_run (l := ds) (T := ⟨T.wanted, T.room, seqA T.wanted ds, T.unread, T.over⟩) hw rfl ho hi (by simp only; rw [hlen]; omega) hl]
  simp only [ha, ho]

/-! bytes written and come -/
theorem lbytes_ok {A : Hs} {i : Nat} {n : Int} (d : Drw A i) (hn : 0 ≤ n ∧ n ≤ 1000) : Rk (F_l_bytes [.ref i, .int n] A) fun v A1 => ∃ ds : List Int, v = .tup (ds.map D.int) ∧ (ds.length : Int) = n ∧ (∀ b ∈ ds, 0 ≤ b ∧ b ≤ 255) ∧ Drw A1 i ∧ Fr [i] A A1 := by
  obtain ⟨b, A1, a1, b1, e1, d1, f1⟩ := next_ok (n := 256) d (by decide) (by decide)
  obtain ⟨c, A2, a2, b2, e2, d2, f2⟩ := next_ok (n := 8) d1 (by decide) (by decide)
  obtain ⟨ds, hds, hdl, hdb⟩ : ∃ ds : List Int, ((rgL 0 1 n.toNat).filter fun _ => true).map (fun d => match d with | .int k => D.int ((b + (1 + 2 * c) * k) % 256) | _ => .non) = ds.map D.int ∧ (ds.length : Int) = n ∧ ∀ b ∈ ds, 0 ≤ b ∧ b ≤ 255 := by
    refine ⟨(List.range n.toNat).map fun k => (b + (1 + 2 * c) * (0 + (k : Nat) * 1 : Int)) % 256, ?_, by simp; omega, ?_⟩
    · rw [List.filter_eq_self.mpr (by simp)]
      unfold rgL
      rw [List.map_map, List.map_map]
      exact List.map_congr_left fun x hx => rfl
    · intro x hx
      obtain ⟨j, _, rfl⟩ := List.mem_map.mp hx
      omega
  unfold F_l_bytes
  simp_arith [e1, e2]
  rw [lc_go (fun _ => true) (fun d => match d with | .int k => .int ((b + (1 + 2 * c) * k) % 256) | _ => .non) trivial (by rw [rgL_len]; omega)]
  rotate_left
  · intro d hd
    obtain ⟨j, hj, rfl⟩ := mem_rgL hd
    simp_arith []
    first | exact fun _ => rfl | exact fun _ => trivial
  rw [hds]
  simp_arith []
  exact ⟨ds, rfl, hdl, hdb, by
    obtain ⟨a, b, c, hh⟩ := d2
    exact ⟨a, b, c, get_push hh⟩, (f1.trans f2).then_push⟩
theorem write_Ok {K : Kv} {ds : List Int} (hK : K.Ok) (hb : ∀ b ∈ ds, 0 ≤ b ∧ b ≤ 255) : (K.write ds).Ok := by
  unfold Kv.write
  split
  · exact hK
  · rename_i h
    have hf : K.G.fin = false := by
      cases q : K.G.fin with
      | false => rfl
      | true => exact absurd (.inr q) h
    have ko := hK.ko
    rw [hf] at ko
    have kn := ko.n
    refine ⟨hK.h, hK.t, hK.f, ⟨hK.gk.base, hK.gk.most, hK.gk.fw, hK.gk.sent⟩, ?_, ?_, hK.gm, hK.now, hK.op, hK.tk⟩
    · show KO (K.G.write ds).kept K.G.fin
      rw [hf]
      exact ko.write (by unfold Gv.writeN; simp at kn; omega)
    · intro d hd
      have hd' : d ∈ K.G.kept ++ (ds.map D.int).take (K.G.writeN ds.length).toNat := hd
      rcases List.mem_append.mp hd' with x | x
      · exact hK.ki d x
      · obtain ⟨b, hb', rfl⟩ := List.mem_map.mp (List.mem_of_mem_take x)
        exact .inl ⟨b, rfl, hb b hb'⟩
theorem read_Ok {K : Kv} {n : Nat} (hK : K.Ok) : (K.read n).Ok := by
  refine ⟨hK.h, hK.t, hK.f, hK.gk, hK.ko, hK.ki, hK.gm, hK.now, fun h => ?_, fun T h => ?_⟩
  · have := hK.op h
    show (K.T.map _) ≠ none
    cases q : K.T with
    | none => exact absurd q this
    | some T => simp
  · have h' : (K.T.map fun T => { T with unread := T.unread.drop n }) = some T := h
    obtain ⟨T0, h0, rfl⟩ := Option.map_eq_some_iff.mp h'
    obtain ⟨a, b, c⟩ := hK.tk T0 h0
    exact ⟨⟨a.w, a.i, by have := a.u; show (T0.unread.drop n).length + T0.ahead.length ≤ _; rw [List.length_drop]; omega⟩, read_win b, fun d hd => c d (List.mem_of_mem_drop hd)⟩
theorem cut_Ok {K : Kv} (hK : K.Ok) : K.cut.1.Ok := by
  unfold Kv.cut
  split
  · exact hK
  · exact ok_end hK
theorem over_cut {K : Kv} (h : K.ending = "cut") : K.over = true ∧ K.stand = "cut" := by
  have e : K.stand = "cut" := by unfold Kv.stand; rw [if_pos (by rw [h]; decide), h]
  exact ⟨by unfold Kv.over; rw [e]; simp, e⟩
/-! an open talk that hears bytes -/
structure Opn (K : Kv) (h th f f2 : Int) (U : List D) : Prop where
  here : K.here = h
  there : K.there = th
  first : K.first = f
  ending : K.ending = ""
  fin : K.fin = false
  rested : K.rested = none
  other : K.other = some f2
  base : K.G.base = (f + 1) % 4294967296
  sent : K.G.sent = 0
  passed : K.G.passed = 1
  T : K.T = some ⟨(f2 + 1 + U.length) % 4294967296, 128, [], U, false⟩
theorem Opn.of {h th f t f2 t2 : Int} : Opn (K1 h th f t f2 t2) h th f f2 [] :=
  ⟨rfl, rfl, rfl, rfl, rfl, rfl, rfl, rfl, rfl, rfl, by
    show some (T1 _) = _
    unfold T1
    simp⟩
theorem Opn.last {K : Kv} {h th f f2 t : Int} {U : List D} (o : Opn K h th f f2 U) : Opn { K with last := t } h th f f2 U :=
  ⟨o.here, o.there, o.first, o.ending, o.fin, o.rested, o.other, o.base, o.sent, o.passed, o.T⟩
theorem Opn.stand {K : Kv} {h th f f2 : Int} {U : List D} (o : Opn K h th f f2 U) : K.stand = "open" ∧ K.over = false ∧ K.op = true := by
  have e : K.stand = "open" := by
    unfold Kv.stand
    rw [o.ending, o.passed, o.rested, o.T, o.fin]
    simp
  exact ⟨e, by unfold Kv.over; rw [e]; simp, by unfold Kv.op; rw [o.passed]; rfl⟩
theorem Opn.isAns {K : Kv} {h th f f2 a : Int} {U : List D} (o : Opn K h th f f2 U) (ha : 0 ≤ a ∧ a < 4294967296) : K.isAns a = decide (a = (f + 1) % 4294967296) := by
  have op := o.stand.2.2
  unfold Kv.isAns Kv.next
  rw [o.first, o.passed, o.base, o.sent, op]
  by_cases q : a = (f + 1) % 4294967296
  · rw [decide_eq_true q, if_neg (by omega), Bool.true_or]
  · rw [decide_eq_false q, if_pos (by omega)]
theorem Opn.next {K : Kv} {h th f f2 : Int} {U : List D} (o : Opn K h th f f2 U) : K.next = (f + 1) % 4294967296 := by
  unfold Kv.next; rw [o.base, o.sent]; omega
theorem heardG_0 {G : Gv} {a room t : Int} (hb : 0 ≤ G.base ∧ G.base < 4294967296) (ha : a = G.base) (hs : G.sent = 0) : (G.heardG a room t).base = G.base ∧ (G.heardG a room t).sent = 0 ∧ (G.heardG a room t).passed = G.passed := by
  have e : (a - G.base) % 4294967296 = 0 := by rw [ha]; omega
  unfold Gv.heardG
  simp only [e, hs]
  rw [if_neg (by decide)]
  exact ⟨ha, rfl, by show G.passed + 0 = G.passed; omega⟩
/-- a segment of bytes in order -/
def sgD (h th w a : Int) (ds : List D) : Sg := ⟨h, th, fS "a", w, a, 128, ds⟩
theorem sgD_items {h th w a : Int} {ds : List D} : (sgD h th w a ds).items = ds := by
  have h111 : (sgD h th w a ds).has 111 = false := by show decide (111 ∈ (fS "a").cps.toList) = false; decide
  have h101 : (sgD h th w a ds).has 101 = false := by show decide (101 ∈ (fS "a").cps.toList) = false; decide
  unfold Sg.items
  rw [h111, h101]
  show [] ++ ds ++ [] = ds
  simp
theorem Opn.hear {K : Kv} {h th f f2 h2 th2 t : Int} {U ds : List D} (o : Opn K h th f f2 U) (hf : 0 ≤ f ∧ f < 4294967296) (hf2 : 0 ≤ f2 ∧ f2 < 4294967296) (hd : ∀ d ∈ ds, ∃ i, d = .int i) (hl : U.length + ds.length ≤ 128) :
    Opn (K.heard (sgD h2 th2 ((f2 + 1 + U.length) % 4294967296) ((f + 1) % 4294967296) ds) t).1 h th f f2 (U ++ ds) ∧ (K.heard (sgD h2 th2 ((f2 + 1 + U.length) % 4294967296) ((f + 1) % 4294967296) ds) t).1.last = t := by
  obtain ⟨S, hS⟩ : ∃ S, S = sgD h2 th2 ((f2 + 1 + U.length) % 4294967296) ((f + 1) % 4294967296) ds := ⟨_, rfl⟩
  have h97 : S.has 97 = true := by rw [hS]; show decide (97 ∈ (fS "a").cps.toList) = true; decide
  have h99 : S.has 99 = false := by rw [hS]; show decide (99 ∈ (fS "a").cps.toList) = false; decide
  have hit : S.items = ds := by rw [hS]; exact sgD_items
  have sn : S.number = (f2 + 1 + U.length) % 4294967296 := by rw [hS]; rfl
  have sa : S.answer = (f + 1) % 4294967296 := by rw [hS]; rfl
  rw [← hS]
  have o' := o.last (t := t)
  have e : (K.heard S t) = Kv.counted { K with last := t } S t := by
    unfold Kv.heard Kv.hear1 Kv.hear2 Kv.hear3
    rw [o'.stand.2.1, if_neg (by decide), if_neg (by rw [sa, o'.isAns (by omega), h97]; simp), h99, if_neg (by decide)]
    simp only [o.T]
  rw [e]
  have hdi : ∀ d ∈ ds, isI d = true := fun d hx => by obtain ⟨i, rfl⟩ := hd d hx; rfl
  have hno : hdO ds = false := by
    cases ds with
    | nil => rfl
    | cons d l =>
      obtain ⟨i, rfl⟩ := hd d List.mem_cons_self
      rfl
  have et : Tv.takeI ⟨(f2 + 1 + U.length) % 4294967296, 128, [], U, false⟩ S.number S.items = ⟨(f2 + 1 + (U ++ ds).length) % 4294967296, 128, [], U ++ ds, false⟩ := by
    unfold Tv.takeI
    rw [hit, hno, if_neg (by decide), sn]
    have := take_run (T := ⟨(f2 + 1 + U.length) % 4294967296, 128, [], U, false⟩) (ds := ds) (by show 0 ≤ (f2 + 1 + (U.length : Int)) % 4294967296 ∧ (f2 + 1 + (U.length : Int)) % 4294967296 < 4294967296; omega) rfl rfl (by show (ds.length : Int) ≤ 128 - (U.length : Int); omega) hdi (by omega)
    simp only at this
    rw [this]
    have e2 : ((f2 + 1 + (U.length : Int)) % 4294967296 + (ds.length : Int)) % 4294967296 = (f2 + 1 + ((U ++ ds).length : Int)) % 4294967296 := by rw [List.length_append]; push_cast; omega
    rw [e2]
  obtain ⟨g1, g2, g3⟩ := heardG_0 (G := K.G) (a := S.answer) (room := S.room) (t := t) (by rw [o.base]; omega) (by rw [sa, o.base]) o.sent
  have eck : Kv.ck1 { K with last := t } S t = { K with last := t, G := K.G.heardG S.answer S.room t, T := some ⟨(f2 + 1 + (U ++ ds).length) % 4294967296, 128, [], U ++ ds, false⟩ } := by
    unfold Kv.ck1
    rw [h97]
    simp only [if_true, o.T, Option.map, et]
  show Opn ((Kv.ck1 { K with last := t } S t).ck2 t) h th f f2 (U ++ ds) ∧ ((Kv.ck1 { K with last := t } S t).ck2 t).last = t
  rw [eck]
  have nr : Kv.resting { K with last := t, G := K.G.heardG S.answer S.room t, T := some ⟨(f2 + 1 + (U ++ ds).length) % 4294967296, 128, [], U ++ ds, false⟩ } = false := by
    unfold Kv.resting
    simp [o.fin]
  unfold Kv.ck2
  rw [nr, if_neg (by decide)]
  exact ⟨⟨o.here, o.there, o.first, o.ending, o.fin, o.rested, o.other, by show (K.G.heardG _ _ _).base = _; rw [g1, o.base], g2, by show (K.G.heardG _ _ _).passed = _; rw [g3, o.passed], rfl⟩, rfl⟩

/-! segments without bytes; odds and ends -/
def sgC (h th : Int) (z : String) (w a r : Int) : Sg := ⟨h, th, fS z, w, a, r, []⟩
theorem sgC_Ok {h th w a r : Int} {z : String} (hz : fS z = mkOf (fS z)) (hh : 0 ≤ h ∧ h ≤ 255) (ht : 0 ≤ th ∧ th ≤ 255) (hw : 0 ≤ w ∧ w < 4294967296) (ha : 0 ≤ a ∧ a < 4294967296) (hr : 0 ≤ r ∧ r ≤ 128) : (sgC h th z w a r).Ok :=
  ⟨hh, ht, hz, ⟨hw.1, by show w ≤ 4294967295; omega⟩, ⟨ha.1, by show a ≤ 4294967295; omega⟩, hr, ⟨[], rfl, by simp⟩, by show 0 ≤ 200; decide⟩
theorem IsL.nil_get {A : Hs} {r : Nat} (h : IsL A r []) : A[r]? = some (.lst []) := by
  obtain ⟨ps, a, b, _⟩ := h
  have : ps = [] := List.length_eq_zero_iff.mp (by simpa using b)
  rw [a, this]; rfl
theorem due_over {K : Kv} {t : Int} (h : K.ending = "cut") : K.due t = ({ K with last := t }, []) := by
  unfold Kv.due
  rw [if_pos (over_cut (K := { K with last := t }) h).1]
theorem Rk.true {r : RE D} (h : Rk r fun v _ => v = .bl true) : ∃ A, r = .ok (.bl true) A := by
  obtain ⟨v, A1, e, rfl⟩ := h.ex
  exact ⟨A1, e⟩
def NxR (e : Sl) (Q : Hs → Prop) : RS → Prop
  | .nx e1 A1 => e1 = e ∧ Q A1
  | _ => False
theorem NxR.ex {e : Sl} {Q : Hs → Prop} {r : RS} (h : NxR e Q r) : ∃ A1, r = .nx e A1 ∧ Q A1 := by
  cases r with
  | nx e1 A1 => exact ⟨A1, by rw [h.1], h.2⟩
  | _ => exact h.elim


def Kv.finish (K : Kv) : Kv := if K.over then K else { K with fin := true, G := K.G.finish }
theorem finish_Ok {K : Kv} (hK : K.Ok) : K.finish.Ok := by
  unfold Kv.finish
  split
  · exact hK
  · refine ⟨hK.h, hK.t, hK.f, ⟨hK.gk.base, hK.gk.most, hK.gk.fw, hK.gk.sent⟩, ?_, ?_, hK.gm, hK.now, hK.op, hK.tk⟩
    · have ko := hK.ko
      show KO (if K.G.fin then K.G.kept else K.G.kept ++ [dS "e"]) true
      cases q : K.G.fin with
      | true => rw [q] at ko; exact ko
      | false => rw [q] at ko; exact ko.finish
    · intro d hd
      have hd' : d ∈ (if K.G.fin then K.G.kept else K.G.kept ++ [dS "e"]) := hd
      split at hd'
      · exact hK.ki d hd'
      · rcases List.mem_append.mp hd' with x | x
        · exact hK.ki d x
        · rw [List.mem_singleton] at x
          exact .inr (.inr x)
section
variable {A : Hs} {t g k : Nat} {u : Option (Nat × Nat)} {K : Kv}
theorem tfinish_ok (h : IsK A t g k u K) (hK : K.Ok) : Rk (F_Talk_finish [.ref t] A) fun v A1 => v = .non ∧ IsK A1 t g k u K.finish ∧ Fr (fpK t g k u) A A1 := by
  have o := h.o
  have eo := is_over_ok h hK.op
  have hl := hK.ko.len
  unfold F_Talk_finish Kv.finish
  cases q : K.over with
  | true =>
    rw [q] at eo
    simp_arith [o, Kv.fs, eo]
    exact ⟨h, .refl⟩
  | false =>
    rw [q] at eo
    have h1 : IsK (A.set t (.obj "Talk" (({ K with fin := true } : Kv).fs g u))) t g k u { K with fin := true } := h.setO rfl rfl
    obtain ⟨_, A2, e2, rfl, g2, f2⟩ := (finish_ok h1.ig (by show K.G.kept.length ≤ 100000; omega)).ex
    have h2 := h1.upG (f2) g2
    have o1 := h1.o
    have og := h1.ig.o
    have e2' : F_Giver_finish [.ref g] (A.set t (.obj "Talk" (({ K with fin := true } : Kv).fs g u))) = .ok .non A2 := e2
    simp only [Kv.fs] at e2' og
    have tl := lt_of_get o
    simp_arith [o, Kv.fs, eo, og, Gv.fs, e2']
    exact ⟨h2, (Fr.set (by simp [fpK])).trans (f2.mono (by simp [fpK]))⟩
end

section
variable {A : Hs} {t g k : Nat} {u : Option (Nat × Nat)} {K : Kv}
end

/-! two talks beside one another, with places that are kept -/
/-- the kept places are as they were; segments stay -/
def Sm (Kp : List Nat) (A A1 : Hs) : Prop := A.length ≤ A1.length ∧ (∀ j ∈ Kp, A1[j]? = A[j]?) ∧ ∀ i S, IsS A i S → IsS A1 i S
theorem Sm.refl {Kp : List Nat} {A : Hs} : Sm Kp A A := ⟨Nat.le_refl _, fun _ _ => rfl, fun _ _ h => h⟩
theorem Sm.trans {Kp : List Nat} {A A1 A2 : Hs} (h : Sm Kp A A1) (k : Sm Kp A1 A2) : Sm Kp A A2 := ⟨Nat.le_trans h.1 k.1, fun j hj => (k.2.1 j hj).trans (h.2.1 j hj), fun i S s => k.2.2 i S (h.2.2 i S s)⟩
theorem Sm.sub {Kp Kq : List Nat} {A A1 : Hs} (h : Sm Kp A A1) (s : ∀ j ∈ Kq, j ∈ Kp) : Sm Kq A A1 := ⟨h.1, fun j hj => h.2.1 j (s j hj), h.2.2⟩
theorem Sm.tail {x : Nat} {Kp : List Nat} {A A1 : Hs} (h : Sm (x :: Kp) A A1) : Sm Kp A A1 := h.sub fun j hj => List.mem_cons_of_mem _ hj
theorem Sm.get {Kp : List Nat} {A A1 : Hs} {j : Nat} {u : O} (h : Sm Kp A A1) (g : A[j]? = some u) (hj : j ∈ Kp) : A1[j]? = some u := (h.2.1 j hj).trans g
theorem Sm.fr {Kp s : List Nat} {A A1 : Hs} (f : Fr s A A1) (hl : ∀ j ∈ Kp, j < A.length) (hs : ∀ j ∈ s, j ∉ Kp) (hg : ∀ i S, IsS A i S → i ∉ s) : Sm Kp A A1 := ⟨f.le, fun j hj => f.2 j (hl j hj) fun hh => hs j hh hj, fun i S h => f.get h (hg i S h)⟩
structure P2 (Kp : List Nat) (A : Hs) (t g k : Nat) (u : Option (Nat × Nat)) (K : Kv) (t' g' k' : Nat) (u' : Option (Nat × Nat)) (K' : Kv) : Prop where
  k1 : IsK A t g k u K
  o1 : K.Ok
  k2 : IsK A t' g' k' u' K'
  o2 : K'.Ok
  dj : Dj (fpK t g k u) (fpK t' g' k' u')
  kp : ∀ j ∈ Kp, j < A.length ∧ j ∉ fpK t g k u ∧ j ∉ fpK t' g' k' u'
section
variable {Kp : List Nat} {A A1 : Hs} {t g k t' g' k' : Nat} {u u' : Option (Nat × Nat)} {K K' : Kv} {tick : Int}
theorem P2.symm (h : P2 Kp A t g k u K t' g' k' u' K') : P2 Kp A t' g' k' u' K' t g k u K := ⟨h.k2, h.o2, h.k1, h.o1, h.dj.symm, fun j hj => ⟨(h.kp j hj).1, (h.kp j hj).2.2, (h.kp j hj).2.1⟩⟩
theorem P2.sub {Kq : List Nat} (h : P2 Kp A t g k u K t' g' k' u' K') (s : ∀ j ∈ Kq, j ∈ Kp) : P2 Kq A t g k u K t' g' k' u' K' := ⟨h.k1, h.o1, h.k2, h.o2, h.dj, fun j hj => h.kp j (s j hj)⟩
theorem P2.cons {x : Nat} (h : P2 Kp A t g k u K t' g' k' u' K') (h1 : x < A.length) (h2 : x ∉ fpK t g k u) (h3 : x ∉ fpK t' g' k' u') : P2 (x :: Kp) A t g k u K t' g' k' u' K' := ⟨h.k1, h.o1, h.k2, h.o2, h.dj, fun j hj => by
  rcases List.mem_cons.mp hj with e | e
  · subst e; exact ⟨h1, h2, h3⟩
  · exact h.kp j e⟩
theorem IsS.nfp {i : Nat} {S : Sg} (s : IsS A i S) (h : IsK A t g k u K) : i ∉ fpK t g k u := by
  intro hh
  unfold IsS at s
  rcases fpK_of i hh with y | y | y | y
  · rw [y, h.o] at s; simp at s
  · rw [y, h.ig.o] at s; simp at s
  · rw [y, h.ig.l] at s; cases s
  · cases u with
    | none => simp [fpU] at y
    | some u =>
      have hu := h.iu
      cases hT : K.T with
      | none => rw [hT] at hu; exact hu.elim
      | some T =>
        rw [hT] at hu
        simp only [fpU, List.mem_cons, List.not_mem_nil, or_false] at y
        rcases y with y | y
        · rw [y, IsT.o hu] at s; simp at s
        · rw [y, IsT.l hu] at s; cases s
theorem P2.seg {i : Nat} {S : Sg} (h : P2 Kp A t g k u K t' g' k' u' K') (s : IsS A i S) : P2 (i :: Kp) A t g k u K t' g' k' u' K' := h.cons (lt_of_get s) (s.nfp h.k1) (s.nfp h.k2)
/-- nothing but new things -/
theorem P2.up (h : P2 Kp A t g k u K t' g' k' u' K') (f : Fr [] A A1) : P2 Kp A1 t g k u K t' g' k' u' K' ∧ Sm Kp A A1 :=
  ⟨⟨h.k1.up0 f, h.o1, h.k2.up0 f, h.o2, h.dj, fun j hj => ⟨Nat.lt_of_lt_of_le (h.kp j hj).1 f.le, (h.kp j hj).2⟩⟩, .fr f (fun j hj => (h.kp j hj).1) (by simp) (by simp)⟩
/-- a draw -/
theorem P2.drawn {i : Nat} (h : P2 (i :: Kp) A t g k u K t' g' k' u' K') (hi : i ∉ Kp) (d : Drw A i) (f : Fr [i] A A1) : P2 (i :: Kp) A1 t g k u K t' g' k' u' K' ∧ Sm Kp A A1 := by
  obtain ⟨a, b, c⟩ := h.kp i List.mem_cons_self
  refine ⟨⟨h.k1.frame f fun j hj hh => ?_, h.o1, h.k2.frame f fun j hj hh => ?_, h.o2, h.dj, fun j hj => ⟨Nat.lt_of_lt_of_le (h.kp j hj).1 f.le, (h.kp j hj).2⟩⟩, .fr f (fun j hj => (h.kp j (List.mem_cons_of_mem _ hj)).1) (fun j hj hh => ?_) fun j S s hh => ?_⟩
  · rw [List.mem_singleton] at hh; subst hh; exact b hj
  · rw [List.mem_singleton] at hh; subst hh; exact c hj
  · rw [List.mem_singleton] at hj; subst hj; exact hi hh
  · rw [List.mem_singleton] at hh
    subst hh
    obtain ⟨a, b, c, d⟩ := d
    unfold IsS at s
    rw [d] at s; cases s
/-- the first one changes, where it stands, or beyond -/
theorem P2.chg {k1 : Nat} {u1 : Option (Nat × Nat)} {K1 : Kv} (h : P2 Kp A t g k u K t' g' k' u' K') (i1 : IsK A1 t g k1 u1 K1) (o1 : K1.Ok) (S : Sub A.length (fpK t g k u) (fpK t g k1 u1)) (f : Fr (fpK t g k u) A A1) : P2 Kp A1 t g k1 u1 K1 t' g' k' u' K' ∧ Sm Kp A A1 := by
  have lt := h.k1.lt
  have lt2 := h.k2.lt
  refine ⟨⟨i1, o1, h.k2.frame f fun j hj hh => h.dj j hh hj, h.o2, fun j hj hh => ?_, fun j hj => ⟨Nat.lt_of_lt_of_le (h.kp j hj).1 f.le, fun hh => ?_, (h.kp j hj).2.2⟩⟩, .fr f (fun j hj => (h.kp j hj).1) (fun j hj hh => (h.kp j hh).2.1 hj) fun i S s => s.nfp h.k1⟩
  · rcases S j hj with y | y
    · exact h.dj j y hh
    · have := lt2 j hh; omega
  · rcases S j hh with y | y
    · exact (h.kp j hj).2.1 y
    · have := (h.kp j hj).1; omega
theorem P2.due (h : P2 Kp A t g k u K t' g' k' u' K') (ht : K.last ≤ tick) : ∃ r A1, F_Talk_due [.ref t, .int tick] A = .ok (.ref r) A1 ∧ A.length ≤ r ∧ IsL A1 r (K.due tick).2 ∧ P2 (r :: Kp) A1 t g k u (K.due tick).1 t' g' k' u' K' ∧ Sm Kp A A1 := by
  obtain ⟨_, A1, e, r, rfl, hr, l, i1, f⟩ := (tdue_ok (tick := tick) h.k1 h.o1 ht).ex
  have f' : Fr (fpK t g k u) A A1 := f.mono fun j hj => by
    simp only [List.mem_cons, List.not_mem_nil, or_false] at hj
    rcases hj with rfl | rfl <;> simp [fpK]
  obtain ⟨p, s⟩ := h.chg i1 (due_Kok h.o1 ht).1 .refl f'
  have rl : r < A1.length := by obtain ⟨ps, a, _⟩ := l; exact lt_of_get a
  refine ⟨r, A1, e, hr, l, p.cons rl (fun hh => ?_) (fun hh => ?_), s⟩
  · have := h.k1.lt r hh; omega
  · have := h.k2.lt r hh; omega
theorem P2.heard {i : Nat} {S : Sg} (h : P2 Kp A t g k u K t' g' k' u' K') (s : IsS A i S) (hS : S.Ok) (ht : K.last ≤ tick) : ∃ r k1 u1 A1, F_Talk_heard [.ref t, .ref i, .int tick] A = .ok (.ref r) A1 ∧ A.length ≤ r ∧ IsL A1 r (K.heard S tick).2 ∧ P2 (r :: Kp) A1 t g k1 u1 (K.heard S tick).1 t' g' k' u' K' ∧ Sm Kp A A1 := by
  obtain ⟨_, A1, e, r, k1, u1, rfl, hr, l, i1, S1, f, hn⟩ := (theard2 (tick := tick) h.k1 h.o1 s hS ht).ex
  obtain ⟨p, sm⟩ := h.chg i1 (heard_Kok h.o1 hS ht) S1 f
  have rl : r < A1.length := by obtain ⟨ps, a, _⟩ := l; exact lt_of_get a
  refine ⟨r, k1, u1, A1, e, hr, l, p.cons rl hn (fun hh => ?_), sm⟩
  have := h.k2.lt r hh; omega
/-- what is told of a list of segments, is it the due one? -/
theorem nil_ne {r : Nat} (l : IsL A r []) : oNe (.ref r) (.ref A.length) (A ++ [.lst []]) = .ok (.bl false) (A ++ [.lst []]) := oNe_lst (l := []) (get_push l.nil_get) z9e rfl
theorem nil_eq {r : Nat} (l : IsL A r []) : oEq (.ref r) (.ref A.length) (A ++ [.lst []]) = .ok (.bl true) (A ++ [.lst []]) := oEq_lst (l := []) (get_push l.nil_get) z9e rfl
end
/-! an open talk, by what counts of it -/
structure Sx (K : Kv) (h th f f2 p : Int) (l : List D) (s : Int) (fin : Bool) (w : Int) (U : List D) (ov : Bool) (rs : Option Int) (wt : Int) (si : Option Int) (tr : Int) : Prop where
  here : K.here = h
  there : K.there = th
  first : K.first = f
  ending : K.ending = ""
  kfin : K.fin = fin
  rested : K.rested = rs
  other : K.other = some f2
  base : K.G.base = (f + p) % 4294967296
  passed : K.G.passed = p
  sent : K.G.sent = s
  kept : K.G.kept = l
  wait : K.G.wait = wt
  since : K.G.since = si
  tried : K.G.tried = tr
  most : K.G.most = 32
  fw : K.G.fw = 4
  gfin : K.G.fin = fin
  reach : 64 ≤ K.G.reach
  pace : 32 ≤ K.G.pace
  T : K.T = some ⟨(f2 + w) % 4294967296, 128, [], U, ov⟩
  p0 : 0 < p
section
variable {K : Kv} {h th f f2 p s w wt tr t : Int} {l U : List D} {fin ov : Bool} {rs si : Option Int}
theorem Sx.of {h th f t f2 : Int} : Sx (K1 h th f t f2 t) h th f f2 1 [] 0 false 1 [] false none 4 none 0 :=
  ⟨rfl, rfl, rfl, rfl, rfl, rfl, rfl, rfl, rfl, rfl, rfl, rfl, rfl, rfl, rfl, rfl, rfl, by show (64 : Int) ≤ 128; decide, by show (32 : Int) ≤ 64; decide, rfl, by decide⟩
theorem Sx.last {t : Int} (o : Sx K h th f f2 p l s fin w U ov rs wt si tr) : Sx { K with last := t } h th f f2 p l s fin w U ov rs wt si tr :=
  ⟨o.here, o.there, o.first, o.ending, o.kfin, o.rested, o.other, o.base, o.passed, o.sent, o.kept, o.wait, o.since, o.tried, o.most, o.fw, o.gfin, o.reach, o.pace, o.T, o.p0⟩
theorem Sx.op (o : Sx K h th f f2 p l s fin w U ov rs wt si tr) : K.op = true := by unfold Kv.op; rw [o.passed]; exact decide_eq_true o.p0
def stOf (rs : Option Int) (last : Int) (ov fin : Bool) : String := match rs with
  | some r => if last - r < 120 then "rests" else "closed"
  | none => if ov then "left" else if fin then "ends" else "open"
theorem Sx.stand (o : Sx K h th f f2 p l s fin w U ov rs wt si tr) : K.stand = stOf rs K.last ov fin := by
  unfold Kv.stand stOf
  rw [o.ending, if_neg (by decide), o.passed, if_pos o.p0, o.rested, o.T, o.kfin]
  all_goals (cases rs <;> rfl)
theorem Sx.over (o : Sx K h th f f2 p l s fin w U ov rs wt si tr) (hr : ∀ r, rs = some r → K.last - r < 120) : K.over = false := by
  have e := o.stand
  unfold stOf at e
  unfold Kv.over
  cases rs with
  | some r => simp only [if_pos (hr r rfl)] at e; rw [e]; decide
  | none => cases ov <;> cases fin <;> simp only [if_true, if_false, Bool.false_eq_true] at e <;> rw [e] <;> decide
theorem Sx.next (o : Sx K h th f f2 p l s fin w U ov rs wt si tr) : K.next = (f + p + s) % 4294967296 := by
  unfold Kv.next; rw [o.base, o.sent]; omega
theorem Sx.isAns {j : Int} (o : Sx K h th f f2 p l s fin w U ov rs wt si tr) (hj : 0 ≤ j ∧ j ≤ s) (hs : s < 10000) : K.isAns ((f + p + j) % 4294967296) = true := by
  unfold Kv.isAns Kv.next
  rw [o.first, o.passed, o.base, o.sent, o.op, if_neg (by omega)]
  rfl
theorem Sx.nx (o : Sx K h th f f2 p l s fin w U ov rs wt si tr) : K.wants = ((f2 + w) % 4294967296, 128 - (U.length : Int)) := by
  unfold Kv.wants; rw [o.T]
/-- a segment of an open talk -/
def sgX (h th : Int) (z : String) (n a r : Int) (ds : List D) : Sg := ⟨h, th, fS z, n, a, r, ds⟩
def ans (h th f p s f2 w : Int) (U : List D) : Sg := sgX h th "a" ((f + p + s) % 4294967296) ((f2 + w) % 4294967296) (128 - (U.length : Int)) []
theorem Sx.mkA (o : Sx K h th f f2 p l s fin w U ov rs wt si tr) : K.mk' (fS "a") K.next [] = ans h th f p s f2 w U := by
  have e97 : 97 ∈ (fS "a").cps.toList ↔ True := by decide
  unfold Kv.mk'
  rw [if_pos (e97.mpr trivial), o.nx, o.next, o.here, o.there]
  rfl
/-- items in order, e too -/
def T5 (w : Int) (U : List D) (ov : Bool) : Tv := ⟨w, 128, [], U, ov⟩
theorem takeI_over {w n : Int} {U it : List D} : (T5 w U true).takeI n it = T5 w U true := by
  unfold Tv.takeI Tv.take
  split <;> rfl
theorem takeI_e {w : Int} {U : List D} (hw : 0 ≤ w ∧ w < 4294967296) (hU : U.length < 128) : (T5 w U false).takeI w [dS "e"] = T5 ((w + 1) % 4294967296) U true := by
  have e1 : isOO (dS "e") = false := by simp [isOO, dS, fS_inj]
  have e2 : isE (dS "e") = true := by simp [isE, dS]
  unfold Tv.takeI
  rw [if_neg (by simp [hdO, e1])]
  have ew : w % 4294967296 = w := by omega
  have hU' : (U.length : Int) < 128 := by omega
  simp [Tv.take, T5, Tv.puts, Tv.put1, Tv.drain, Tv.come, e2, ew, hU']
theorem takeI_ds {w : Int} {U ds : List D} (hw : 0 ≤ w ∧ w < 4294967296) (hd : ∀ d ∈ ds, ∃ i, d = .int i) (hl : U.length + ds.length ≤ 128) : (T5 w U false).takeI w ds = T5 ((w + ds.length) % 4294967296) (U ++ ds) false := by
  have hdi : ∀ d ∈ ds, isI d = true := fun d hx => by obtain ⟨i, rfl⟩ := hd d hx; rfl
  have hno : hdO ds = false := by
    cases ds with
    | nil => rfl
    | cons d l =>
      obtain ⟨i, rfl⟩ := hd d List.mem_cons_self
      rfl
  unfold Tv.takeI
  rw [hno, if_neg (by decide)]
  exact take_run (T := T5 w U false) (ds := ds) hw rfl rfl (by show (ds.length : Int) ≤ 128 - (U.length : Int); omega) hdi (by omega)
theorem Sx.hear {S : Sg} {j w' room : Int} {U' : List D} {ov' : Bool} (o : Sx K h th f f2 p l s fin w U ov rs wt si tr) (hs : 0 ≤ s ∧ s < 1000) (h97 : S.has 97 = true) (h99 : S.has 99 = false) (h113 : S.has 113 = false) (ha : S.answer = (f + p + j) % 4294967296) (hj : 0 ≤ j ∧ j ≤ s)
    (hT : (T5 ((f2 + w) % 4294967296) U ov).takeI S.number S.items = T5 ((f2 + w') % 4294967296) U' ov') (hr : 64 ≤ S.room) (ht : ∀ r, rs = some r → t - r < 120) :
    ∃ K1, K.heard S t = (K1, if S.items = [] then [] else [ans h th f (p + j) (s - j) f2 w' U']) ∧ Sx K1 h th f f2 (p + j) (l.drop j.toNat) (s - j) fin w' U' ov' (if rs = none ∧ fin = true ∧ ov' = true ∧ l.drop j.toNat = [] then some t else rs) (if 0 < j then 4 else wt) (if 0 < s - j then (if 0 < j then some t else (if si = none then some t else si)) else none) 0 ∧ K1.last = t ∧ (j = 0 → K1.G.pace = K.G.pace) := by
  have o' := o.last (t := t)
  have hov : Kv.over { K with last := t } = false := o'.over fun r hr => ht r hr
  have hia : Kv.isAns { K with last := t } S.answer = true := by rw [ha]; exact o'.isAns hj (by omega)
  have e3 : K.heard S t = Kv.counted { K with last := t } S t := by
    unfold Kv.heard Kv.hear1 Kv.hear2 Kv.hear3
    rw [hov, if_neg (by decide), hia, h97, if_neg (by decide), h99, if_neg (by decide)]
    split
    · rename_i q
      have := o.T.symm.trans q
      cases this
    · rfl
  have hm : (S.answer - K.G.base) % 4294967296 = j := by rw [ha, o.base]; omega
  obtain ⟨G1, hG1⟩ : ∃ G1, G1 = K.G.heardG S.answer S.room t := ⟨_, rfl⟩
  have hG : G1 = Gv.count { K.G with now := t, tried := 0, base := S.answer, kept := K.G.kept.drop j.toNat, sent := K.G.sent - j, passed := K.G.passed + j, reach := max (K.G.reach - j) S.room, wait := if 0 < j then K.G.fw else K.G.wait, since := if 0 < j then none else K.G.since, pace := if 0 < j then min 512 (K.G.pace + K.G.most) else K.G.pace } t := by
    rw [hG1]
    unfold Gv.heardG
    simp only [hm]
    rw [if_neg (by rw [o.sent]; omega)]
  have hct : Gv.counted { K.G with now := t, tried := 0, base := S.answer, kept := K.G.kept.drop j.toNat, sent := K.G.sent - j, passed := K.G.passed + j, reach := max (K.G.reach - j) S.room, wait := if 0 < j then K.G.fw else K.G.wait, since := if 0 < j then none else K.G.since, pace := if 0 < j then min 512 (K.G.pace + K.G.most) else K.G.pace } = decide (0 < s - j) := by
    unfold Gv.counted
    simp only
    rw [o.sent, decide_eq_false (by omega : ¬ max (K.G.reach - j) S.room = 0), Bool.and_false, Bool.or_false]
  have eck : Kv.ck1 { K with last := t } S t = { K with last := t, G := G1, T := some (T5 ((f2 + w') % 4294967296) U' ov') } := by
    unfold Kv.ck1
    rw [h97, if_pos rfl]
    show { K with last := t, G := K.G.heardG S.answer S.room t, T := K.T.map fun T : Tv => T.takeI S.number S.items } = _
    rw [← hG1, o.T]
    show { K with last := t, G := G1, T := some ((T5 ((f2 + w) % 4294967296) U ov).takeI S.number S.items) } = _
    rw [hT]
  have g_kept : G1.kept = l.drop j.toNat := by rw [hG]; show K.G.kept.drop j.toNat = _; rw [o.kept]
  obtain ⟨K1, hK1⟩ : ∃ K1, K1 = Kv.ck2 { K with last := t, G := G1, T := some (T5 ((f2 + w') % 4294967296) U' ov') } t := ⟨_, rfl⟩
  have hres : Kv.resting { K with last := t, G := G1, T := some (T5 ((f2 + w') % 4294967296) U' ov') } = decide (rs = none ∧ fin = true ∧ ov' = true ∧ l.drop j.toNat = []) := by
    unfold Kv.resting
    simp only [o.rested, o.kfin, T5, g_kept]
    have e0 : ((l.drop j.toNat).length : Int) = 0 ↔ l.drop j.toNat = [] := by
      rw [← List.length_eq_zero_iff]; omega
    cases rs <;> cases fin <;> cases ov' <;> simp [e0, -List.length_drop]
  have hS1 : Sx K1 h th f f2 (p + j) (l.drop j.toNat) (s - j) fin w' U' ov' (if rs = none ∧ fin = true ∧ ov' = true ∧ l.drop j.toNat = [] then some t else rs) (if 0 < j then 4 else wt) (if 0 < s - j then (if 0 < j then some t else (if si = none then some t else si)) else none) 0 := by
    have hp := o.p0
    have hrest : K1.rested = (if rs = none ∧ fin = true ∧ ov' = true ∧ l.drop j.toNat = [] then some t else rs) := by
      rw [hK1]
      unfold Kv.ck2
      rw [hres]
      by_cases q : rs = none ∧ fin = true ∧ ov' = true ∧ l.drop j.toNat = []
      · rw [decide_eq_true q, if_pos rfl, if_pos q]
      · rw [decide_eq_false q, if_neg (by decide), if_neg q]; exact o.rested
    have hc2 : ∀ K : Kv, (K.ck2 t).here = K.here ∧ (K.ck2 t).there = K.there ∧ (K.ck2 t).first = K.first ∧ (K.ck2 t).ending = K.ending ∧ (K.ck2 t).fin = K.fin ∧ (K.ck2 t).other = K.other ∧ (K.ck2 t).G = K.G ∧ (K.ck2 t).T = K.T := by
      intro K; unfold Kv.ck2; split <;> exact ⟨rfl, rfl, rfl, rfl, rfl, rfl, rfl, rfl⟩
    obtain ⟨b1, b2, b3, b4, b5, b6, b7, b8⟩ := hc2 { K with last := t, G := G1, T := some (T5 ((f2 + w') % 4294967296) U' ov') }
    rw [← hK1] at b1 b2 b3 b4 b5 b6 b7 b8
    refine ⟨b1.trans o.here, b2.trans o.there, b3.trans o.first, b4.trans o.ending, b5.trans o.kfin, hrest, b6.trans o.other, ?_, ?_, ?_, ?_, ?_, ?_, ?_, ?_, ?_, ?_, ?_, ?_, b8, by omega⟩
    all_goals rw [b7]
    · rw [hG]; show S.answer = _; rw [ha]; omega
    · rw [hG]; show K.G.passed + j = _; rw [o.passed]
    · rw [hG]; show K.G.sent - j = _; rw [o.sent]
    · exact g_kept
    · rw [hG]; show (if 0 < j then K.G.fw else K.G.wait) = _; rw [o.fw, o.wait]
    · rw [hG]
      unfold Gv.count
      rw [hct]
      simp only [o.since]
      by_cases q : 0 < s - j
      · rw [decide_eq_true q, if_pos rfl, if_pos q]
        by_cases q2 : 0 < j
        · rw [if_pos q2, if_pos q2]; rfl
        · rw [if_neg q2, if_neg q2]
          cases si <;> rfl
      · rw [decide_eq_false q, if_neg (by decide), if_neg q]
    · rw [hG]; rfl
    · rw [hG]; exact o.most
    · rw [hG]; exact o.fw
    · rw [hG]; exact o.gfin
    · rw [hG]; show 64 ≤ max (K.G.reach - j) S.room; omega
    · rw [hG]; show 32 ≤ (if 0 < j then min 512 (K.G.pace + K.G.most) else K.G.pace)
      have := o.pace
      have := o.most
      split <;> omega
  refine ⟨K1, ?_, hS1, ?_, ?_⟩
  · rw [e3]
    unfold Kv.counted
    rw [eck, ← hK1]
    unfold Kv.ckL
    rw [h113]
    by_cases q : S.items = []
    · rw [if_neg (by rw [q]; simp), if_pos q]
    · rw [if_pos (.inl q), if_neg q, hS1.mkA]
  · rw [hK1]; unfold Kv.ck2; split <;> rfl
  · intro h0
    have : K1.G = G1 := by rw [hK1]; unfold Kv.ck2; split <;> rfl
    rw [this, hG, h0]
    show (if (0 : Int) < 0 then min 512 (K.G.pace + K.G.most) else K.G.pace) = _
    rw [if_neg (by decide)]
end

/-! what is due -/
def Gq (b wt s rc pc tr ps nw : Int) (si : Option Int) (fin : Bool) (l : List D) : Gv := ⟨b, 32, 4, wt, s, rc, pc, tr, ps, nw, si, fin, l⟩
def pcs (b : Int) (l : List D) : List (Int × List D) := (List.range (cnt 0 l.length 32)).map fun i : Nat => ((b + 32 * (i : Int)) % 4294967296, (l.drop (32 * i)).take 32)
section
variable {b wt s rc pc tr ps nw t : Int} {si : Option Int} {fin : Bool} {l : List D}
theorem Gq_due1 (h : 0 < rc) : (Gq b wt s rc pc tr ps nw si fin l).due1 t = Gq b wt s rc pc tr ps t (if 0 < s then (if si.isNone then some t else si) else none) fin l := by
  have hc : Gv.counted (Gq b wt s rc pc tr ps t si fin l) = decide (0 < s) := by
    unfold Gv.counted Gq
    simp only
    rw [decide_eq_false (by omega : ¬ rc = 0), Bool.and_false, Bool.or_false]
  unfold Gv.due1 Gv.count
  rw [show ({ Gq b wt s rc pc tr ps nw si fin l with now := t } : Gv) = Gq b wt s rc pc tr ps t si fin l from rfl, hc]
  by_cases q : 0 < s
  · rw [decide_eq_true q, if_pos rfl, if_pos q]; rfl
  · rw [decide_eq_false q, if_neg (by decide), if_neg q]; rfl
theorem Gq_count (h : 0 < rc) : (Gq b wt s rc pc tr ps nw si fin l).count t = Gq b wt s rc pc tr ps nw (if 0 < s then (if si.isNone then some t else si) else none) fin l := by
  have hc : Gv.counted (Gq b wt s rc pc tr ps nw si fin l) = decide (0 < s) := by
    unfold Gv.counted Gq
    simp only
    rw [decide_eq_false (by omega : ¬ rc = 0), Bool.and_false, Bool.or_false]
  unfold Gv.count
  rw [hc]
  by_cases q : 0 < s
  · rw [decide_eq_true q, if_pos rfl, if_pos q]; rfl
  · rw [decide_eq_false q, if_neg (by decide), if_neg q]; rfl
/-- nothing has gone: all goes, that there is -/
theorem Gq_new (h1 : 64 ≤ rc) (h2 : (l.length : Int) ≤ pc) (h3 : l.length ≤ 64) : (Gq b wt 0 rc pc tr ps nw si fin l).dueG t = Gq b wt l.length rc pc tr ps t (if l = [] then none else some t) fin l ∧ (Gq b wt 0 rc pc tr ps nw si fin l).dueP t = pcs b l := by
  have d1 := Gq_due1 (b := b) (wt := wt) (s := 0) (rc := rc) (pc := pc) (tr := tr) (ps := ps) (nw := nw) (t := t) (si := si) (fin := fin) (l := l) (by omega)
  rw [if_neg (by decide)] at d1
  have hl : Gv.late (Gq b wt 0 rc pc tr ps t none fin l) t = false := rfl
  have d2 : Gv.due2 (Gq b wt 0 rc pc tr ps nw si fin l) t = Gq b wt 0 rc pc tr ps t none fin l := by
    unfold Gv.due2 Gv.again; rw [d1, hl]; rfl
  have e1 : (Gq b wt 0 rc pc tr ps t none fin l).end_ = l.length := by show min (min (l.length : Int) rc) pc = l.length; omega
  have e2 : max (0 : Int) l.length = l.length := by omega
  constructor
  · unfold Gv.dueG Gv.due3
    rw [d2, e1]
    show Gv.count (Gq b wt (max 0 (l.length : Int)) rc pc tr ps t none fin l) t = _
    rw [e2, Gq_count (by omega)]
    cases l with
    | nil => rfl
    | cons d l =>
      have e3 : (0 : Int) < (d :: l).length := by rw [List.length_cons]; omega
      rw [if_pos e3, if_neg (by simp : ¬ (d :: l = []))]; rfl
  · unfold Gv.dueP Gv.againP
    rw [d2, d1, hl, if_neg (by decide), List.nil_append, e1]
    show chkPs l b 0 l.length 32 = _
    unfold chkPs pcs
    refine List.map_congr_left fun i hi => ?_
    have hi' := List.mem_range.mp hi
    have hc := (cnt_lt (s := 0) (e := (l.length : Int)) (c := 32) (i := i) (by decide)).mp hi'
    unfold chkP
    have a1 : (b + (0 + (i : Int) * 32)) % 4294967296 = (b + 32 * i) % 4294967296 := by congr 1; omega
    have a2 : (0 + (i : Int) * 32).toNat = 32 * i := by omega
    rw [a1, a2]
    congr 1
    rcases Int.le_total 32 ((l.length : Int) - (0 + (i : Int) * 32)) with q | q
    · have a3 : (0 + (i : Int) * 32 + min 32 ((l.length : Int) - (0 + (i : Int) * 32))).toNat - 32 * i = 32 := by omega
      rw [a3]
    · have a3 : (0 + (i : Int) * 32 + min 32 ((l.length : Int) - (0 + (i : Int) * 32))).toNat - 32 * i = l.length - 32 * i := by omega
      rw [a3, List.take_of_length_le (by rw [List.length_drop]; omega), List.take_of_length_le (by rw [List.length_drop]; omega)]
/-- the one item goes again -/
theorem Gq_again {si : Int} (h1 : 64 ≤ rc) (h2 : wt ≤ t - si) (hs : s = 1) (hl : l.length = 1) : (Gq b wt s rc pc tr ps nw (some si) fin l).dueG t = Gq b (min (2 * wt) 64) s rc 32 (tr + 1) ps t (some t) fin l ∧ (Gq b wt s rc pc tr ps nw (some si) fin l).dueP t = [(b, l)] := by
  subst hs
  have d1 := Gq_due1 (b := b) (wt := wt) (s := 1) (rc := rc) (pc := pc) (tr := tr) (ps := ps) (nw := nw) (t := t) (si := some si) (fin := fin) (l := l) (by omega)
  rw [if_pos (by decide)] at d1
  have d1' : (Gq b wt 1 rc pc tr ps nw (some si) fin l).due1 t = Gq b wt 1 rc pc tr ps t (some si) fin l := d1
  have hlt : Gv.late (Gq b wt 1 rc pc tr ps t (some si) fin l) t = true := decide_eq_true h2
  have d2 : Gv.due2 (Gq b wt 1 rc pc tr ps nw (some si) fin l) t = Gq b (min (2 * wt) 64) 1 rc 32 (tr + 1) ps t (some t) fin l := by
    unfold Gv.due2 Gv.again; rw [d1', hlt]; rfl
  have e1 : (Gq b (min (2 * wt) 64) 1 rc 32 (tr + 1) ps t (some t) fin l).end_ = 1 := by show min (min (l.length : Int) rc) 32 = 1; omega
  constructor
  · unfold Gv.dueG Gv.due3
    rw [d2, e1]
    show Gv.count (Gq b (min (2 * wt) 64) (max 1 1) rc 32 (tr + 1) ps t (some t) fin l) t = _
    rw [show max (1 : Int) 1 = 1 from rfl, Gq_count (by omega), if_pos (by decide)]
    rfl
  · unfold Gv.dueP Gv.againP
    rw [d2, d1', hlt, if_pos rfl, e1]
    have c0 : chkPs l b 1 1 32 = [] := by
      unfold chkPs
      rw [show cnt 1 1 32 = 0 by decide]; rfl
    show [(b, l.take (min 32 (1 : Int)).toNat)] ++ chkPs l b 1 1 32 = _
    rw [c0, List.take_of_length_le (by rw [hl]; decide)]
    rfl
end
section
variable {K : Kv} {h th f f2 p s w wt tr t : Int} {l U : List D} {fin ov : Bool} {rs si : Option Int}
theorem Sx.G (o : Sx K h th f f2 p l s fin w U ov rs wt si tr) : K.G = Gq ((f + p) % 4294967296) wt s K.G.reach K.G.pace tr p K.G.now si fin l := by
  obtain ⟨_, _, _, _, _, _, _, b1, b2, b3, b4, b5, b6, b7, b8, b9, b10, _, _, _, _⟩ := o
  unfold Gq
  rw [← b1, ← b2, ← b3, ← b4, ← b5, ← b6, ← b7, ← b8, ← b9, ← b10]
theorem Sx.due_by {G1 : Gv} {P : List (Int × List D)} {s' wt' tr' pc' : Int} {si' : Option Int} (o : Sx K h th f f2 p l s fin w U ov rs wt si tr) (hr : ∀ r, rs = some r → t - r < 120) (hd : K.G.dueG t = G1 ∧ K.G.dueP t = P) (hG : G1 = Gq ((f + p) % 4294967296) wt' s' K.G.reach pc' tr' p t si' fin l) (hp : 32 ≤ pc') (htr : tr' < 16) :
    ∃ K1, K.due t = (K1, P.map fun q => K.segOf q) ∧ Sx K1 h th f f2 p l s' fin w U ov rs wt' si' tr' ∧ K1.last = t ∧ K1.G.pace = pc' := by
  have o' := o.last (t := t)
  refine ⟨{ K with last := t, G := G1 }, ?_, ⟨o.here, o.there, o.first, o.ending, o.kfin, o.rested, o.other, ?_, ?_, ?_, ?_, ?_, ?_, ?_, ?_, ?_, ?_, ?_, ?_, o.T, o.p0⟩, rfl, by show G1.pace = _; rw [hG]; rfl⟩
  · unfold Kv.due
    rw [if_neg (by rw [o'.over fun r q => hr r q]; decide), hd.1, hd.2, if_neg (by rw [hG]; show ¬ 16 ≤ tr'; omega)]
    rfl
  all_goals subst hG
  · rfl
  · rfl
  · rfl
  · rfl
  · rfl
  · rfl
  · rfl
  · rfl
  · rfl
  · rfl
  · exact o.reach
  · exact hp
/-- the segment of some items -/
theorem Sx.segD (o : Sx K h th f f2 p l s fin w U ov rs wt si tr) {q : Int × List D} (hd : ∀ d ∈ q.2, ∃ i, d = .int i) (hn : q.2 ≠ []) : K.segOf q = sgX h th "a" q.1 ((f2 + w) % 4294967296) (128 - (U.length : Int)) q.2 := by
  have aE : q.2.any isE = false := List.any_eq_false.mpr fun d hx => by obtain ⟨i, rfl⟩ := hd d hx; simp [isE]
  have aO : q.2.any isOO = false := List.any_eq_false.mpr fun d hx => by obtain ⟨i, rfl⟩ := hd d hx; simp [isOO]
  have aI : q.2.filter isI = q.2 := List.filter_eq_self.mpr fun d hx => by obtain ⟨i, rfl⟩ := hd d hx; rfl
  have em : mrk true false false false = fS "a" := rfl
  have e97 : 97 ∈ (fS "a").cps.toList ↔ True := by decide
  unfold Kv.segOf
  rw [aE, aO, aI, decide_eq_false hn, o.T]
  show Kv.mk' K (mrk true false false false) q.1 q.2 = _
  rw [em]
  unfold Kv.mk'
  rw [if_pos (e97.mpr trivial), o.nx, o.here, o.there]
  rfl
theorem Sx.segE (o : Sx K h th f f2 p l s fin w U ov rs wt si tr) {b : Int} : K.segOf (b, [dS "e"]) = sgX h th "ae" b ((f2 + w) % 4294967296) (128 - (U.length : Int)) [] := by
  have aE : [dS "e"].any isE = true := by simp [isE, dS]
  have aO : [dS "e"].any isOO = false := by simp [isOO, dS, fS_inj]
  have aI : [dS "e"].filter isI = [] := by simp [isI, isE, dS]
  have em : mrk true true false false = fS "ae" := rfl
  have e97 : 97 ∈ (fS "ae").cps.toList ↔ True := by decide
  unfold Kv.segOf
  show Kv.mk' K (mrk K.T.isSome ([dS "e"].any isE) ([dS "e"].any isOO) (decide ([dS "e"] = []))) b ([dS "e"].filter isI) = _
  rw [aE, aO, aI, decide_eq_false (by simp), o.T]
  show Kv.mk' K (mrk true true false false) b [] = _
  rw [em]
  unfold Kv.mk'
  rw [if_pos (e97.mpr trivial), o.nx, o.here, o.there]
  rfl
theorem Sx.due0 (o : Sx K h th f f2 p [] 0 fin w U ov rs wt si tr) (hr : ∀ r, rs = some r → t - r < 120) (ht : tr < 16) : ∃ K1, K.due t = (K1, []) ∧ Sx K1 h th f f2 p [] 0 fin w U ov rs wt none tr ∧ K1.last = t ∧ K1.G.pace = K.G.pace := by
  have hp := o.pace
  have g := Gq_new (b := (f + p) % 4294967296) (wt := wt) (rc := K.G.reach) (pc := K.G.pace) (tr := tr) (ps := p) (nw := K.G.now) (t := t) (si := si) (fin := fin) (l := []) o.reach (by show (0 : Int) ≤ _; omega) (by decide)
  rw [← o.G] at g
  exact o.due_by hr g rfl hp ht
theorem Sx.dueE (o : Sx K h th f f2 p [dS "e"] 0 fin w U ov rs wt si tr) (hr : ∀ r, rs = some r → t - r < 120) (ht : tr < 16) : ∃ K1, K.due t = (K1, [sgX h th "ae" ((f + p) % 4294967296) ((f2 + w) % 4294967296) (128 - (U.length : Int)) []]) ∧ Sx K1 h th f f2 p [dS "e"] 1 fin w U ov rs wt (some t) tr ∧ K1.last = t := by
  have hp := o.pace
  have g := Gq_new (b := (f + p) % 4294967296) (wt := wt) (rc := K.G.reach) (pc := K.G.pace) (tr := tr) (ps := p) (nw := K.G.now) (t := t) (si := si) (fin := fin) (l := [dS "e"]) o.reach (by show (1 : Int) ≤ _; omega) (by show 1 ≤ 64; decide)
  rw [← o.G] at g
  obtain ⟨K1, a, b, c, _⟩ := o.due_by hr g rfl hp ht
  have e : pcs ((f + p) % 4294967296) [dS "e"] = [((f + p) % 4294967296, [dS "e"])] := by
    have : cnt 0 1 32 = 1 := by decide
    have e2 : ((f + p) % 4294967296 + 32 * ((0 : Nat) : Int)) % 4294967296 = (f + p) % 4294967296 := by omega
    unfold pcs
    rw [show (([dS "e"] : List D).length : Int) = 1 from rfl, this]
    show [(((f + p) % 4294967296 + 32 * ((0 : Nat) : Int)) % 4294967296, _)] = _
    rw [e2]; rfl
  rw [e] at a
  refine ⟨K1, ?_, b, c⟩
  rw [a, List.map_cons, List.map_nil, o.segE]
theorem Sx.againE {u : Int} (o : Sx K h th f f2 p [dS "e"] 1 fin w U ov rs wt (some u) tr) (hr : ∀ r, rs = some r → t - r < 120) (hu : wt ≤ t - u) (ht : tr < 15) : ∃ K1, K.due t = (K1, [sgX h th "ae" ((f + p) % 4294967296) ((f2 + w) % 4294967296) (128 - (U.length : Int)) []]) ∧ Sx K1 h th f f2 p [dS "e"] 1 fin w U ov rs (min (2 * wt) 64) (some t) (tr + 1) ∧ K1.last = t := by
  have g := Gq_again (b := (f + p) % 4294967296) (wt := wt) (s := 1) (rc := K.G.reach) (pc := K.G.pace) (tr := tr) (ps := p) (nw := K.G.now) (t := t) (si := u) (fin := fin) (l := [dS "e"]) o.reach hu rfl rfl
  rw [← o.G] at g
  obtain ⟨K1, a, b, c, _⟩ := o.due_by hr g rfl (by decide) (by omega)
  refine ⟨K1, ?_, b, c⟩
  rw [a, List.map_cons, List.map_nil, o.segE]
theorem Sx.dueD (o : Sx K h th f f2 p l 0 fin w U ov rs wt si tr) (hr : ∀ r, rs = some r → t - r < 120) (ht : tr < 16) (hl : l.length ≤ 64) (hp : 64 ≤ K.G.pace) (hd : ∀ d ∈ l, ∃ i, d = .int i) : ∃ K1, K.due t = (K1, (pcs ((f + p) % 4294967296) l).map fun q => sgX h th "a" q.1 ((f2 + w) % 4294967296) (128 - (U.length : Int)) q.2) ∧ Sx K1 h th f f2 p l l.length fin w U ov rs wt (if l = [] then none else some t) tr ∧ K1.last = t := by
  have g := Gq_new (b := (f + p) % 4294967296) (wt := wt) (rc := K.G.reach) (pc := K.G.pace) (tr := tr) (ps := p) (nw := K.G.now) (t := t) (si := si) (fin := fin) (l := l) o.reach (by omega) hl
  rw [← o.G] at g
  obtain ⟨K1, a, b, c, _⟩ := o.due_by hr g rfl (by omega) ht
  refine ⟨K1, ?_, b, c⟩
  rw [a]
  refine Prod.ext rfl (List.map_congr_left fun q hq => ?_)
  unfold pcs at hq
  obtain ⟨i, hi, rfl⟩ := List.mem_map.mp hq
  have hi' := List.mem_range.mp hi
  have hc := (cnt_lt (s := 0) (e := (l.length : Int)) (c := 32) (i := i) (by decide)).mp hi'
  refine o.segD (fun d hx => hd d (List.mem_of_mem_drop (List.mem_of_mem_take hx))) fun e => ?_
  have := congrArg List.length e
  rw [List.length_take, List.length_drop] at this
  simp only [List.length_nil] at this
  omega
end

/-! what one tells comes to the other, the answers back -/
theorem hear_last_eq {K : Kv} {S : Sg} {t : Int} : (K.heard S t).1.last = t := by
  have c2 : ∀ K : Kv, (K.ck2 t).last = K.last := fun K => by unfold Kv.ck2; split <;> rfl
  have c1 : ∀ K : Kv, (K.ck1 S t).last = K.last := fun K => by unfold Kv.ck1; split <;> rfl
  unfold Kv.heard Kv.hear1 Kv.hear2 Kv.hear3 Kv.counted
  split
  · rfl
  · split
    · rfl
    · split
      · simp only; split <;> rfl
      · split
        · split
          · simp only [c2, c1]; rfl
          · rfl
        · simp only [c2, c1]
theorem heard_sOk {K : Kv} {S : Sg} {tick : Int} (hK : K.Ok) (hS : S.Ok) (ht : K.last ≤ tick) : ∀ R ∈ (K.heard S tick).2, R.Ok := by
  have n1 : ∀ K : Kv, 0 ≤ K.next ∧ K.next < 4294967296 := fun K => by unfold Kv.next; omega
  have mz : fS "c" = mkOf (fS "c") := by decide
  have ma : fS "a" = mkOf (fS "a") := by decide
  have d0 : ∃ ds : List Int, ([] : List D) = ds.map D.int ∧ ∀ b ∈ ds, 0 ≤ b ∧ b ≤ 255 := ⟨[], rfl, by simp⟩
  have cnt : ∀ K0 : Kv, (K0.counted S tick).1.Ok → ∀ R ∈ (K0.counted S tick).2, R.Ok := by
    intro K0 hk R hR
    unfold Kv.counted Kv.ckL at hR
    simp only at hR
    split at hR
    · rw [List.mem_singleton] at hR
      rw [hR]
      exact mk_Ok hk ma (n1 _) d0 (by simp)
    · cases hR
  have hk := heard_Kok hK hS ht
  intro R hR
  have han := hS.a
  unfold Kv.heard Kv.hear1 at hR hk
  split at hR
  · cases hR
  · rename_i q1
    rw [if_neg q1] at hk
    split at hR
    · simp only at hR
      split at hR
      · cases hR
      · rw [List.mem_singleton] at hR
        rw [hR]
        exact mk_Ok (ok_last hK ht) mz ⟨han.1, by omega⟩ d0 (by simp)
    · rename_i q2
      rw [if_neg q2] at hk
      unfold Kv.hear2 at hR hk
      split at hR
      · cases hR
      · rename_i q3
        rw [if_neg q3] at hk
        obtain ⟨K0, hK0⟩ : ∃ K0 : Kv, K0 = { K with last := tick } := ⟨_, rfl⟩
        rw [← hK0] at hR hk
        unfold Kv.hear3 at hR hk
        cases q4 : K0.T with
        | none =>
          simp only [q4] at hR hk
          split at hR
          · rename_i q5
            rw [if_pos q5] at hk
            exact cnt _ hk R hR
          · cases hR
        | some T =>
          simp only [q4] at hR hk
          exact cnt _ hk R hR
def hstep (t lost : Int) (x : Kv × Int) (R : Sg) : Kv × Int := if x.2 < lost then (x.1, x.2 + 1) else ((x.1.heard R t).1, x.2)
def bstep (t lost : Int) (x : Kv × Kv × Int) (S : Sg) : Kv × Kv × Int := ((((x.2.1.heard S t).2).foldl (hstep t lost) (x.1, x.2.2)).1, (x.2.1.heard S t).1, (((x.2.1.heard S t).2).foldl (hstep t lost) (x.1, x.2.2)).2)
theorem take_foldl {α β : Type} (f : β → α → β) (x : β) {l : List α} {j : Nat} {d : α} (h : l[j]? = some d) : (l.take (j + 1)).foldl f x = f ((l.take j).foldl f x) d := by
  rw [List.take_succ, h, List.foldl_append]; rfl
noncomputable def brI : S := (sFor (wSeq (eMeth "heard" [("Talk", F_Talk_heard)] (eOp oIx (eVar 0) (eOp oSub (eC (.int 1)) (eVar 1))) (aCons (eVar 5) (aCons (eVar 2) aNil)))) (gN 6) (sIf (tOf (eOp oLt (eVar 4) (eVar 3))) (sAug 4 oIAdd (eC (.int 1))) (sDrop (eMeth "heard" [("Talk", F_Talk_heard)] (eOp oIx (eVar 0) (eVar 1)) (aCons (eVar 6) (aCons (eVar 2) aNil))))))
theorem brought_eq : F_l_brought = mkFn 4 7 (sSeq (sSet 4 (eC (.int 0))) (sSeq (sFor (wSeq (eMeth "due" [("Talk", F_Talk_due)] (eOp oIx (eVar 0) (eVar 1)) (aCons (eVar 2) aNil))) (gN 5) brI) (sRet (eVar 4)))) := rfl
section
variable {Kp : List Nat} {A A1 : Hs} {t g k t' g' k' tl : Nat} {u u' : Option (Nat × Nat)} {K K' : Kv} {tick lost m : Int} {e : Nat} {x0 x1 : Nat}
/-- the inner loop -/
theorem brI_ok {i : Nat} {S : Sg} {o : Option D} (q : P2 Kp A t g k u K t' g' k' u' K') (htl : tl ∈ Kp) (ht : A[tl]? = some (.lst [.ref x0, .ref x1])) (hx : (e = 0 ∧ x0 = t ∧ x1 = t') ∨ (e = 1 ∧ x0 = t' ∧ x1 = t)) (s : IsS A i S) (hS : S.Ok) (l1 : K.last ≤ tick) (l2 : K'.last ≤ tick) :
    Nx (brI [some (.ref tl), some (.int e), some (.int tick), some (.int lost), some (.int m), some (.ref i), o] A) fun env A1 => (∃ o', env = [some (.ref tl), some (.int e), some (.int tick), some (.int lost), some (.int (bstep tick lost (K, K', m) S).2.2), some (.ref i), o']) ∧ (bstep tick lost (K, K', m) S).1.last ≤ tick ∧ ∃ k1 u1 k2 u2, P2 Kp A1 t g k1 u1 (bstep tick lost (K, K', m) S).1 t' g' k2 u2 (bstep tick lost (K, K', m) S).2.1 ∧ Sm Kp A A1 := by
  have o2 := q.k2.o
  have a1 : atI [D.ref x0, .ref x1] (1 - (e : Int)) = some (.ref t') := by
    rcases hx with ⟨rfl, rfl, rfl⟩ | ⟨rfl, rfl, rfl⟩ <;> rfl
  have a0 : atI [D.ref x0, .ref x1] (e : Int) = some (.ref t) := by
    rcases hx with ⟨rfl, rfl, rfl⟩ | ⟨rfl, rfl, rfl⟩ <;> rfl
  obtain ⟨r2, k2, u2, A2, e2, _, l2', q2, m2⟩ := q.symm.heard (tick := tick) s hS l2
  have hsO := heard_sOk (K := K') (S := S) (tick := tick) q.o2 hS l2
  obtain ⟨R, hR⟩ : ∃ R, R = (K'.heard S tick).2 := ⟨_, rfl⟩
  obtain ⟨K2, hK2⟩ : ∃ K2, K2 = (K'.heard S tick).1 := ⟨_, rfl⟩
  have eb : bstep tick lost (K, K', m) S = ((R.foldl (hstep tick lost) (K, m)).1, K2, (R.foldl (hstep tick lost) (K, m)).2) := by
    unfold bstep; simp only [← hR, ← hK2]
  rw [eb]
  rw [← hR] at l2' hsO
  rw [← hK2] at q2
  obtain ⟨ps, gp, hpl, hps⟩ := l2'
  have key : Nx (forL (gN 6) (sIf (tOf (eOp oLt (eVar 4) (eVar 3))) (sAug 4 oIAdd (eC (.int 1))) (sDrop (eMeth "heard" [("Talk", F_Talk_heard)] (eOp oIx (eVar 0) (eVar 1)) (aCons (eVar 6) (aCons (eVar 2) aNil))))) (fun A' => A'[r2]? = some (.lst (ps.map D.ref))) (ps.map D.ref) [some (.ref tl), some (.int e), some (.int tick), some (.int lost), some (.int m), some (.ref i), o] A2) fun env A1 => (∃ o', env = [some (.ref tl), some (.int e), some (.int tick), some (.int lost), some (.int (R.foldl (hstep tick lost) (K, m)).2), some (.ref i), o']) ∧ (R.foldl (hstep tick lost) (K, m)).1.last ≤ tick ∧ ∃ k1 u1 k2 u2, P2 Kp A1 t g k1 u1 (R.foldl (hstep tick lost) (K, m)).1 t' g' k2 u2 K2 ∧ Sm Kp A A1 := by
    have hlR : (ps.map D.ref).length = R.length := by rw [List.length_map]; exact hpl
    refine for_go (R := fun rs => Nx rs _) (fun j env B => (∃ o', env = [some (.ref tl), some (.int e), some (.int tick), some (.int lost), some (.int ((R.take j).foldl (hstep tick lost) (K, m)).2), some (.ref i), o']) ∧ ((R.take j).foldl (hstep tick lost) (K, m)).1.last ≤ tick ∧ (∃ k1 u1, P2 (r2 :: Kp) B t g k1 u1 ((R.take j).foldl (hstep tick lost) (K, m)).1 t' g' k2 u2 K2) ∧ Sm (r2 :: Kp) A2 B) ⟨⟨o, rfl⟩, l1, ⟨k, u, q2.symm⟩, .refl⟩ (fun j env B _ ⟨_, _, _, s⟩ => s.get gp (by simp)) ?_ ?_
    · rintro j _ B d hd ⟨⟨o', rfl⟩, lB, ⟨k1, u1, qB⟩, sB⟩
      have hj := lt_of_get hd
      rw [List.length_map] at hj
      rw [List.getElem?_map, List.getElem?_eq_getElem hj] at hd
      cases hd
      obtain ⟨Sj, hSj⟩ : ∃ Sj, R[j]? = some Sj := ⟨_, List.getElem?_eq_getElem (by omega)⟩
      have sj := sB.2.2 _ _ (hps j ps[j] Sj (List.getElem?_eq_getElem hj) hSj)
      have st := take_foldl (hstep tick lost) (K, m) hSj
      obtain ⟨x, hx'⟩ : ∃ x, x = (R.take j).foldl (hstep tick lost) (K, m) := ⟨_, rfl⟩
      rw [← hx'] at st lB qB
      rw [← hx', st]
      unfold hstep
      by_cases c : x.2 < lost
      · rw [if_pos c]
        simp_arith [c]
        exact ⟨⟨_, rfl⟩, lB, ⟨k1, u1, qB⟩, sB⟩
      · rw [if_neg c]
        obtain ⟨r3, k3, u3, B3, e3, _, _, q3, m3⟩ := qB.heard (tick := tick) sj (hsO Sj (List.mem_of_getElem? hSj)) lB
        have oB := qB.k1.o
        have gB := (m2.trans (sB.tail)).get ht htl
        simp_arith [c, gB, a0, oB, Kv.fs, e3, -z5o]
        exact ⟨⟨_, rfl⟩, by rw [hear_last_eq]; exact Int.le_refl _, ⟨k3, u3, q3.sub fun j hj => List.mem_cons_of_mem _ hj⟩, sB.trans m3⟩
    · rintro _ B ⟨⟨o', rfl⟩, lB, ⟨k1, u1, qB⟩, sB⟩
      rw [hlR] at lB qB
      rw [hlR, List.take_length] 
      rw [List.take_length] at lB qB
      exact ⟨⟨_, rfl⟩, lB, k1, u1, k2, u2, qB.sub fun j hj => List.mem_cons_of_mem _ hj, m2.trans sB.tail⟩
  unfold brI
  simp_arith [ht, a1, o2, Kv.fs, e2, gp, -z5o]
  exact key
theorem brought_ok (q : P2 Kp A t g k u K t' g' k' u' K') (htl : tl ∈ Kp) (ht : A[tl]? = some (.lst [.ref x0, .ref x1])) (hx : (e = 0 ∧ x0 = t ∧ x1 = t') ∨ (e = 1 ∧ x0 = t' ∧ x1 = t)) (l1 : K.last ≤ tick) (l2 : K'.last ≤ tick) :
    Rk (F_l_brought [.ref tl, .int e, .int tick, .int lost] A) fun v A1 => v = .int ((K.due tick).2.foldl (bstep tick lost) ((K.due tick).1, K', 0)).2.2 ∧ ∃ k1 u1 k2 u2, P2 Kp A1 t g k1 u1 ((K.due tick).2.foldl (bstep tick lost) ((K.due tick).1, K', 0)).1 t' g' k2 u2 ((K.due tick).2.foldl (bstep tick lost) ((K.due tick).1, K', 0)).2.1 ∧ Sm Kp A A1 := by
  have o1 := q.k1.o
  have a0 : atI [D.ref x0, .ref x1] (e : Int) = some (.ref t) := by
    rcases hx with ⟨rfl, rfl, rfl⟩ | ⟨rfl, rfl, rfl⟩ <;> rfl
  obtain ⟨r2, A2, e2, _, l2', q2, m2⟩ := q.due (tick := tick) l1
  have hsO := (due_Kok (t := tick) q.o1 l1).2
  have hll : (K.due tick).1.last = tick := by
    unfold Kv.due
    split
    · rfl
    · split <;> rfl
  obtain ⟨L, hL⟩ : ∃ L, L = (K.due tick).2 := ⟨_, rfl⟩
  obtain ⟨Kd, hKd⟩ : ∃ Kd, Kd = (K.due tick).1 := ⟨_, rfl⟩
  rw [← hL, ← hKd]
  rw [← hL] at l2' hsO
  rw [← hKd] at q2 hll
  obtain ⟨ps, gp, hpl, hps⟩ := l2'
  have hlR : (ps.map D.ref).length = L.length := by rw [List.length_map]; exact hpl
  rw [brought_eq]
  simp_arith [ht, a0, o1, Kv.fs, e2, gp, -z5o]
  refine for_go (R := fun rs => Rk (finR (seqR rs _)) _) (fun j env B => (∃ o1 o2, env = [some (.ref tl), some (.int e), some (.int tick), some (.int lost), some (.int ((L.take j).foldl (bstep tick lost) (Kd, K', 0)).2.2), o1, o2]) ∧ ((L.take j).foldl (bstep tick lost) (Kd, K', 0)).1.last ≤ tick ∧ ((L.take j).foldl (bstep tick lost) (Kd, K', 0)).2.1.last ≤ tick ∧ (∃ k1 u1 k2 u2, P2 (r2 :: Kp) B t g k1 u1 ((L.take j).foldl (bstep tick lost) (Kd, K', 0)).1 t' g' k2 u2 ((L.take j).foldl (bstep tick lost) (Kd, K', 0)).2.1) ∧ Sm (r2 :: Kp) A2 B) ⟨⟨_, _, rfl⟩, Int.le_of_eq hll, l2, ⟨k, u, k', u', q2⟩, .refl⟩ (fun j env B _ ⟨_, _, _, _, s⟩ => s.get gp (by simp)) ?_ ?_
  · rintro j _ B d hd ⟨⟨o1, o2, rfl⟩, lB, lB', ⟨k1, u1, k2, u2, qB⟩, sB⟩
    have hj := lt_of_get hd
    rw [List.length_map] at hj
    rw [List.getElem?_map, List.getElem?_eq_getElem hj] at hd
    cases hd
    obtain ⟨Sj, hSj⟩ : ∃ Sj, L[j]? = some Sj := ⟨_, List.getElem?_eq_getElem (by omega)⟩
    have sj := sB.2.2 _ _ (hps j ps[j] Sj (List.getElem?_eq_getElem hj) hSj)
    have st := take_foldl (bstep tick lost) (Kd, K', 0) hSj
    obtain ⟨x, hx'⟩ : ∃ x, x = (L.take j).foldl (bstep tick lost) (Kd, K', 0) := ⟨_, rfl⟩
    rw [← hx'] at st lB lB' qB
    rw [← hx', st]
    have tB := (m2.trans sB.tail).get ht htl
    have key := brI_ok (tick := tick) (lost := lost) (m := x.2.2) (o := o2) qB (List.mem_cons_of_mem _ htl) tB hx sj (hsO Sj (List.mem_of_getElem? hSj)) lB lB'
    simp_arith []
    refine Nx.call (fun r => Trn _ _ r) key ?_
    rintro env B1 ⟨⟨o', rfl⟩, lC, k3, u3, k4, u4, qC, sC⟩
    exact ⟨⟨_, _, rfl⟩, lC, Int.le_of_eq hear_last_eq, ⟨k3, u3, k4, u4, qC⟩, sB.trans sC⟩
  · rintro _ B ⟨⟨o1, o2, rfl⟩, lB, lB', ⟨k1, u1, k2, u2, qB⟩, sB⟩
    rw [hlR, List.take_length] at qB
    rw [hlR, List.take_length]
    simp_arith []
    exact ⟨k1, u1, k2, u2, qB.sub fun j hj => List.mem_cons_of_mem _ hj, m2.trans sB.tail⟩
end

/-! steps of an exchange -/
theorem sgX_has {h th n a r : Int} {z : String} {ds : List D} (hz : z = "a" ∨ z = "ae") : (sgX h th z n a r ds).has 97 = true ∧ (sgX h th z n a r ds).has 99 = false ∧ (sgX h th z n a r ds).has 113 = false ∧ (sgX h th z n a r ds).items = ds ++ (if z = "ae" then [dS "e"] else []) := by
  rcases hz with rfl | rfl
  · have h111 : (sgX h th "a" n a r ds).has 111 = false := by show decide (111 ∈ (fS "a").cps.toList) = false; decide
    have h101 : (sgX h th "a" n a r ds).has 101 = false := by show decide (101 ∈ (fS "a").cps.toList) = false; decide
    refine ⟨by show decide (97 ∈ (fS "a").cps.toList) = true; decide, by show decide (99 ∈ (fS "a").cps.toList) = false; decide, by show decide (113 ∈ (fS "a").cps.toList) = false; decide, ?_⟩
    unfold Sg.items; rw [h111, h101]; rfl
  · have h111 : (sgX h th "ae" n a r ds).has 111 = false := by show decide (111 ∈ (fS "ae").cps.toList) = false; decide
    have h101 : (sgX h th "ae" n a r ds).has 101 = true := by show decide (101 ∈ (fS "ae").cps.toList) = true; decide
    refine ⟨by show decide (97 ∈ (fS "ae").cps.toList) = true; decide, by show decide (99 ∈ (fS "ae").cps.toList) = false; decide, by show decide (113 ∈ (fS "ae").cps.toList) = false; decide, ?_⟩
    unfold Sg.items; rw [h111, h101]; rfl
theorem takeI_none {w n : Int} {U : List D} {ov : Bool} : (T5 w U ov).takeI n [] = T5 w U ov := by
  cases ov with
  | true => exact takeI_over
  | false => exact takeI_nil rfl rfl
section
variable {K K' : Kv} {h th f f2 p s w wt tr t : Int} {l U : List D} {fin ov : Bool} {rs si : Option Int} {s' wt' tr' : Int} {l' U' : List D} {fin' ov' : Bool} {rs' si' : Option Int}
/-- an answer comes -/
theorem Sx.hearA {j p' s2 w' : Int} {V : List D} (o : Sx K h th f f2 p l s fin w U ov rs wt si tr) (hs : 0 ≤ s ∧ s < 1000) (hj : 0 ≤ j ∧ j ≤ s) (hw : w' = p + j) (hV : V.length ≤ 64) (ht : ∀ r, rs = some r → t - r < 120) :
    ∃ K1, K.heard (ans th h f2 p' s2 f w' V) t = (K1, []) ∧ Sx K1 h th f f2 (p + j) (l.drop j.toNat) (s - j) fin w U ov (if rs = none ∧ fin = true ∧ ov = true ∧ l.drop j.toNat = [] then some t else rs) (if 0 < j then 4 else wt) (if 0 < s - j then (if 0 < j then some t else (if si = none then some t else si)) else none) 0 ∧ K1.last = t := by
  obtain ⟨a1, a2, a3, a4⟩ := sgX_has (h := th) (th := h) (n := (f2 + p' + s2) % 4294967296) (a := (f + w') % 4294967296) (r := 128 - (V.length : Int)) (ds := []) (.inl rfl)
  have a4' : (sgX th h "a" ((f2 + p' + s2) % 4294967296) ((f + w') % 4294967296) (128 - (V.length : Int)) []).items = [] := a4
  obtain ⟨K1, e, o1, l1, _⟩ := o.hear (S := ans th h f2 p' s2 f w' V) (j := j) (w' := w) (U' := U) (ov' := ov) (room := 0) (t := t) hs a1 a2 a3 (by show (f + w') % 4294967296 = _; rw [hw]; congr 1; omega) hj (by rw [show (ans th h f2 p' s2 f w' V).items = [] from a4']; exact takeI_none) (by show 64 ≤ 128 - (V.length : Int); omega) ht
  rw [if_pos (show (ans th h f2 p' s2 f w' V).items = [] from a4')] at e
  exact ⟨K1, e, o1, l1⟩
/-- bytes come, the answer goes back -/
theorem step_d {d : List D} (o : Sx K h th f f2 p l s fin w U ov rs wt si tr) (o' : Sx K' th h f2 f w l' s' fin' p U' false rs' wt' si' tr') (hs : 0 ≤ s ∧ s < 1000) (hs' : 0 ≤ s' ∧ s' < 1000) (hd : ∀ x ∈ d, ∃ i, x = .int i) (hn : d ≠ []) (hl : (d.length : Int) ≤ s) (hU : U.length ≤ 64) (hU' : U'.length + d.length ≤ 64) (hr : rs = none) (hr' : rs' = none) (hf' : fin' = false) :
    ∃ K1 K1', bstep t 0 (K, K', 0) (sgX h th "a" ((f + p) % 4294967296) ((f2 + w) % 4294967296) (128 - (U.length : Int)) d) = (K1, K1', 0) ∧ Sx K1 h th f f2 (p + d.length) (l.drop d.length) (s - d.length) fin w U ov (if fin = true ∧ ov = true ∧ l.drop d.length = [] then some t else none) 4 (if 0 < s - d.length then some t else none) 0 ∧ Sx K1' th h f2 f w l' s' fin' (p + d.length) (U' ++ d) false none wt' (if 0 < s' then (if si' = none then some t else si') else none) 0 ∧ K1.last = t ∧ K1'.last = t ∧ K1'.G.pace = K'.G.pace := by
  obtain ⟨a1, a2, a3, a4⟩ := sgX_has (h := h) (th := th) (n := (f + p) % 4294967296) (a := (f2 + w) % 4294967296) (r := 128 - (U.length : Int)) (ds := d) (.inl rfl)
  rw [if_neg (by decide), List.append_nil] at a4
  obtain ⟨K1', e', o1', l1', pc'⟩ := o'.hear (S := sgX h th "a" ((f + p) % 4294967296) ((f2 + w) % 4294967296) (128 - (U.length : Int)) d) (j := 0) (w' := p + d.length) (U' := U' ++ d) (ov' := false) (room := 0) (t := t) hs' a1 a2 a3 (by show (f2 + w) % 4294967296 = _; congr 1; omega) ⟨Int.le_refl _, hs'.1⟩ (by
    rw [a4]
    show (T5 ((f + p) % 4294967296) U' false).takeI ((f + p) % 4294967296) d = _
    rw [takeI_ds (by omega) hd (by omega)]
    congr 1; omega) (by show 64 ≤ 128 - (U.length : Int); omega) (fun r q => by rw [hr'] at q; cases q)
  rw [if_neg (by rw [a4]; exact hn)] at e'
  obtain ⟨K1, e, o1, l1⟩ := o.hearA (t := t) (j := d.length) (p' := w + 0) (s2 := s' - 0) (w' := p + d.length) (V := U' ++ d) hs ⟨by omega, hl⟩ rfl (by rw [List.length_append]; omega) (fun r q => by rw [hr] at q; cases q)
  have hd0 : 0 < (d.length : Int) := by have := List.length_pos_iff.mpr hn; omega
  refine ⟨K1, K1', ?_, ?_, ?_, l1, l1', pc' rfl⟩
  · unfold bstep
    simp only [e', List.foldl_cons, List.foldl_nil, hstep]
    rw [if_neg (by decide), e]
  · rw [hr, if_pos hd0, Int.toNat_natCast] at o1
    simp only [true_and] at o1
    rw [if_pos hd0] at o1
    exact o1
  · rw [hr', hf'] at o1'
    simp only [Bool.false_eq_true, false_and, and_false, if_false, Int.toNat_zero, List.drop_zero, Int.sub_zero, Int.add_zero, Int.lt_irrefl] at o1'
    rw [hf']
    exact o1'
/-- the end comes; the answer goes back, or is lost -/
theorem step_e {lost : Int} (o : Sx K h th f f2 p [dS "e"] 1 fin w U ov rs wt si tr) (o' : Sx K' th h f2 f w l' s' fin' p U' false none wt' si' tr') (hs' : 0 ≤ s' ∧ s' < 1000) (hU : U.length ≤ 64) (hU' : U'.length ≤ 64) (hr : rs = none) (hlo : lost = 0 ∨ lost = 1) :
    ∃ K1 K1', bstep t lost (K, K', 0) (sgX h th "ae" ((f + p) % 4294967296) ((f2 + w) % 4294967296) (128 - (U.length : Int)) []) = (K1, K1', lost) ∧ (lost = 0 → Sx K1 h th f f2 (p + 1) [] 0 fin w U ov (if fin = true ∧ ov = true then some t else none) 4 none 0 ∧ K1.last = t) ∧ (lost = 1 → K1 = K) ∧ Sx K1' th h f2 f w l' s' fin' (p + 1) U' true (if fin' = true ∧ l' = [] then some t else none) wt' (if 0 < s' then (if si' = none then some t else si') else none) 0 ∧ K1'.last = t := by
  obtain ⟨a1, a2, a3, a4⟩ := sgX_has (h := h) (th := th) (n := (f + p) % 4294967296) (a := (f2 + w) % 4294967296) (r := 128 - (U.length : Int)) (ds := []) (.inr rfl)
  rw [if_pos rfl, List.nil_append] at a4
  obtain ⟨K1', e', o1', l1', _⟩ := o'.hear (S := sgX h th "ae" ((f + p) % 4294967296) ((f2 + w) % 4294967296) (128 - (U.length : Int)) []) (j := 0) (w' := p + 1) (U' := U') (ov' := true) (room := 0) (t := t) hs' a1 a2 a3 (by show (f2 + w) % 4294967296 = _; congr 1; omega) ⟨Int.le_refl _, hs'.1⟩ (by
    rw [a4]
    show (T5 ((f + p) % 4294967296) U' false).takeI ((f + p) % 4294967296) [dS "e"] = _
    rw [takeI_e (by omega) (by omega)]
    congr 1; omega) (by show 64 ≤ 128 - (U.length : Int); omega) (fun r q => by cases q)
  rw [if_neg (by rw [a4]; simp)] at e'
  have q1' : Sx K1' th h f2 f w l' s' fin' (p + 1) U' true (if fin' = true ∧ l' = [] then some t else none) wt' (if 0 < s' then (if si' = none then some t else si') else none) 0 := by
    simp only [true_and, Int.toNat_zero, List.drop_zero, Int.sub_zero, Int.add_zero, Int.lt_irrefl, if_false] at o1'
    exact o1'
  obtain ⟨K1, e, o1, l1⟩ := o.hearA (t := t) (j := 1) (p' := w + 0) (s2 := s' - 0) (w' := p + 1) (V := U') (by decide) (by decide) rfl hU' (fun r q => by rw [hr] at q; cases q)
  rcases hlo with rfl | rfl
  · refine ⟨K1, K1', ?_, fun _ => ⟨?_, l1⟩, fun h => by omega, q1', l1'⟩
    · unfold bstep
      simp only [e', List.foldl_cons, List.foldl_nil, hstep]
      rw [if_neg (by decide), e]
    · rw [hr] at o1
      have e0 : ([dS "e"] : List D).drop (Int.toNat 1) = [] := rfl
      rw [e0] at o1
      simp only [true_and, and_true] at o1
      exact o1
  · refine ⟨K, K1', ?_, fun h => by omega, fun _ => rfl, q1', l1'⟩
    unfold bstep
    simp only [e', List.foldl_cons, List.foldl_nil, hstep]
    rw [if_pos (by decide)]
    rfl
/-- the end comes again -/
theorem step_e2 {lost : Int} (o : Sx K h th f f2 p [dS "e"] 1 fin w U ov rs wt si tr) (o' : Sx K' th h f2 f w l' s' fin' (p + 1) U' true rs' wt' si' tr') (hs' : 0 ≤ s' ∧ s' < 1000) (hU : U.length ≤ 64) (hU' : U'.length ≤ 64) (hr : rs = none) (hr' : ∃ r, rs' = some r ∧ t - r < 120) (hlo : lost = 0 ∨ lost = 1) :
    ∃ K1 K1', bstep t lost (K, K', 0) (sgX h th "ae" ((f + p) % 4294967296) ((f2 + w) % 4294967296) (128 - (U.length : Int)) []) = (K1, K1', lost) ∧ (lost = 0 → Sx K1 h th f f2 (p + 1) [] 0 fin w U ov (if fin = true ∧ ov = true then some t else none) 4 none 0 ∧ K1.last = t) ∧ (lost = 1 → K1 = K) ∧ Sx K1' th h f2 f w l' s' fin' (p + 1) U' true rs' wt' (if 0 < s' then (if si' = none then some t else si') else none) 0 ∧ K1'.last = t := by
  obtain ⟨r, er, hrt⟩ := hr'
  obtain ⟨a1, a2, a3, a4⟩ := sgX_has (h := h) (th := th) (n := (f + p) % 4294967296) (a := (f2 + w) % 4294967296) (r := 128 - (U.length : Int)) (ds := []) (.inr rfl)
  rw [if_pos rfl, List.nil_append] at a4
  obtain ⟨K1', e', o1', l1', _⟩ := o'.hear (S := sgX h th "ae" ((f + p) % 4294967296) ((f2 + w) % 4294967296) (128 - (U.length : Int)) []) (j := 0) (w' := p + 1) (U' := U') (ov' := true) (room := 0) (t := t) hs' a1 a2 a3 (by show (f2 + w) % 4294967296 = _; congr 1; omega) ⟨Int.le_refl _, hs'.1⟩ takeI_over (by show 64 ≤ 128 - (U.length : Int); omega) (fun r2 q => by rw [er] at q; cases q; exact hrt)
  rw [if_neg (by rw [a4]; simp)] at e'
  have q1' : Sx K1' th h f2 f w l' s' fin' (p + 1) U' true rs' wt' (if 0 < s' then (if si' = none then some t else si') else none) 0 := by
    rw [er] at o1' ⊢
    simp only [Int.toNat_zero, List.drop_zero, Int.sub_zero, Int.add_zero, Int.lt_irrefl, if_false, reduceCtorEq, false_and] at o1'
    exact o1'
  obtain ⟨K1, e, o1, l1⟩ := o.hearA (t := t) (j := 1) (p' := w + 0) (s2 := s' - 0) (w' := p + 1) (V := U') (by decide) (by decide) rfl hU' (fun r q => by rw [hr] at q; cases q)
  rcases hlo with rfl | rfl
  · refine ⟨K1, K1', ?_, fun _ => ⟨?_, l1⟩, fun h => by omega, q1', l1'⟩
    · unfold bstep
      simp only [e', List.foldl_cons, List.foldl_nil, hstep]
      rw [if_neg (by decide), e]
    · rw [hr] at o1
      have e0 : ([dS "e"] : List D).drop (Int.toNat 1) = [] := rfl
      rw [e0] at o1
      simp only [true_and, and_true] at o1
      exact o1
  · refine ⟨K, K1', ?_, fun h => by omega, fun _ => rfl, q1', l1'⟩
    unfold bstep
    simp only [e', List.foldl_cons, List.foldl_nil, hstep]
    rw [if_pos (by decide)]
    rfl
end

/-! deeds of an open talk -/
section
variable {K : Kv} {h th f f2 p s w wt tr t : Int} {l U : List D} {fin ov : Bool} {rs si : Option Int}
theorem Sx.write {ds : List Int} (o : Sx K h th f f2 p [] s false w U ov rs wt si tr) (hr : ∀ r, rs = some r → K.last - r < 120) (hl : ds.length ≤ 64) : Sx (K.write ds) h th f f2 p (ds.map D.int) s false w U ov rs wt si tr ∧ K.writeN ds.length = ds.length ∧ (K.write ds).last = K.last ∧ (K.write ds).G.pace = K.G.pace := by
  have ho := o.over hr
  have hg := o.gfin
  have hk := o.kept
  have e : (min (ds.length : Int) 512).toNat = ds.length := by omega
  have e3 : List.take ds.length (List.map D.int ds) = List.map D.int ds := List.take_of_length_le (by simp)
  have hw : K.write ds = { K with G := { K.G with kept := ds.map D.int } } := by
    unfold Kv.write
    rw [if_neg (by rw [ho, hg]; decide)]
    simp [Gv.write, Gv.writeN, hk, e, e3]
  refine ⟨?_, ?_, by rw [hw], by rw [hw]⟩
  · rw [hw]
    exact ⟨o.here, o.there, o.first, o.ending, o.kfin, o.rested, o.other, o.base, o.passed, o.sent, rfl, o.wait, o.since, o.tried, o.most, o.fw, o.gfin, o.reach, o.pace, o.T, o.p0⟩
  · unfold Kv.writeN
    rw [if_neg (by rw [ho, hg]; decide)]
    simp [Gv.writeN, hk]
    omega
theorem Sx.finish (o : Sx K h th f f2 p l s false w U ov rs wt si tr) (hr : ∀ r, rs = some r → K.last - r < 120) : Sx K.finish h th f f2 p (l ++ [dS "e"]) s true w U ov rs wt si tr ∧ K.finish.last = K.last := by
  have ho := o.over hr
  have hw : K.finish = { K with fin := true, G := K.G.finish } := by unfold Kv.finish; rw [ho, if_neg (by decide)]
  refine ⟨?_, by rw [hw]⟩
  rw [hw]
  have hk : K.G.finish.kept = l ++ [dS "e"] := by
    show (if K.G.fin then K.G.kept else K.G.kept ++ [dS "e"]) = _
    rw [o.gfin, o.kept]; rfl
  exact ⟨o.here, o.there, o.first, o.ending, rfl, o.rested, o.other, o.base, o.passed, o.sent, hk, o.wait, o.since, o.tried, o.most, o.fw, rfl, o.reach, o.pace, o.T, o.p0⟩
theorem Sx.write0 {ds : List Int} (o : Sx K h th f f2 p l s true w U ov rs wt si tr) : K.write ds = K ∧ K.writeN ds.length = 0 := by
  have hg := o.gfin
  constructor
  · unfold Kv.write; rw [if_pos (.inr hg)]
  · unfold Kv.writeN; rw [if_pos (.inr hg)]
theorem Sx.unread (o : Sx K h th f f2 p l s fin w U ov rs wt si tr) : K.unread = U := by unfold Kv.unread; rw [o.T]
/-- all pieces of some bytes come -/
theorem data_fold {K' : Kv} {s' wt' tr' : Int} {l' U' : List D} {ds : List D} {si' : Option Int} (o : Sx K h th f f2 p ds ds.length false w U false none wt si tr) (o' : Sx K' th h f2 f w l' s' false p U' false none wt' si' tr') (hs' : 0 ≤ s' ∧ s' < 1000) (hd : ∀ x ∈ ds, ∃ i, x = .int i) (hl : ds.length ≤ 50) (hU : U.length ≤ 64) (hU' : U' = []) (h0 : ds = [] → si = none ∧ wt = 4) :
    ∃ K1 K1' wt1 si1' tr1 tr1', ((pcs ((f + p) % 4294967296) ds).map fun q => sgX h th "a" q.1 ((f2 + w) % 4294967296) (128 - (U.length : Int)) q.2).foldl (bstep t 0) (K, K', 0) = (K1, K1', 0) ∧ Sx K1 h th f f2 (p + ds.length) [] 0 false w U false none wt1 none tr1 ∧ Sx K1' th h f2 f w l' s' false (p + ds.length) ds false none wt' si1' tr1' ∧ (s' = 0 → si1' = none ∨ si1' = si') ∧ wt1 = 4 ∧ K1.last = (if ds = [] then K.last else t) ∧ K1'.last = (if ds = [] then K'.last else t) ∧ K1'.G.pace = K'.G.pace ∧ (tr = 0 → tr1 = 0) ∧ (tr' = 0 → tr1' = 0) := by
  subst hU'
  by_cases q0 : ds = []
  · subst q0
    obtain ⟨e1, e2⟩ := h0 rfl
    subst e1 e2
    have e : pcs ((f + p) % 4294967296) [] = [] := by
      have : cnt 0 0 32 = 0 := by decide
      unfold pcs
      rw [show (([] : List D).length : Int) = 0 from rfl, this]; rfl
    rw [e]
    refine ⟨K, K', 4, si', tr, tr', rfl, ?_, ?_, fun _ => .inr rfl, rfl, by rw [if_pos rfl], by rw [if_pos rfl], rfl, id, id⟩
    · have : p + ((([] : List D).length : Nat) : Int) = p := by simp
      rw [this]; exact o
    · have : p + ((([] : List D).length : Nat) : Int) = p := by simp
      rw [this]; exact o'
  have hpos : 0 < ds.length := List.length_pos_iff.mpr q0
  by_cases q1 : ds.length ≤ 32
  · have e : pcs ((f + p) % 4294967296) ds = [((f + p) % 4294967296, ds)] := by
      have : cnt 0 (ds.length : Int) 32 = 1 := by
        have a := (cnt_lt (s := 0) (e := (ds.length : Int)) (c := 32) (i := 0) (by decide)).mpr (by simp; omega)
        have b := mt (cnt_lt (s := 0) (e := (ds.length : Int)) (c := 32) (i := 1) (by decide)).mp (by simp; omega)
        omega
      unfold pcs
      rw [this]
      show [(((f + p) % 4294967296 + 32 * ((0 : Nat) : Int)) % 4294967296, (ds.drop (32 * 0)).take 32)] = _
      rw [show ((f + p) % 4294967296 + 32 * ((0 : Nat) : Int)) % 4294967296 = (f + p) % 4294967296 by omega, Nat.mul_zero, List.drop_zero, List.take_of_length_le q1]
    obtain ⟨K1, K1', e2, a, b, c, d, e3⟩ := step_d (t := t) o o' ⟨by omega, by omega⟩ hs' hd q0 (Int.le_refl _) hU (by simp; omega) rfl rfl rfl
    have hdr : ds.drop ds.length = [] := List.drop_length
    rw [hdr, Int.sub_self] at a
    simp only [Bool.false_eq_true, false_and, if_false, Int.lt_irrefl] at a
    rw [List.nil_append] at b
    refine ⟨K1, K1', 4, _, 0, 0, ?_, a, b, fun h => .inl (by rw [h]; rfl), rfl, by rw [if_neg q0]; exact c, by rw [if_neg q0]; exact d, e3, fun _ => rfl, fun _ => rfl⟩
    rw [e]
    exact e2
  · have e : pcs ((f + p) % 4294967296) ds = [((f + p) % 4294967296, ds.take 32), ((f + (p + 32)) % 4294967296, ds.drop 32)] := by
      have : cnt 0 (ds.length : Int) 32 = 2 := by
        have a := (cnt_lt (s := 0) (e := (ds.length : Int)) (c := 32) (i := 1) (by decide)).mpr (by simp; omega)
        have b := mt (cnt_lt (s := 0) (e := (ds.length : Int)) (c := 32) (i := 2) (by decide)).mp (by simp; omega)
        omega
      unfold pcs
      rw [this]
      show [(((f + p) % 4294967296 + 32 * ((0 : Nat) : Int)) % 4294967296, (ds.drop (32 * 0)).take 32), (((f + p) % 4294967296 + 32 * ((1 : Nat) : Int)) % 4294967296, (ds.drop (32 * 1)).take 32)] = _
      rw [show ((f + p) % 4294967296 + 32 * ((0 : Nat) : Int)) % 4294967296 = (f + p) % 4294967296 by omega, show ((f + p) % 4294967296 + 32 * ((1 : Nat) : Int)) % 4294967296 = (f + (p + 32)) % 4294967296 by omega, Nat.mul_zero, List.drop_zero, Nat.mul_one, List.take_of_length_le (l := ds.drop 32) (by rw [List.length_drop]; omega)]
    have l1 : (ds.take 32).length = 32 := by rw [List.length_take]; omega
    have l2 : (ds.drop 32).length = ds.length - 32 := by rw [List.length_drop]
    obtain ⟨K1, K1', e2, a, b, c, d, e3⟩ := step_d (t := t) (d := ds.take 32) o o' ⟨by omega, by omega⟩ hs' (fun x hx => hd x (List.mem_of_mem_take hx)) (fun hh => by rw [hh] at l1; cases l1) (by omega) hU (by simp [l1]) rfl rfl rfl
    rw [l1] at a b
    have hne : (ds.drop 32) ≠ [] := fun hh => by rw [hh] at l2; simp at l2; omega
    simp only [Bool.false_eq_true, false_and, if_false] at a
    rw [List.nil_append] at b
    have es : (ds.length : Int) - ((32 : Nat) : Int) = (ds.drop 32).length := by rw [l2]; omega
    rw [es] at a
    have e32 : (((32 : Nat)) : Int) = 32 := rfl
    rw [e32] at a b
    obtain ⟨K2, K2', e4, a2, b2, c2, d2, e5⟩ := step_d (t := t) (d := ds.drop 32) a b ⟨by omega, by rw [l2]; omega⟩ hs' (fun x hx => hd x (List.mem_of_mem_drop hx)) hne (Int.le_refl _) hU (by rw [l1, l2]; omega) rfl rfl rfl
    have hdr : (ds.drop 32).drop (ds.drop 32).length = [] := List.drop_length
    rw [hdr, Int.sub_self] at a2
    simp only [Bool.false_eq_true, false_and, if_false, Int.lt_irrefl] at a2
    rw [List.take_append_drop] at b2
    have ep : p + 32 + ((ds.drop 32).length : Int) = p + ds.length := by rw [l2]; omega
    rw [ep] at a2 b2
    refine ⟨K2, K2', 4, _, 0, 0, ?_, a2, b2, fun h => .inl (by rw [h]; rfl), rfl, by rw [if_neg q0]; exact c2, by rw [if_neg q0]; exact d2, e5.trans e3, fun _ => rfl, fun _ => rfl⟩
    rw [e]
    simp only [List.map_cons, List.map_nil, List.foldl_cons, List.foldl_nil]
    rw [e2, e4]
end

noncomputable def lrB : S := (sSeq (sSet 7 (eCall F_l_brought (aCons (eVar 0) (aCons (eC (.int 1)) (aCons (eVar 1) (aCons (eCB (c1 oInt) (aCons (eOp oLt (eVar 6) (eVar 2)) aNil)) aNil)))))) (sSeq (sIf (tOo (tOf (eOp oNe (eVar 7) (eCB (c1 oInt) (aCons (eOp oLt (eVar 6) (eVar 2)) aNil)))) (tOo (tOf (eOp oNe (eMeth "stand" [("Talk", F_Talk_stand)] (eVar 3) aNil) (eC (dS "rests")))) (tOf (eOp oNe (eMeth "stand" [("Talk", F_Talk_stand)] (eVar 4) aNil) (eOp oIx (eLst (aCons (eC (dS "rests")) (aCons (eC (dS "left")) aNil))) (eVar 7)))))) (sRet (eUn oNeg (eC (.int 1)))) sNx) (sIf (tOf (eOp oLt (eVar 6) (eVar 2))) (sSet 1 (eOp oAdd (eVar 1) (eOp oIx (eVar 5) (eVar 6)))) sNx)))
theorem left_eq : F_l_left_right = mkFn 3 8 (sSeq (sAsg (eVar 0) (gL [(gN 3), (gN 4)])) (sSeq (sDrop (eMeth "finish" [("Talk", F_Talk_finish)] (eVar 4) aNil)) (sSeq (sIf (tOf (eOp oNe (eMeth "stand" [("Talk", F_Talk_stand)] (eVar 4) aNil) (eC (dS "left")))) (sRet (eUn oNeg (eC (.int 1)))) sNx) (sSeq (sSet 5 (eLst (aCons (eC (.int 4)) (aCons (eC (.int 8)) (aCons (eC (.int 16)) aNil))))) (sSeq (sFor (wAs rg1 (aCons (eOp oAdd (eVar 2) (eC (.int 1))) aNil)) (gN 6) lrB) (sRet (eVar 1))))))) := rfl
def Wl : Nat → Int
  | 0 => 0
  | 1 => 4
  | 2 => 12
  | _ => 28
def Wt : Nat → Int
  | 1 => 4
  | 2 => 8
  | 3 => 16
  | _ => 32
theorem Wl_facts {j : Nat} (h : j ≤ 3) : 0 ≤ Wl j ∧ Wl j ≤ 28 ∧ (0 < j → Wt j ≤ Wl j - Wl (j - 1) ∧ min (2 * Wt j) 64 = Wt (j + 1)) ∧ (j < 3 → atI [D.int 4, .int 8, .int 16] (j : Int) = some (.int (Wl (j + 1) - Wl j)) ∧ Wl j ≤ Wl (j + 1)) := by
  match j, h with
  | 0, _ => exact ⟨by decide, by decide, fun h => by omega, fun _ => ⟨rfl, by decide⟩⟩
  | 1, _ => exact ⟨by decide, by decide, fun _ => ⟨by decide, by decide⟩, fun _ => ⟨rfl, by decide⟩⟩
  | 2, _ => exact ⟨by decide, by decide, fun _ => ⟨by decide, by decide⟩, fun _ => ⟨rfl, by decide⟩⟩
  | 3, _ => exact ⟨by decide, by decide, fun _ => ⟨by decide, by decide⟩, fun h => by omega⟩
section
variable {Kp : List Nat} {A A1 : Hs} {t g k t' g' k' tl : Nat} {u u' : Option (Nat × Nat)} {K K' : Kv} {h th f f2 p w tick wt' : Int} {U V : List D} {si' : Option Int}
theorem P2.finish (q : P2 Kp A t g k u K t' g' k' u' K') : ∃ A1, F_Talk_finish [.ref t] A = .ok .non A1 ∧ P2 Kp A1 t g k u K.finish t' g' k' u' K' ∧ Sm Kp A A1 := by
  obtain ⟨_, A1, e, rfl, i1, f⟩ := (tfinish_ok q.k1 q.o1).ex
  obtain ⟨p1, s1⟩ := q.chg i1 (finish_Ok q.o1) .refl f
  exact ⟨A1, e, p1, s1⟩
/-- the first sends again what the second one lets go (lost answers), at a tick -/
def LrI (Kp : List Nat) (h th f f2 p w tick : Int) (U V : List D) (t g t' g' : Nat) (j : Nat) (lost : Nat) (B : Hs) (tj : Int) : Prop := ∃ k u K k' u' K', P2 Kp B t g k u K t' g' k' u' K' ∧ K.last ≤ tj ∧ K'.last ≤ tj ∧
  (if j = 0 then tj = tick ∧ Sx K h th f f2 p [] 0 true w U false none 4 none 0 ∧ (∃ wt' si', wt' = 4 ∧ Sx K' th h f2 f w [dS "e"] 0 true p V true none wt' si' 0)
   else if j ≤ lost then tj = tick + Wl j ∧ Sx K h th f f2 p [] 0 true (w + 1) U true (some tick) 4 none 0 ∧ Sx K' th h f2 f w [dS "e"] 1 true p V true none (Wt j) (some (tick + Wl (j - 1))) ((j : Int) - 1)
   else tj = tick + Wl lost ∧ Sx K h th f f2 p [] 0 true (w + 1) U true (some tick) 4 none 0 ∧ Sx K' th h f2 f (w + 1) [] 0 true p V true (some tj) 4 none 0)
theorem lrB_ok {r j lost : Nat} {tj : Int} {o1 o2 : Option D} {A : Hs} (i : LrI Kp h th f f2 p w tick U V t g t' g' j lost A tj) (hj : j ≤ lost) (hl : lost ≤ 3) (htl : tl ∈ Kp) (ht : A[tl]? = some (.lst [.ref t, .ref t'])) (hr : r ∈ Kp) (hgr : A[r]? = some (.lst [.int 4, .int 8, .int 16])) (hU : U.length ≤ 50) (hV : V.length ≤ 50) :
    Nx (lrB [some (.ref tl), some (.int tj), some (.int lost), some (.ref t), some (.ref t'), some (.ref r), some (.int ((0 : Int) + (j : Int) * 1)), o2] A) fun env A1 => ∃ tj2 o2', env = [some (.ref tl), some (.int tj2), some (.int lost), some (.ref t), some (.ref t'), some (.ref r), some (.int ((0 : Int) + (j : Int) * 1)), o2'] ∧ LrI Kp h th f f2 p w tick U V t g t' g' (j + 1) lost A1 tj2 ∧ Sm Kp A A1 := by
  obtain ⟨k, u, K, k', u', K', q, l1, l2, st⟩ := i
  obtain ⟨lo, hlo⟩ : ∃ lo : Int, lo = (if (j : Int) < (lost : Int) then 1 else 0) := ⟨_, rfl⟩
  have hlo2 : lo = 0 ∨ lo = 1 := by rw [hlo]; split <;> simp
  obtain ⟨w1, w2, w3, w4⟩ := Wl_facts (j := j) (by omega)
  have ej : ((0 : Int) + (j : Int) * 1) = (j : Int) := by omega
  -- what the sender has due, what comes of it
  have main : ∃ K1 K1', ((K'.due tj).2.foldl (bstep tj lo) ((K'.due tj).1, K, 0)) = (K1', K1, lo) ∧ Sx K1 h th f f2 p [] 0 true (w + 1) U true (some tick) 4 none 0 ∧ K1.last = tj ∧ K1'.last = tj ∧ tj = tick + Wl j ∧ (lo = 0 → Sx K1' th h f2 f (w + 1) [] 0 true p V true (some tj) 4 none 0) ∧ (lo = 1 → Sx K1' th h f2 f w [dS "e"] 1 true p V true none (Wt (j + 1)) (some tj) (j : Int)) := by
    by_cases q0 : j = 0
    · subst q0
      rw [if_pos rfl] at st
      obtain ⟨rfl, o, wt', si', hwt, o'⟩ := st
      subst hwt
      obtain ⟨Kd, ed, od, ld⟩ := o'.dueE (t := tj) (fun r q => by cases q) (by decide)
      obtain ⟨K2, K2', e2, a1, a2, a3, a4⟩ := step_e (t := tj) (lost := lo) od o (by decide) (by omega) (by omega) rfl hlo2
      rw [ed]
      refine ⟨K2', K2, by simpa using e2, ?_, a4, ?_, by show tj = tj + 0; omega, fun h => ?_, fun h => ?_⟩
      · simpa using a3
      · rcases hlo2 with h | h
        · exact (a1 h).2
        · rw [a2 h]; exact ld
      · have := (a1 h).1
        simpa using this
      · rw [a2 h]; exact od
    · rw [if_neg q0, if_pos hj] at st
      obtain ⟨rfl, o, o'⟩ := st
      have h3 := w3 (by omega)
      obtain ⟨Kd, ed, od, ld⟩ := o'.againE (t := tick + Wl j) (fun r q => by cases q) (by omega) (by omega)
      rw [h3.2, show ((j : Int) - 1 + 1) = (j : Int) by omega] at od
      obtain ⟨K2, K2', e2, a1, a2, a3, a4⟩ := step_e2 (t := tick + Wl j) (lost := lo) od o (by decide) (by omega) (by omega) rfl ⟨tick, rfl, by omega⟩ hlo2
      rw [ed]
      refine ⟨K2', K2, by simpa using e2, ?_, a4, ?_, rfl, fun h => ?_, fun h => ?_⟩
      · simpa using a3
      · rcases hlo2 with h | h
        · exact (a1 h).2
        · rw [a2 h]; exact ld
      · have := (a1 h).1
        simpa using this
      · rw [a2 h]; exact od
  obtain ⟨K1, K1', em, oK, lK, lK', etj, m0, m1⟩ := main
  obtain ⟨_, B, eB, rfl, k3, u3, k4, u4, q3, s3⟩ := (brought_ok (e := 1) (x0 := t) (x1 := t') (tick := tj) (lost := lo) q.symm htl ht (.inr ⟨rfl, rfl, rfl⟩) l2 l1).ex
  rw [em] at eB q3
  have eB' : F_l_brought [.ref tl, .int 1, .int tj, .int lo] A = .ok (.int lo) B := eB
  have o1 := q3.k2.o
  have o2 := q3.k1.o
  have c1 := stand_ok q3.k2 q3.o2.op
  have c2 := stand_ok q3.k1 q3.o1.op
  have s1 : K1.stand = "rests" := by rw [oK.stand]; show (if K1.last - tick < 120 then "rests" else "closed") = "rests"; rw [lK, if_pos (by omega)]
  rw [s1] at c1
  obtain ⟨B2, hB2⟩ : ∃ B2, B2 = B ++ [O.lst [dS "rests", dS "left"]] := ⟨_, rfl⟩
  obtain ⟨q4, s4⟩ := q3.up (A1 := B2) (by rw [hB2]; exact .push)
  have hgr2 := (s3.trans s4).get hgr hr
  unfold lrB
  rw [ej]
  by_cases c : (j : Int) < (lost : Int)
  · have lo1 : lo = 1 := by rw [hlo, if_pos c]
    have oK' := m1 lo1
    have s2 : K1'.stand = "left" := by rw [oK'.stand]; rfl
    rw [s2] at c2
    rw [lo1] at eB'
    obtain ⟨a3, a4⟩ := w4 (by omega)
    have ai : atI [dS "rests", dS "left"] 1 = some (dS "left") := rfl
    have gB2 : B2[B.length]? = some (.lst [dS "rests", dS "left"]) := by rw [hB2]; exact z9e
    simp_arith [c, eB', o1, o2, Kv.fs, c1, c2]
    rw [← hB2]
    simp_arith [gB2, ai, c, hgr2, a3, -z5o]
    refine ⟨_, _, rfl, ⟨k4, u4, K1, k3, u3, K1', q4.symm, ?_, ?_, ?_⟩, s3.trans s4⟩
    · rw [lK, etj]; omega
    · rw [lK', etj]; omega
    · rw [if_neg (by omega), if_pos (by omega)]
      refine ⟨by rw [etj]; omega, oK, ?_⟩
      rw [etj] at oK'
      have e1 : (((j + 1 : Nat) : Int) - 1) = (j : Int) := by omega
      rw [e1]
      exact oK'
  · have lo0 : lo = 0 := by rw [hlo, if_neg c]
    have oK' := m0 lo0
    have s2 : K1'.stand = "rests" := by rw [oK'.stand]; show (if K1'.last - tj < 120 then "rests" else "closed") = "rests"; rw [lK', if_pos (by omega)]
    rw [s2] at c2
    rw [lo0] at eB'
    have ai : atI [dS "rests", dS "left"] 0 = some (dS "rests") := rfl
    have gB2 : B2[B.length]? = some (.lst [dS "rests", dS "left"]) := by rw [hB2]; exact z9e
    have jl : j = lost := by omega
    simp_arith [c, eB', o1, o2, Kv.fs, c1, c2]
    rw [← hB2]
    refine ⟨tj, _, rfl, ⟨k4, u4, K1, k3, u3, K1', q4.symm, by omega, by omega, ?_⟩, s3.trans s4⟩
    rw [if_neg (by omega), if_neg (by omega)]
    exact ⟨by rw [etj, jl], oK, oK'⟩
theorem left_right_ok {lost : Nat} (q : P2 Kp A t g k u K t' g' k' u' K') (o : Sx K h th f f2 p [] 0 true w U false none 4 none 0) (o' : Sx K' th h f2 f w [] 0 false p V true none 4 si' 0) (l1 : K.last ≤ tick) (l2 : K'.last ≤ tick) (hl : lost ≤ 3) (htl : tl ∈ Kp) (ht : A[tl]? = some (.lst [.ref t, .ref t'])) (hU : U.length ≤ 50) (hV : V.length ≤ 50) :
    Rk (F_l_left_right [.ref tl, .int tick, .int lost] A) fun v A1 => v = .int (tick + Wl lost) ∧ ∃ k1 u1 K1 k2 u2 K2, P2 Kp A1 t g k1 u1 K1 t' g' k2 u2 K2 ∧ Sm Kp A A1 ∧ Sx K1 h th f f2 p [] 0 true (w + 1) U true (some tick) 4 none 0 ∧ K1.last ≤ tick + Wl lost ∧ Sx K2 th h f2 f (w + 1) [] 0 true p V true (some (tick + Wl lost)) 4 none 0 ∧ K2.last ≤ tick + Wl lost := by
  obtain ⟨A1, e1, q1, s1⟩ := q.symm.finish
  obtain ⟨oF, lF⟩ := o'.finish (fun r q => by cases q)
  rw [List.nil_append] at oF
  have o0 := q.k2.o
  have oo := q1.k1.o
  have c1 := stand_ok q1.k1 q1.o1.op
  have s2 : K'.finish.stand = "left" := by rw [oF.stand]; rfl
  rw [s2] at c1
  obtain ⟨A2, hA2⟩ : ∃ A2, A2 = A1 ++ [O.lst [.int 4, .int 8, .int 16]] := ⟨_, rfl⟩
  obtain ⟨q2, s2⟩ := q1.up (A1 := A2) (by rw [hA2]; exact .push)
  have q2' : P2 (A1.length :: Kp) A2 t g k u K t' g' k' u' K'.finish := (q2.cons (x := A1.length) (by rw [hA2]; simp) (fun hh => by have := q1.k1.lt _ hh; omega) (fun hh => by have := q1.k2.lt _ hh; omega)).symm
  have gr : A2[A1.length]? = some (.lst [.int 4, .int 8, .int 16]) := by rw [hA2]; exact z9e
  have t2 := (s1.trans s2).get ht htl
  have aU : gAll [gN 3, gN 4] [D.ref t, .ref t'] [some (.ref tl), some (.int tick), some (.int lost), none, none, none, none, none] A = some [some (.ref tl), some (.int tick), some (.int lost), some (.ref t), some (.ref t'), none, none, none] := rfl
  have e2 : ((lost : Int) + 1).toNat = lost + 1 := by omega
  have eg : gL [gN 3, gN 4] (.ref tl) [some (.ref tl), some (.int tick), some (.int lost), none, none, none, none, none] A = some [some (.ref tl), some (.int tick), some (.int lost), some (.ref t), some (.ref t'), none, none, none] := by
    rw [gL_ (l := [.ref t, .ref t']) (by rw [z61, ht]; rfl)]; exact aU
  rw [left_eq]
  simp_arith [eg, o0, Kv.fs, e1, oo, c1]
  rw [← hA2]
  refine for_go (R := fun rs => Rk (finR (seqR rs _)) _) (fun j env B => ∃ tj o1 o2, env = [some (.ref tl), some (.int tj), some (.int lost), some (.ref t), some (.ref t'), some (.ref A1.length), o1, o2] ∧ LrI (A1.length :: Kp) h th f f2 p w tick U V t g t' g' j lost B tj ∧ Sm (A1.length :: Kp) A2 B) ⟨tick, none, none, rfl, ⟨k, u, K, k', u', K'.finish, q2', l1, by rw [lF]; exact l2, by rw [if_pos rfl]; exact ⟨rfl, o, 4, si', rfl, oF⟩⟩, .refl⟩ (fun j env B _ _ => trivial) ?_ ?_
  · rintro j _ B d hd ⟨tj, o1, o2, rfl, i, sB⟩
    obtain ⟨rfl, hi⟩ := rgL_get hd
    rw [e2] at hi
    have key := lrB_ok (o1 := o1) (o2 := o2) (tl := tl) (r := A1.length) i (by omega) hl (List.mem_cons_of_mem _ htl) (sB.get t2 (List.mem_cons_of_mem _ htl)) (by simp) (sB.get gr (by simp)) hU hV
    simp_arith []
    refine Nx.call (fun r => Trn _ _ r) key ?_
    rintro env B1 ⟨tj2, o2', rfl, i2, s2⟩
    exact ⟨_, _, _, rfl, i2, sB.trans s2⟩
  · rintro _ B ⟨tj, o1, o2, rfl, i, sB⟩
    rw [rgL_len, e2] at i
    obtain ⟨k3, u3, K3, k4, u4, K4, q3, x1, x2, st⟩ := i
    rw [if_neg (by omega), if_neg (by omega)] at st
    obtain ⟨rfl, y1, y2⟩ := st
    simp_arith []
    exact ⟨k3, u3, K3, k4, u4, K4, q3.sub fun j hj => List.mem_cons_of_mem _ hj, (s1.trans s2).trans sB.tail, y1, x1, y2, x2⟩
end

noncomputable def clB : S := (sSeq (sIf (tOo (tOf (eOp oNe (eMeth "due" [("Talk", F_Talk_due)] (eVar 0) (aCons (eOp oAdd (eVar 1) (eC (.int 119))) aNil)) (eLst aNil))) (tOf (eOp oNe (eMeth "stand" [("Talk", F_Talk_stand)] (eVar 0) aNil) (eC (dS "rests"))))) (sRet (eC (.bl false))) sNx) (sSeq (sIf (tOo (tOf (eOp oNe (eMeth "due" [("Talk", F_Talk_due)] (eVar 0) (aCons (eOp oAdd (eVar 1) (eC (.int 120))) aNil)) (eLst aNil))) (tOo (tOf (eOp oNe (eMeth "stand" [("Talk", F_Talk_stand)] (eVar 0) aNil) (eC (dS "closed")))) (tOo (tOf (eOp oNe (eMeth "write" [("Talk", F_Talk_write)] (eVar 0) (aCons (eTup (aCons (eC (.int 5)) (aCons (eC (.int 6)) aNil))) aNil)) (eC (.int 0)))) (tOf (eOp oNe (eMeth "cut" [("Talk", F_Talk_cut)] (eVar 0) aNil) (eLst aNil)))))) (sRet (eC (.bl false))) sNx) (sSeq (sDrop (eMeth "finish" [("Talk", F_Talk_finish)] (eVar 0) aNil)) (sRet (eAnd (eOp oEq (eMeth "due" [("Talk", F_Talk_due)] (eVar 0) (aCons (eOp oAdd (eVar 1) (eC (.int 300))) aNil)) (eLst aNil)) (eOp oEq (eMeth "stand" [("Talk", F_Talk_stand)] (eVar 0) aNil) (eC (dS "closed"))))))))
theorem closes_eq : F_l_closes = mkFn 3 3 (sSeq (sIf (tOf (eOp oIsNot (eVar 2) (eC .non))) (sSeq (sIf (tOo (tOf (eOp oNe (eMeth "heard" [("Talk", F_Talk_heard)] (eVar 0) (aCons (eVar 2) (aCons (eOp oAdd (eVar 1) (eC (.int 60))) aNil))) (eLst aNil))) (tOo (tOf (eOp oNe (eMeth "stand" [("Talk", F_Talk_stand)] (eVar 0) aNil) (eC (dS "cut")))) (tOf (eOp oNe (eMeth "due" [("Talk", F_Talk_due)] (eVar 0) (aCons (eOp oAdd (eVar 1) (eC (.int 61))) aNil)) (eLst aNil))))) (sRet (eC (.bl false))) sNx) (sRet (eAnd (eOp oEq (eMeth "due" [("Talk", F_Talk_due)] (eVar 0) (aCons (eOp oAdd (eVar 1) (eC (.int 300))) aNil)) (eLst aNil)) (eOp oEq (eMeth "stand" [("Talk", F_Talk_stand)] (eVar 0) aNil) (eC (dS "cut")))))) sNx) clB) := rfl
section
variable {Kp : List Nat} {A A1 : Hs} {t g k t' g' k' tl : Nat} {u u' : Option (Nat × Nat)} {K K' : Kv} {h th f f2 p w wt tr since tick : Int} {U : List D} {si : Option Int}
/-- a talk at its end, whatever is read of it -/
def Cl (K : Kv) (since : Int) : Prop := K.ending = "cut" ∨ (K.ending = "" ∧ 0 < K.G.passed ∧ K.rested = some since)
theorem Cl.over (c : Cl K since) (h : since + 120 ≤ K.last ∨ K.ending = "cut") : K.over = true := by
  rcases c with c | ⟨a, b, d⟩
  · exact (over_cut c).1
  · rcases h with h | h
    · have e : K.stand = "closed" := by
        unfold Kv.stand
        rw [a, if_neg (by decide), if_pos b, d]
        show (if K.last - since < 120 then "rests" else "closed") = "closed"
        rw [if_neg (by omega)]
      unfold Kv.over
      rw [e]
      decide
    · rw [a] at h; exact absurd h (by decide)
theorem over_due (h : Kv.over { K with last := tick } = true) : K.due tick = ({ K with last := tick }, []) := by
  unfold Kv.due; rw [if_pos h]
theorem over_hear {S : Sg} (h : Kv.over { K with last := tick } = true) : K.heard S tick = ({ K with last := tick }, []) := by
  unfold Kv.heard Kv.hear1; rw [if_pos h]
theorem P2.cut (q : P2 Kp A t g k u K t' g' k' u' K') : ∃ r A1, F_Talk_cut [.ref t] A = .ok (.ref r) A1 ∧ IsL A1 r K.cut.2 ∧ P2 Kp A1 t g k u K.cut.1 t' g' k' u' K' ∧ Sm Kp A A1 := by
  obtain ⟨_, A1, e, r, rfl, hr, l, i1, f⟩ := (tcut_ok q.k1 q.o1).ex
  obtain ⟨p1, s1⟩ := q.chg i1 (cut_Ok q.o1) .refl (f.mono (by simp [fpK]))
  exact ⟨r, A1, e, l, p1, s1⟩
theorem P2.write {ds : List Int} (q : P2 Kp A t g k u K t' g' k' u' K') (hb : ∀ b ∈ ds, 0 ≤ b ∧ b ≤ 255) (hl : ds.length ≤ 1000) : ∃ A1, F_Talk_write [.ref t, .tup (ds.map D.int)] A = .ok (.int (K.writeN ds.length)) A1 ∧ P2 Kp A1 t g k u (K.write ds) t' g' k' u' K' ∧ Sm Kp A A1 := by
  obtain ⟨_, A1, e, rfl, i1, f⟩ := (twrite_ok q.k1 q.o1 hb hl).ex
  obtain ⟨p1, s1⟩ := q.chg i1 (write_Ok q.o1 hb) .refl (f.mono (by simp [fpK]))
  exact ⟨A1, e, p1, s1⟩
theorem P2.read {n : Int} (q : P2 Kp A t g k u K t' g' k' u' K') (hn : 0 ≤ n) : ∃ A1, F_Talk_read [.ref t, .int n] A = .ok (.tup (K.unread.take n.toNat)) A1 ∧ P2 Kp A1 t g k u (K.read n.toNat) t' g' k' u' K' ∧ Sm Kp A A1 := by
  obtain ⟨_, A1, e, rfl, i1, f⟩ := (tread_ok q.k1 hn).ex
  obtain ⟨p1, s1⟩ := q.chg i1 (read_Ok q.o1) .refl (f.mono fun j hj => by simp [fpK, hj])
  exact ⟨A1, e, p1, s1⟩
theorem clB_ok (q : P2 Kp A t g k u K t' g' k' u' K') (o : Sx K h th f f2 p [] 0 true w U true (some since) wt si tr) (l : K.last ≤ since + 100) (htr : tr < 16) {x : Option D} :
    Rk (finR (clB [some (.ref t), some (.int since), x] A)) fun v A1 => v = .bl true ∧ ∃ K1, P2 Kp A1 t g k u K1 t' g' k' u' K' ∧ Sm Kp A A1 ∧ Cl K1 since ∧ K1.unread = U ∧ K1.last ≤ since + 300 := by
  obtain ⟨r1, A1, e1, _, l1, q1, s1⟩ := q.due (tick := since + 119) (by omega)
  obtain ⟨K1, d1, o1, la1, _⟩ := o.due0 (t := since + 119) (fun r e => by cases e; omega) htr
  rw [d1] at l1 q1
  obtain ⟨q2, s2⟩ := q1.up (A1 := A1 ++ [.lst []]) .push
  have n1 := nil_ne l1
  have c2 := stand_ok q2.k1 q2.o1.op
  have st1 : K1.stand = "rests" := by rw [o1.stand]; show (if K1.last - since < 120 then "rests" else "closed") = "rests"; rw [la1, if_pos (by omega)]
  rw [st1] at c2
  obtain ⟨r3, A3, e3, _, l3, q3, s3⟩ := q2.due (tick := since + 120) (by show K1.last ≤ since + 120; omega)
  have ov : ∀ {T : Int}, since + 120 ≤ T → Kv.over { K1 with last := T } = true := fun {T} hT => by
    have oT := o1.last (t := T)
    unfold Kv.over
    rw [oT.stand]
    show decide ((if T - since < 120 then "rests" else "closed") = "cut" ∨ (if T - since < 120 then "rests" else "closed") = "gone" ∨ (if T - since < 120 then "rests" else "closed") = "closed") = true
    rw [if_neg (by omega)]; decide
  rw [over_due (ov (Int.le_refl _))] at l3 q3
  obtain ⟨q4, s4⟩ := q3.up (A1 := A3 ++ [.lst []]) .push
  have n3 := nil_ne l3
  have st4 : Kv.stand { K1 with last := since + 120 } = "closed" := by
    have oT := o1.last (t := since + 120)
    rw [oT.stand]
    show (if since + 120 - since < 120 then "rests" else "closed") = "closed"
    rw [if_neg (by omega)]
  have c4 := stand_ok q4.k1 q4.o1.op
  rw [st4] at c4
  obtain ⟨A5, e5, q5, s5⟩ := q4.write (ds := [5, 6]) (by decide) (by decide)
  have w5 : Kv.write { K1 with last := since + 120 } [5, 6] = { K1 with last := since + 120 } := by unfold Kv.write; rw [if_pos (.inl (ov (Int.le_refl _)))]
  have w5' : Kv.writeN { K1 with last := since + 120 } ([5, 6] : List Int).length = 0 := by unfold Kv.writeN; rw [if_pos (.inl (ov (Int.le_refl _)))]
  rw [w5] at q5
  rw [w5'] at e5
  obtain ⟨r6, A6, e6, l6, q6, s6⟩ := q5.cut
  have w6 : Kv.cut { K1 with last := since + 120 } = ({ K1 with last := since + 120 }, []) := by unfold Kv.cut; rw [if_pos (ov (Int.le_refl _))]
  rw [w6] at l6 q6
  obtain ⟨q7, s7⟩ := q6.up (A1 := A6 ++ [.lst []]) .push
  have n6 := nil_ne l6
  obtain ⟨A8, e8, q8, s8⟩ := q7.finish
  have w8 : Kv.finish { K1 with last := since + 120 } = { K1 with last := since + 120 } := by unfold Kv.finish; rw [if_pos (ov (Int.le_refl _))]
  rw [w8] at q8
  obtain ⟨r9, A9, e9, _, l9, q9, s9⟩ := q8.due (tick := since + 300) (by show since + 120 ≤ since + 300; omega)
  have ov9 : Kv.over { ({ K1 with last := since + 120 } : Kv) with last := since + 300 } = true := ov (T := since + 300) (by omega)
  rw [over_due ov9] at l9 q9
  obtain ⟨q10, s10⟩ := q9.up (A1 := A9 ++ [.lst []]) .push
  have n9 := nil_eq l9
  have st10 : Kv.stand { ({ K1 with last := since + 120 } : Kv) with last := since + 300 } = "closed" := by
    have oT := o1.last (t := since + 300)
    have e : Kv.stand { K1 with last := since + 300 } = "closed" := by
      rw [oT.stand]
      show (if since + 300 - since < 120 then "rests" else "closed") = "closed"
      rw [if_neg (by omega)]
    exact e
  have c10 := stand_ok q10.k1 q10.o1.op
  rw [st10] at c10
  have x0 := q.k1.o
  have x2 := q2.k1.o
  have x4 := q4.k1.o
  have x5 := q5.k1.o
  have x7 := q7.k1.o
  have x8 := q8.k1.o
  have x10 := q10.k1.o
  have e5' : F_Talk_write [.ref t, .tup [.int 5, .int 6]] (A3 ++ [.lst []]) = .ok (.int 0) A5 := e5
  unfold clB
  simp_arith [x0, Kv.fs, e1, n1, x2, c2, e3, n3, x4, c4, e5', x5, e6, n6, x7, e8, x8, e9, n9, x10, c10]
  refine ⟨_, q10.sub fun j hj => by simp [hj], ?_, .inr ⟨o1.ending, by show 0 < K1.G.passed; rw [o1.passed]; exact o1.p0, o1.rested⟩, ?_, Int.le_refl _⟩
  · exact ((((((((s1.trans s2.tail).trans s3.tail).trans s4.tail.tail).trans (s5.sub fun j hj => by simp [hj])).trans (s6.sub fun j hj => by simp [hj])).trans (s7.sub fun j hj => by simp [hj])).trans (s8.sub fun j hj => by simp [hj])).trans (s9.sub fun j hj => by simp [hj])).trans (s10.sub fun j hj => by simp [hj])
  · show Kv.unread K1 = U
    exact o1.unread
theorem closes0_ok (q : P2 Kp A t g k u K t' g' k' u' K') (o : Sx K h th f f2 p [] 0 true w U true (some since) wt si tr) (l : K.last ≤ since + 100) (htr : tr < 16) :
    Rk (F_l_closes [.ref t, .int since, .non] A) fun v A1 => v = .bl true ∧ ∃ k1 u1 K1, P2 Kp A1 t g k1 u1 K1 t' g' k' u' K' ∧ Sm Kp A A1 ∧ Cl K1 since ∧ K1.unread = U ∧ K1.last ≤ since + 300 := by
  obtain ⟨_, A1, e1, rfl, K1, r⟩ := (clB_ok (x := some .non) q o l htr).ex
  rw [closes_eq]
  simp_arith []
  rw [e1]
  exact ⟨rfl, k, u, K1, r⟩
theorem Sx.hear_cut {x n : Int} (o : Sx K h th f f2 p [] 0 true w U true (some since) wt si tr) (hx : 0 ≤ x ∧ x < 20) (hn : n = (f2 + w + x) % 4294967296) (hU : U.length ≤ 50) (ht : tick - since < 120) : K.heard (sgC th h "c" n 0 0) tick = ({ K with last := tick, ending := "cut" }, []) := by
  have o' := o.last (t := tick)
  have h97 : (sgC th h "c" n 0 0).has 97 = false := by show decide (97 ∈ (fS "c").cps.toList) = false; decide
  have h99 : (sgC th h "c" n 0 0).has 99 = true := by show decide (99 ∈ (fS "c").cps.toList) = true; decide
  have cb : Kv.cutBy { K with last := tick } (sgC th h "c" n 0 0) = true := by
    unfold Kv.cutBy
    rw [h97, if_neg (by simp)]
    simp only [o.T]
    show decide ((n - (f2 + w) % 4294967296) % 4294967296 ≤ 128 - (U.length : Int)) = true
    refine decide_eq_true ?_
    rw [hn]; omega
  unfold Kv.heard Kv.hear1 Kv.hear2
  rw [o'.over (fun r e => by cases e; exact ht), if_neg (by decide), h97, Bool.false_and, if_neg (by decide), h99, if_pos rfl, cb, if_pos rfl]
theorem closes1_ok {x n : Int} {i : Nat} (q : P2 Kp A t g k u K t' g' k' u' K') (o : Sx K h th f f2 p [] 0 true w U true (some since) wt si tr) (l : K.last ≤ since + 60) (s : IsS A i (sgC th h "c" n 0 0)) (hS : (sgC th h "c" n 0 0).Ok) (hx : 0 ≤ x ∧ x < 20) (hn : n = (f2 + w + x) % 4294967296) (hU : U.length ≤ 50) :
    Rk (F_l_closes [.ref t, .int since, .ref i] A) fun v A1 => v = .bl true ∧ ∃ k1 u1 K1, P2 Kp A1 t g k1 u1 K1 t' g' k' u' K' ∧ Sm Kp A A1 ∧ Cl K1 since ∧ K1.unread = U ∧ K1.last ≤ since + 300 := by
  obtain ⟨r1, k1, u1, A1, e1, _, l1, q1, s1⟩ := q.heard (tick := since + 60) s hS l
  rw [o.hear_cut hx hn hU (by omega)] at l1 q1
  obtain ⟨q2, s2⟩ := q1.up (A1 := A1 ++ [.lst []]) .push
  have n1 := nil_ne l1
  have c2 := stand_ok q2.k1 q2.o1.op
  rw [(over_cut (K := { K with last := since + 60, ending := "cut" }) rfl).2] at c2
  obtain ⟨r3, A3, e3, _, l3, q3, s3⟩ := q2.due (tick := since + 61) (by show since + 60 ≤ since + 61; omega)
  rw [due_over rfl] at l3 q3
  obtain ⟨q4, s4⟩ := q3.up (A1 := A3 ++ [.lst []]) .push
  have n3 := nil_ne l3
  obtain ⟨r5, A5, e5, _, l5, q5, s5⟩ := q4.due (tick := since + 300) (by show since + 61 ≤ since + 300; omega)
  rw [due_over rfl] at l5 q5
  obtain ⟨q6, s6⟩ := q5.up (A1 := A5 ++ [.lst []]) .push
  have n5 := nil_eq l5
  have c6 := stand_ok q6.k1 q6.o1.op
  rw [(over_cut (by rfl)).2] at c6
  have x0 := q.k1.o
  have x2 := q2.k1.o
  have x4 := q4.k1.o
  have x6 := q6.k1.o
  rw [closes_eq]
  simp_arith [x0, Kv.fs, e1, n1, x2, c2, e3, n3, x4, e5, n5, x6, c6]
  refine ⟨_, _, _, q6.sub fun j hj => by simp [hj], ?_, .inl rfl, ?_, Int.le_refl _⟩
  · exact ((((s1.trans s2.tail).trans s3.tail).trans s4.tail.tail).trans (s5.sub fun j hj => by simp [hj])).trans (s6.sub fun j hj => by simp [hj])
  · show Kv.unread K = U
    exact o.unread
end

noncomputable def rtF : S := (sSeq (sIf (tOo (tOf (eOp oNe (eMeth "read" [("Talk", F_Talk_read)] (eVar 2) (aCons (eC (.int 128)) aNil)) (eOp oIx (eVar 7) (eC (.int 1))))) (tOo (tOf (eOp oNe (eMeth "read" [("Talk", F_Talk_read)] (eVar 3) (aCons (eC (.int 128)) aNil)) (eOp oIx (eVar 7) (eC (.int 0))))) (tOf (eOp oNe (eOp oAdd (eMeth "ready" [("Talk", F_Talk_ready)] (eVar 2) aNil) (eMeth "ready" [("Talk", F_Talk_ready)] (eVar 3) aNil)) (eC (.int 0)))))) (sRet (eC (.bl false))) sNx) (sSeq (sSet 13 (eMake "Segment" F_Segment___init__ (aCons (eOp oIx (eVar 4) (eC (.int 1))) (aCons (eOp oIx (eVar 4) (eC (.int 0))) (aCons (eC (dS "aeo")) (aCons (eOp oIx (eVar 5) (eC (.int 1))) (aCons (eCall F_l_moved (aCons (eOp oIx (eVar 5) (eC (.int 0))) (aCons (eC (.int 1)) aNil))) (aCons (eC (.int 5)) (aCons (eTup (aCons (eC (.int 1)) aNil)) aNil))))))))) (sRet (eOp oEq (eMeth "heard" [("Talk", F_Talk_heard)] (eVar 2) (aCons (eVar 13) (aCons (eOp oAdd (eVar 10) (eC (.int 900))) aNil))) (eLst aNil)))))
noncomputable def rtE : S := (sSeq (sIf (tOo (tNo (tOf (eCall F_l_closes (aCons (eVar 2) (aCons (eVar 9) (aCons (eVar 11) aNil)))))) (tNo (tOf (eCall F_l_closes (aCons (eVar 3) (aCons (eVar 10) (aCons (eC .non) aNil))))))) (sRet (eC (.bl false))) sNx) rtF)
noncomputable def rtD : S := (sSeq (sSet 11 (eC .non)) (sSeq (sIf (tOf (eOp oEq (eCall F_l_next (aCons (eVar 0) (aCons (eC (.int 4)) aNil))) (eC (.int 0)))) (sSeq (sSet 12 (eCall F_l_moved (aCons (eOp oIx (eVar 5) (eC (.int 1))) (aCons (eOp oAdd (eOp oAdd (eC (.int 2)) (eCB (c1 oLen) (aCons (eOp oIx (eVar 7) (eC (.int 1))) aNil))) (eCall F_l_next (aCons (eVar 0) (aCons (eC (.int 20)) aNil)))) aNil)))) (sSet 11 (eMake "Segment" F_Segment___init__ (aCons (eOp oIx (eVar 4) (eC (.int 1))) (aCons (eOp oIx (eVar 4) (eC (.int 0))) (aCons (eC (dS "c")) (aCons (eVar 12) (aCons (eC (.int 0)) (aCons (eC (.int 0)) (aCons (eTup aNil) aNil)))))))))) sNx) rtE))
noncomputable def rtC : S := (sSeq (sSet 9 (eOp oAdd (eVar 1) (eCall F_l_next (aCons (eVar 0) (aCons (eC (.int 30)) aNil))))) (sSeq (sSet 10 (eCall F_l_left_right (aCons (eVar 6) (aCons (eVar 9) (aCons (eCall F_l_next (aCons (eVar 0) (aCons (eC (.int 4)) aNil))) aNil))))) (sSeq (sIf (tOf (eOp oLt (eVar 10) (eC (.int 0)))) (sRet (eC (.bl false))) sNx) rtD)))
noncomputable def rtB : S := (sSeq (sDrop (eMeth "finish" [("Talk", F_Talk_finish)] (eVar 2) aNil)) (sSeq (sIf (tOo (tOf (eOp oNe (eMeth "stand" [("Talk", F_Talk_stand)] (eVar 2) aNil) (eC (dS "ends")))) (tOo (tOf (eOp oNe (eMeth "write" [("Talk", F_Talk_write)] (eVar 2) (aCons (eTup (aCons (eC (.int 7)) aNil)) aNil)) (eC (.int 0)))) (tOf (eOp oNe (eMeth "stand" [("Talk", F_Talk_stand)] (eVar 3) aNil) (eC (dS "open")))))) (sRet (eC (.bl false))) sNx) (sSeq (sSet 1 (eOp oAdd (eOp oAdd (eVar 1) (eC (.int 1))) (eCall F_l_next (aCons (eVar 0) (aCons (eC (.int 9)) aNil))))) (sSeq (sDrop (eCall F_l_brought (aCons (eVar 6) (aCons (eC (.int 0)) (aCons (eVar 1) (aCons (eC (.int 0)) aNil)))))) (sSeq (sIf (tOo (tOf (eOp oNe (eMeth "stand" [("Talk", F_Talk_stand)] (eVar 2) aNil) (eC (dS "ends")))) (tOf (eOp oNe (eMeth "stand" [("Talk", F_Talk_stand)] (eVar 3) aNil) (eC (dS "left"))))) (sRet (eC (.bl false))) sNx) rtC)))))
noncomputable def rtA : S := (sSeq (sFor (wAs rg1 (aCons (eC (.int 2)) aNil)) (gN 8) (sSeq (sIf (tOf (eOp oNe (eMeth "write" [("Talk", F_Talk_write)] (eOp oIx (eVar 6) (eVar 8)) (aCons (eOp oIx (eVar 7) (eVar 8)) aNil)) (eCB (c1 oLen) (aCons (eOp oIx (eVar 7) (eVar 8)) aNil)))) (sRet (eC (.bl false))) sNx) (sDrop (eCall F_l_brought (aCons (eVar 6) (aCons (eVar 8) (aCons (eVar 1) (aCons (eC (.int 0)) aNil)))))))) rtB)
theorem right_eq : F_l_right = mkFn 1 14 (sSeq (sSet 1 (eCall F_l_next (aCons (eVar 0) (aCons (eC (.int 50)) aNil)))) (sSeq (sAsg (eCall F_l_pair (aCons (eVar 0) (aCons (eVar 1) aNil))) (gL [(gN 2), (gN 3), (gN 4), (gN 5)])) (sSeq (sSet 6 (eLst (aCons (eVar 2) (aCons (eVar 3) aNil)))) (sSeq (sSet 7 (eLst (aCons (eCall F_l_bytes (aCons (eVar 0) (aCons (eCall F_l_next (aCons (eVar 0) (aCons (eC (.int 51)) aNil))) aNil))) (aCons (eCall F_l_bytes (aCons (eVar 0) (aCons (eCall F_l_next (aCons (eVar 0) (aCons (eC (.int 51)) aNil))) aNil))) aNil)))) rtA)))) := rfl
section
variable {Kp : List Nat} {A A1 : Hs} {t g k t' g' k' tl rw dr : Nat} {u u' : Option (Nat × Nat)} {K K' : Kv} {h th f f2 since last tick : Int} {r0 r1 : List Int} {x8 : Option D}
abbrev rtX (dr t t' tl rw : Nat) (h th f f2 tick : Int) (x8 x9 x10 x11 x12 x13 : Option D) : Sl := [some (.ref dr), some (.int tick), some (.ref t), some (.ref t'), some (.tup [.int h, .int th]), some (.tup [.int f, .int f2]), some (.ref tl), some (.ref rw), x8, x9, x10, x11, x12, x13]
theorem ne_ints {l : List Int} {B : Hs} (hl : l.length ≤ 128) : oNe (.tup ((l.map D.int).take 128)) (.tup (l.map D.int)) B = .ok (.bl false) B := by
  rw [List.take_of_length_le (by rw [List.length_map]; exact hl)]
  exact oNe_pd (by rw [pd_tup, List.all_eq_true]; intro d hd; obtain ⟨x, _, rfl⟩ := List.mem_map.mp hd; rfl)
/-- what is left, at the end -/
theorem rtF_ok {x11 x12 : Option D} (q : P2 (dr :: Kp) A t g k u K t' g' k' u' K') (d : Drw A dr) (c1 : Cl K since) (c2 : Cl K' last) (hU : K.unread = r1.map D.int) (hU' : K'.unread = r0.map D.int) (l1 : K.last ≤ last + 600) (hsl : since ≤ last) (hl0 : r0.length ≤ 50) (hl1 : r1.length ≤ 50) (hrw : rw ∈ Kp) (grw : A[rw]? = some (.lst [.tup (r0.map D.int), .tup (r1.map D.int)]))
    (hh : 0 ≤ h ∧ h ≤ 255) (ht : 0 ≤ th ∧ th ≤ 255) (hf : 0 ≤ f ∧ f < 4294967296) (hf2 : 0 ≤ f2 ∧ f2 < 4294967296) :
    Rk (finR (rtF (rtX dr t t' tl rw h th f f2 tick x8 (some (.int since)) (some (.int last)) x11 x12 none) A)) fun v A1 => v = .bl true ∧ Drw A1 dr := by
  obtain ⟨A1, e1, q1, s1⟩ := q.read (n := 128) (by decide)
  obtain ⟨A2, e2, q2, s2⟩ := q1.symm.read (n := 128) (by decide)
  rw [hU, show Int.toNat 128 = 128 from rfl] at e1
  rw [hU', show Int.toNat 128 = 128 from rfl] at e2
  have g1 := s1.get grw (List.mem_cons_of_mem _ hrw)
  have g2 := (s1.trans s2).get grw (List.mem_cons_of_mem _ hrw)
  have a0 : atI [D.tup (r0.map D.int), .tup (r1.map D.int)] 0 = some (.tup (r0.map D.int)) := rfl
  have a1 : atI [D.tup (r0.map D.int), .tup (r1.map D.int)] 1 = some (.tup (r1.map D.int)) := rfl
  have w1 := tready_ok q2.k2
  have w2 := tready_ok q2.k1
  have rd : ∀ {K : Kv} {l : List Int}, K.unread = l.map D.int → l.length ≤ 50 → (K.read (Int.toNat 128)).unread = [] := by
    intro K l e hl
    have e' : (K.read (Int.toNat 128)).unread = K.unread.drop (Int.toNat 128) := by
      unfold Kv.read Kv.unread
      cases K.T <;> rfl
    rw [e', e]
    exact List.drop_eq_nil_of_le (by rw [List.length_map]; show l.length ≤ 128; omega)
  have z1 := rd hU hl1
  have z2 := rd hU' hl0
  have w1' : F_Talk_ready [.ref t] A2 = .ok (.int 0) A2 := by rw [w1, z1]; rfl
  have w2' : F_Talk_ready [.ref t'] A2 = .ok (.int 0) A2 := by rw [w2, z2]; rfl
  have SO : Sg.Ok ⟨th, h, fS "aeo", f2, (f + 1) % 4294967296, 5, [.int 1]⟩ := ⟨ht, hh, by show fS "aeo" = mkOf (fS "aeo"); decide, ⟨hf2.1, by show f2 ≤ 4294967295; omega⟩, ⟨by show 0 ≤ (f + 1) % 4294967296; omega, by show (f + 1) % 4294967296 ≤ 4294967295; omega⟩, ⟨by show (0 : Int) ≤ 5; decide, by show (5 : Int) ≤ 128; decide⟩, ⟨[1], rfl, by simp⟩, by show 1 ≤ 200; decide⟩
  obtain ⟨_, A3, e3, rfl, t3, F3⟩ := (seg_ok (A := A2) SO).ex
  have e3' : make "Segment" F_Segment___init__ [.int th, .int h, dS "aeo", .int f2, .int ((f + 1) % 4294967296), .int 5, .tup [.int 1]] A2 = .ok (.ref A2.length) A3 := e3
  obtain ⟨q3, s3⟩ := q2.symm.up F3
  have rlast : (K.read (Int.toNat 128)).last = K.last := rfl
  obtain ⟨r4, k4, u4, A4, e4, _, l4, q4, s4⟩ := q3.heard (tick := last + 900) t3 SO (by rw [rlast]; omega)
  have ov : Kv.over { K.read (Int.toNat 128) with last := last + 900 } = true := by
    have c1' : Cl { K.read (Int.toNat 128) with last := last + 900 } since := c1
    exact c1'.over (.inl (by show since + 120 ≤ last + 900; omega))
  rw [over_hear ov] at l4 q4
  have n4 := nil_eq l4
  have o1 := q.k1.o
  have o2 := q1.k2.o
  have o3 := q2.k2.o
  have o3' := q2.k1.o
  have o4 := q3.k1.o
  have dd : Drw (A4 ++ [.lst []]) dr := by
    obtain ⟨a, b, c, dd⟩ := d
    exact ⟨a, b, c, get_push (s4.get (s3.get (s2.get (s1.get dd (by simp)) (by simp)) (by simp)) (by simp))⟩
  have b0 : atI [D.int h, .int th] 0 = some (.int h) := rfl
  have b1 : atI [D.int h, .int th] 1 = some (.int th) := rfl
  have b2 : atI [D.int f, .int f2] 0 = some (.int f) := rfl
  have b3 : atI [D.int f, .int f2] 1 = some (.int f2) := rfl
  rw [rtF]
  simp_arith [o1, Kv.fs, e1, g1, a1, ne_ints (show r1.length ≤ 128 by omega), o2, e2, g2, a0, ne_ints (show r0.length ≤ 128 by omega), o3, o3', w1', w2', z48, b0, b1, b2, b3, l_moved_ok, e3', o4, e4, n4, -z5o]
  exact dd
end

section
variable {Kp : List Nat} {A A1 : Hs} {t g k t' g' k' tl rw dr : Nat} {u u' : Option (Nat × Nat)} {K K' : Kv} {h th f f2 since last tick p w p' w' : Int} {r0 r1 : List Int} {x8 x12 : Option D} {U : List D}
theorem Drw.sm {i : Nat} (d : Drw A i) (s : Sm Kp A A1) (h : i ∈ Kp) : Drw A1 i := by
  obtain ⟨a, b, c, dd⟩ := d
  exact ⟨a, b, c, s.get dd h⟩
theorem cls_ok {seg : D} (q : P2 Kp A t g k u K t' g' k' u' K') (o : Sx K h th f f2 p [] 0 true w U true (some since) 4 none 0) (l : K.last ≤ since + 60) (hs : seg = .non ∨ ∃ (i : Nat) (x n : Int), seg = .ref i ∧ (0 ≤ x ∧ x < 20) ∧ n = (f2 + w + x) % 4294967296 ∧ IsS A i (sgC th h "c" n 0 0)) (hh : 0 ≤ h ∧ h ≤ 255) (ht : 0 ≤ th ∧ th ≤ 255) (hU : U.length ≤ 50) :
    Rk (F_l_closes [.ref t, .int since, seg] A) fun v A1 => v = .bl true ∧ ∃ k1 u1 K1, P2 Kp A1 t g k1 u1 K1 t' g' k' u' K' ∧ Sm Kp A A1 ∧ Cl K1 since ∧ K1.unread = U ∧ K1.last ≤ since + 300 := by
  rcases hs with rfl | ⟨i, x, n, rfl, hx, hn, s⟩
  · exact closes0_ok q o (by omega) (by decide)
  · exact closes1_ok q o l s (sgC_Ok (z := "c") (by show fS "c" = mkOf (fS "c"); decide) ht hh (by omega) (by decide) (by decide)) hx hn hU
theorem rtE_ok {seg : D} (q : P2 (dr :: Kp) A t g k u K t' g' k' u' K') (d : Drw A dr) (o : Sx K h th f f2 p [] 0 true w (r1.map D.int) true (some since) 4 none 0) (o' : Sx K' th h f2 f w' [] 0 true p' (r0.map D.int) true (some last) 4 none 0) (l1 : K.last ≤ last) (l2 : K'.last ≤ last) (hsl : since ≤ last ∧ last ≤ since + 28) (hs : seg = .non ∨ ∃ (i : Nat) (x n : Int), seg = .ref i ∧ (0 ≤ x ∧ x < 20) ∧ n = (f2 + w + x) % 4294967296 ∧ IsS A i (sgC th h "c" n 0 0)) (hl0 : r0.length ≤ 50) (hl1 : r1.length ≤ 50) (hrw : rw ∈ Kp) (grw : A[rw]? = some (.lst [.tup (r0.map D.int), .tup (r1.map D.int)]))
    (hh : 0 ≤ h ∧ h ≤ 255) (ht : 0 ≤ th ∧ th ≤ 255) (hf : 0 ≤ f ∧ f < 4294967296) (hf2 : 0 ≤ f2 ∧ f2 < 4294967296) :
    Rk (finR (rtE (rtX dr t t' tl rw h th f f2 tick x8 (some (.int since)) (some (.int last)) (some seg) x12 none) A)) fun v A1 => v = .bl true ∧ Drw A1 dr := by
  obtain ⟨_, A1, e1, rfl, k1, u1, K1, q1, s1, c1, un1, la1⟩ := (cls_ok q o (by omega) hs hh ht (by rw [List.length_map]; exact hl1)).ex
  obtain ⟨_, A2, e2, rfl, k2, u2, K2, q2, s2, c2, un2, la2⟩ := (closes0_ok q1.symm o' (by omega) (by decide)).ex
  obtain ⟨_, A3, e3, rfl, d3⟩ := (rtF_ok (tl := tl) (tick := tick) (x8 := x8) (x11 := some seg) (x12 := x12) q2.symm ((d.sm s1 (by simp)).sm s2 (by simp)) c1 c2 un1 un2 (by omega) hsl.1 hl0 hl1 hrw ((s1.trans s2).get grw (by simp [hrw])) hh ht hf hf2).ex
  unfold rtE
  simp_arith [e1, e2]
  rw [e3]
  exact ⟨rfl, d3⟩
theorem rtD_ok (q : P2 (dr :: Kp) A t g k u K t' g' k' u' K') (dn : dr ∉ Kp) (d : Drw A dr) (o : Sx K h th f f2 p [] 0 true w (r1.map D.int) true (some since) 4 none 0) (o' : Sx K' th h f2 f w' [] 0 true p' (r0.map D.int) true (some last) 4 none 0) (hw : w = 2 + (r1.length : Int)) (l1 : K.last ≤ last) (l2 : K'.last ≤ last) (hsl : since ≤ last ∧ last ≤ since + 28) (hl0 : r0.length ≤ 50) (hl1 : r1.length ≤ 50) (hrw : rw ∈ Kp) (grw : A[rw]? = some (.lst [.tup (r0.map D.int), .tup (r1.map D.int)]))
    (hh : 0 ≤ h ∧ h ≤ 255) (ht : 0 ≤ th ∧ th ≤ 255) (hf : 0 ≤ f ∧ f < 4294967296) (hf2 : 0 ≤ f2 ∧ f2 < 4294967296) :
    Rk (finR (rtD (rtX dr t t' tl rw h th f f2 tick x8 (some (.int since)) (some (.int last)) none none none) A)) fun v A1 => v = .bl true ∧ Drw A1 dr := by
  obtain ⟨v, A1, a1, b1, e1, d1, F1⟩ := next_ok (n := 4) d (by decide) (by decide)
  obtain ⟨q1, m1⟩ := q.drawn dn d F1
  have g1 := m1.get grw hrw
  have b0 : atI [D.int h, .int th] 0 = some (.int h) := rfl
  have b1' : atI [D.int h, .int th] 1 = some (.int th) := rfl
  have b3 : atI [D.int f, .int f2] 1 = some (.int f2) := rfl
  have a1' : atI [D.tup (r0.map D.int), .tup (r1.map D.int)] 1 = some (.tup (r1.map D.int)) := rfl
  unfold rtD
  by_cases c : v = 0
  · subst c
    obtain ⟨x, A2, a2, b2, e2, d2, F2⟩ := next_ok (n := 20) d1 (by decide) (by decide)
    obtain ⟨q2, m2⟩ := q1.drawn dn d1 F2
    obtain ⟨n, hn⟩ : ∃ n, n = (f2 + (2 + (r1.length : Int) + x)) % 4294967296 := ⟨_, rfl⟩
    have SO := sgC_Ok (h := th) (th := h) (z := "c") (w := n) (a := 0) (r := 0) (by show fS "c" = mkOf (fS "c"); decide) ht hh (by omega) (by decide) (by decide)
    obtain ⟨_, A3, e3, rfl, t3, F3⟩ := (seg_ok (A := A2) SO).ex
    have e3' : make "Segment" F_Segment___init__ [.int th, .int h, dS "c", .int n, .int 0, .int 0, .tup []] A2 = .ok (.ref A2.length) A3 := e3
    obtain ⟨q3, m3⟩ := q2.up F3
    obtain ⟨_, A4, e4, rfl, d4⟩ := (rtE_ok (tl := tl) (tick := tick) (x8 := x8) (x12 := some (.int n)) (seg := .ref A2.length) q3 (d2.sm m3 (by simp)) o o' l1 l2 hsl (.inr ⟨_, x, n, rfl, ⟨a2, b2⟩, by rw [hn, hw]; congr 1; omega, t3⟩) hl0 hl1 hrw ((m2.trans m3.tail).get g1 hrw) hh ht hf hf2).ex
    rw [hn] at e3' e4
    simp_arith [e1, g1, a1', z48, b0, b1', b3, e2, l_moved_ok, e3', -z5o]
    rw [e4]
    exact ⟨rfl, d4⟩
  · obtain ⟨_, A4, e4, rfl, d4⟩ := (rtE_ok (tl := tl) (tick := tick) (x8 := x8) (x12 := none) (seg := .non) q1 d1 o o' l1 l2 hsl (.inl rfl) hl0 hl1 hrw g1 hh ht hf hf2).ex
    simp_arith [e1, c]
    rw [e4]
    exact ⟨rfl, d4⟩
theorem rtC_ok {si' : Option Int} (q : P2 (dr :: Kp) A t g k u K t' g' k' u' K') (dn : dr ∉ Kp) (d : Drw A dr) (o : Sx K h th f f2 p [] 0 true w (r1.map D.int) false none 4 none 0) (o' : Sx K' th h f2 f w [] 0 false p (r0.map D.int) true none 4 si' 0) (hw : w = 1 + (r1.length : Int)) (htk : 0 ≤ tick) (l1 : K.last ≤ tick) (l2 : K'.last ≤ tick) (hl0 : r0.length ≤ 50) (hl1 : r1.length ≤ 50) (htl : tl ∈ Kp) (gtl : A[tl]? = some (.lst [.ref t, .ref t'])) (hrw : rw ∈ Kp) (grw : A[rw]? = some (.lst [.tup (r0.map D.int), .tup (r1.map D.int)]))
    (hh : 0 ≤ h ∧ h ≤ 255) (ht : 0 ≤ th ∧ th ≤ 255) (hf : 0 ≤ f ∧ f < 4294967296) (hf2 : 0 ≤ f2 ∧ f2 < 4294967296) :
    Rk (finR (rtC (rtX dr t t' tl rw h th f f2 tick x8 none none none none none) A)) fun v A1 => v = .bl true ∧ Drw A1 dr := by
  obtain ⟨x, A1, a1, b1, e1, d1, F1⟩ := next_ok (n := 30) d (by decide) (by decide)
  obtain ⟨q1, m1⟩ := q.drawn dn d F1
  obtain ⟨v, A2, a2, b2, e2, d2, F2⟩ := next_ok (n := 4) d1 (by decide) (by decide)
  obtain ⟨q2, m2⟩ := q1.drawn dn d1 F2
  obtain ⟨lost, rfl⟩ : ∃ n : Nat, v = n := ⟨v.toNat, by omega⟩
  have M := m1.trans m2
  obtain ⟨_, A3, e3, rfl, k1, u1, K1, k2, u2, K2, q3, m3, o3, x1, o3', x2⟩ := (left_right_ok (tick := tick + x) (lost := lost) (tl := tl) q2 o o' (by omega) (by omega) (by omega) (by simp [htl]) (M.get gtl htl) (by rw [List.length_map]; exact hl1) (by rw [List.length_map]; exact hl0)).ex
  have wf := Wl_facts (j := lost) (by omega)
  have hn : ¬ (tick + x + Wl lost < 0) := by omega
  obtain ⟨_, A4, e4, rfl, d4⟩ := (rtD_ok (tl := tl) (tick := tick) (x8 := x8) q3 dn (d2.sm m3 (by simp)) o3 o3' (by omega) x1 x2 ⟨by omega, by omega⟩ hl0 hl1 hrw (m3.get (M.get grw hrw) (by simp [hrw])) hh ht hf hf2).ex
  unfold rtC
  simp_arith [e1, e2, e3, hn]
  rw [e4]
  exact ⟨rfl, d4⟩
end

section
variable {Kp : List Nat} {A A1 : Hs} {t g k t' g' k' tl rw dr : Nat} {u u' : Option (Nat × Nat)} {K K' : Kv} {h th f f2 since last tick p w p' w' : Int} {r0 r1 : List Int} {x8 x12 : Option D} {U : List D}
theorem rtB_ok {si' : Option Int} (q : P2 (dr :: Kp) A t g k u K t' g' k' u' K') (dn : dr ∉ Kp) (d : Drw A dr) (o : Sx K h th f f2 p [] 0 false w (r1.map D.int) false none 4 none 0) (o' : Sx K' th h f2 f w [] 0 false p (r0.map D.int) false none 4 si' 0) (hw : w = 1 + (r1.length : Int)) (htk : 0 ≤ tick) (l1 : K.last ≤ tick) (l2 : K'.last ≤ tick) (hl0 : r0.length ≤ 50) (hl1 : r1.length ≤ 50) (htl : tl ∈ Kp) (gtl : A[tl]? = some (.lst [.ref t, .ref t'])) (hrw : rw ∈ Kp) (grw : A[rw]? = some (.lst [.tup (r0.map D.int), .tup (r1.map D.int)]))
    (hh : 0 ≤ h ∧ h ≤ 255) (ht : 0 ≤ th ∧ th ≤ 255) (hf : 0 ≤ f ∧ f < 4294967296) (hf2 : 0 ≤ f2 ∧ f2 < 4294967296) :
    Rk (finR (rtB (rtX dr t t' tl rw h th f f2 tick x8 none none none none none) A)) fun v A1 => v = .bl true ∧ Drw A1 dr := by
  obtain ⟨A1, e1, q1, m1⟩ := q.finish
  obtain ⟨oF, lF⟩ := o.finish (fun r q => by cases q)
  rw [List.nil_append] at oF
  have w0 := oF.write0 (ds := [7])
  obtain ⟨A2, e2, q2, m2⟩ := q1.write (ds := [7]) (by decide) (by decide)
  rw [w0.1] at q2
  rw [w0.2] at e2
  have e2' : F_Talk_write [.ref t, .tup [.int 7]] A1 = .ok (.int 0) A2 := e2
  have c1 := stand_ok q1.k1 q1.o1.op
  have s1 : K.finish.stand = "ends" := by rw [oF.stand]; rfl
  rw [s1] at c1
  have c2 := stand_ok q2.k2 q2.o2.op
  have s2 : K'.stand = "open" := by rw [o'.stand]; rfl
  rw [s2] at c2
  obtain ⟨x, A3, a3, b3, e3, d3, F3⟩ := next_ok (n := 9) ((d.sm m1 (by simp)).sm m2 (by simp)) (by decide) (by decide)
  obtain ⟨q3, m3⟩ := q2.drawn dn ((d.sm m1 (by simp)).sm m2 (by simp)) F3
  have M := (m1.tail.trans m2.tail).trans m3
  obtain ⟨tk, htk2⟩ : ∃ tk, tk = tick + 1 + x := ⟨_, rfl⟩
  obtain ⟨Kd, ed, od, ld⟩ := oF.dueE (t := tk) (fun r q => by cases q) (by decide)
  obtain ⟨K2, K2', eb, y1, _, y3, y4⟩ := step_e (t := tk) (lost := 0) od o' (by decide) (by rw [List.length_map]; omega) (by rw [List.length_map]; omega) rfl (.inl rfl)
  obtain ⟨y1, y2⟩ := y1 rfl
  have y1' : Sx K2 h th f f2 (p + 1) [] 0 true w (r1.map D.int) false none 4 none 0 := by simpa using y1
  have y3' : Sx K2' th h f2 f w [] 0 false (p + 1) (r0.map D.int) true none 4 none 0 := by simpa using y3
  obtain ⟨_, A4, e4, rfl, k1, u1, k2, u2, q4, m4⟩ := (brought_ok (e := 0) (x0 := t) (x1 := t') (tick := tk) (lost := 0) (tl := tl) q3 (by simp [htl]) (M.get gtl htl) (.inl ⟨rfl, rfl, rfl⟩) (by rw [lF]; omega) (by omega)).ex
  rw [ed] at e4 q4
  simp only [List.foldl_cons, List.foldl_nil] at e4 q4
  rw [eb] at e4 q4
  have e4' : F_l_brought [.ref tl, .int 0, .int tk, .int 0] A3 = .ok (.int 0) A4 := e4
  have c3 := stand_ok q4.k1 q4.o1.op
  have c4 := stand_ok q4.k2 q4.o2.op
  have s3 : K2.stand = "ends" := by rw [y1'.stand]; rfl
  have s4 : K2'.stand = "left" := by rw [y3'.stand]; rfl
  rw [show Kv.stand (K2, K2', (0 : Int)).1 = "ends" from s3] at c3
  rw [show Kv.stand (K2, K2', (0 : Int)).2.1 = "left" from s4] at c4
  obtain ⟨_, A5, e5, rfl, d5⟩ := (rtC_ok (tl := tl) (tick := tk) (x8 := x8) q4 dn (d3.sm m4 (by simp)) y1' y3' hw (by omega) (by show K2.last ≤ tk; omega) (by show K2'.last ≤ tk; omega) hl0 hl1 htl (m4.get (M.get gtl htl) (by simp [htl])) hrw (m4.get (M.get grw hrw) (by simp [hrw])) hh ht hf hf2).ex
  have o0 := q.k1.o
  have o1 := q1.k1.o
  have o2 := q2.k2.o
  have o4 := q4.k1.o
  have o4' := q4.k2.o
  unfold rtB
  simp_arith [o0, Kv.fs, e1, o1, c1, e2', o2, c2, e3]
  rw [← htk2]
  simp_arith [e4', o4, o4', Kv.fs, c3, c4]
  rw [e5]
  exact ⟨rfl, d5⟩
/-- one writes, the other hears -/
theorem wb_ok {ds : List Int} {e x0 x1 : Nat} (q : P2 Kp A t g k u K t' g' k' u' K') (o : Sx K h th f f2 p [] 0 false w U false none 4 none 0) (o' : Sx K' th h f2 f w [] 0 false p [] false none 4 none 0) (hp : 64 ≤ K.G.pace) (htl : tl ∈ Kp) (gtl : A[tl]? = some (.lst [.ref x0, .ref x1])) (hx : (e = 0 ∧ x0 = t ∧ x1 = t') ∨ (e = 1 ∧ x0 = t' ∧ x1 = t)) (l1 : K.last ≤ tick) (l2 : K'.last ≤ tick) (hb : ∀ b ∈ ds, 0 ≤ b ∧ b ≤ 255) (hl : ds.length ≤ 50) (hU : U.length ≤ 50) :
    ∃ A1 A2, F_Talk_write [.ref t, .tup (ds.map D.int)] A = .ok (.int ds.length) A1 ∧ F_l_brought [.ref tl, .int e, .int tick, .int 0] A1 = .ok (.int 0) A2 ∧ Sm Kp A A1 ∧ ∃ k1 u1 K1 k2 u2 K2, P2 Kp A2 t g k1 u1 K1 t' g' k2 u2 K2 ∧ Sm Kp A A2 ∧ Sx K1 h th f f2 (p + ds.length) [] 0 false w U false none 4 none 0 ∧ Sx K2 th h f2 f w [] 0 false (p + ds.length) (ds.map D.int) false none 4 none 0 ∧ K1.last ≤ tick ∧ K2.last ≤ tick ∧ K2.G.pace = K'.G.pace := by
  obtain ⟨A1, e1, q1, m1⟩ := q.write hb (by omega)
  obtain ⟨oW, w1, w2, w3⟩ := o.write (ds := ds) (fun r q => by cases q) (by omega)
  rw [w1] at e1
  obtain ⟨Kd, ed, od, ld⟩ := oW.dueD (t := tick) (fun r q => by cases q) (by decide) (by rw [List.length_map]; omega) (by rw [w3]; exact hp) (fun x hx => by obtain ⟨i, _, rfl⟩ := List.mem_map.mp hx; exact ⟨i, rfl⟩)
  obtain ⟨K1, K1', wt1, si1', tr1, tr1', ef, z1, z2, z3, z4, z5, z6, z7, z8, z9⟩ := data_fold (t := tick) od o' (by decide) (fun x hx => by obtain ⟨i, _, rfl⟩ := List.mem_map.mp hx; exact ⟨i, rfl⟩) (by rw [List.length_map]; exact hl) (by omega) rfl (fun hh => by rw [if_pos hh]; exact ⟨rfl, rfl⟩)
  obtain ⟨_, A2, e2, rfl, k1, u1, k2, u2, q2, m2⟩ := (brought_ok (e := e) (x0 := x0) (x1 := x1) (tick := tick) (lost := 0) (tl := tl) q1 htl (m1.get gtl htl) hx (by rw [w2]; exact l1) l2).ex
  rw [ed] at e2 q2
  simp only at e2 q2
  rw [ef] at e2 q2
  rw [List.length_map] at z1 z2
  subst z4
  have z8' := z8 rfl
  have z9' := z9 rfl
  subst z8' z9'
  have z3' : si1' = none := by rcases z3 rfl with h | h <;> exact h
  subst z3'
  refine ⟨A1, A2, e1, e2, m1, k1, u1, K1, k2, u2, K1', q2, m1.trans m2, z1, z2, ?_, ?_, z7⟩
  · rw [z5]; split <;> omega
  · rw [z6]; split <;> omega
end

section
variable {Kp : List Nat} {A A1 : Hs} {t g k t' g' k' tl rw dr : Nat} {u u' : Option (Nat × Nat)} {K K' : Kv} {h th f f2 tick : Int} {r0 r1 : List Int}
theorem rtA_ok (q : P2 (dr :: Kp) A t g k u K t' g' k' u' K') (dn : dr ∉ Kp) (d : Drw A dr) (o : Sx K h th f f2 1 [] 0 false 1 [] false none 4 none 0) (o' : Sx K' th h f2 f 1 [] 0 false 1 [] false none 4 none 0) (hp : 64 ≤ K.G.pace) (hp' : 64 ≤ K'.G.pace) (htk : 0 ≤ tick) (l1 : K.last ≤ tick) (l2 : K'.last ≤ tick) (hb0 : ∀ b ∈ r0, 0 ≤ b ∧ b ≤ 255) (hb1 : ∀ b ∈ r1, 0 ≤ b ∧ b ≤ 255) (hl0 : r0.length ≤ 50) (hl1 : r1.length ≤ 50) (htl : tl ∈ Kp) (gtl : A[tl]? = some (.lst [.ref t, .ref t'])) (hrw : rw ∈ Kp) (grw : A[rw]? = some (.lst [.tup (r0.map D.int), .tup (r1.map D.int)]))
    (hh : 0 ≤ h ∧ h ≤ 255) (ht : 0 ≤ th ∧ th ≤ 255) (hf : 0 ≤ f ∧ f < 4294967296) (hf2 : 0 ≤ f2 ∧ f2 < 4294967296) :
    Rk (finR (rtA (rtX dr t t' tl rw h th f f2 tick none none none none none none) A)) fun v A1 => v = .bl true ∧ Drw A1 dr := by
  unfold rtA
  simp_arith []
  refine for_go (R := fun rs => Rk (finR (seqR rs _)) _) (fun j env B => ∃ x8, env = rtX dr t t' tl rw h th f f2 tick x8 none none none none none ∧ Sm (dr :: Kp) A B ∧ ∃ k u K k' u' K', P2 (dr :: Kp) B t g k u K t' g' k' u' K' ∧ K.last ≤ tick ∧ K'.last ≤ tick ∧ (if j = 0 then Sx K h th f f2 1 [] 0 false 1 [] false none 4 none 0 ∧ Sx K' th h f2 f 1 [] 0 false 1 [] false none 4 none 0 ∧ 64 ≤ K.G.pace ∧ 64 ≤ K'.G.pace else if j = 1 then Sx K h th f f2 (1 + r0.length) [] 0 false 1 [] false none 4 none 0 ∧ Sx K' th h f2 f 1 [] 0 false (1 + r0.length) (r0.map D.int) false none 4 none 0 ∧ 64 ≤ K'.G.pace else Sx K h th f f2 (1 + r0.length) [] 0 false (1 + r1.length) (r1.map D.int) false none 4 none 0 ∧ Sx K' th h f2 f (1 + r1.length) [] 0 false (1 + r0.length) (r0.map D.int) false none 4 none 0)) ⟨none, rfl, .refl, k, u, K, k', u', K', q, l1, l2, by rw [if_pos rfl]; exact ⟨o, o', hp, hp'⟩⟩ (fun j env B _ _ => trivial) ?_ ?_
  · rintro j _ B d0 hd ⟨x8, rfl, sB, k, u, K, k', u', K', qB, l1, l2, st⟩
    obtain ⟨rfl, hi⟩ := rgL_get hd
    have hi' : j < 2 := hi
    have gT := sB.get gtl (by simp [htl])
    have gW := sB.get grw (by simp [hrw])
    rcases (by omega : j = 0 ∨ j = 1) with rfl | rfl
    · rw [show ((0 : Int) + ((0 : Nat) : Int) * 1) = 0 from rfl]
      rw [if_pos rfl] at st
      obtain ⟨p1, p2, p3, p4⟩ := st
      obtain ⟨B1, B2, e1, e2, m1, k1, u1, K1, k2, u2, K2, q2, m2, y1, y2, y3, y4, y5⟩ := wb_ok (tl := tl) (e := 0) (ds := r0) (x0 := t) (x1 := t') qB p1 p2 p3 (by simp [htl]) gT (.inl ⟨rfl, rfl, rfl⟩) l1 l2 hb0 hl0 (by decide)
      have e2' : F_l_brought [.ref tl, .int 0, .int tick, .int 0] B1 = .ok (.int 0) B2 := e2
      have gT1 := m1.get gT (by simp [htl])
      have gW1 := m1.get gW (by simp [hrw])
      have oB := qB.k1.o
      have a1 : atI [D.ref t, .ref t'] 0 = some (.ref t) := rfl
      have a2 : atI [D.tup (r0.map D.int), .tup (r1.map D.int)] 0 = some (.tup (r0.map D.int)) := rfl
      simp_arith [gT, a1, gW, a2, oB, Kv.fs, e1, gW1, e2', -z5o]
      refine ⟨_, rfl, sB.trans m2, k1, u1, K1, k2, u2, K2, q2, y3, y4, ?_⟩
      exact ⟨y1, y2, by rw [y5]; exact p4⟩
    · rw [show ((0 : Int) + ((1 : Nat) : Int) * 1) = 1 from rfl]
      rw [if_neg (by decide), if_pos rfl] at st
      obtain ⟨p1, p2, p3⟩ := st
      obtain ⟨B1, B2, e1, e2, m1, k1, u1, K1, k2, u2, K2, q2, m2, y1, y2, y3, y4, y5⟩ := wb_ok (tl := tl) (e := 1) (ds := r1) (x0 := t) (x1 := t') qB.symm p2 p1 p3 (by simp [htl]) gT (.inr ⟨rfl, rfl, rfl⟩) l2 l1 hb1 hl1 (by rw [List.length_map]; exact hl0)
      have e2' : F_l_brought [.ref tl, .int 1, .int tick, .int 0] B1 = .ok (.int 0) B2 := e2
      have gT1 := m1.get gT (by simp [htl])
      have gW1 := m1.get gW (by simp [hrw])
      have oB := qB.k2.o
      have a1 : atI [D.ref t, .ref t'] 1 = some (.ref t') := rfl
      have a2 : atI [D.tup (r0.map D.int), .tup (r1.map D.int)] 1 = some (.tup (r1.map D.int)) := rfl
      simp_arith [gT, a1, gW, a2, oB, Kv.fs, e1, gW1, e2', -z5o]
      refine ⟨_, rfl, sB.trans m2, k2, u2, K2, k1, u1, K1, q2.symm, y4, y3, ?_⟩
      exact ⟨y2, y1⟩
  · rintro _ B ⟨x8, rfl, sB, k, u, K, k', u', K', qB, l1, l2, st⟩
    rw [rgL_len] at st
    have e2 : Int.toNat 2 = 2 := rfl
    rw [if_neg (by decide), if_neg (by decide)] at st
    obtain ⟨p1, p2⟩ := st
    obtain ⟨_, B1, e1, rfl, d1⟩ := (rtB_ok (tl := tl) (tick := tick) (x8 := x8) qB dn (d.sm sB (by simp)) p1 p2 rfl htk l1 l2 hl0 hl1 htl (sB.get gtl (by simp [htl])) hrw (sB.get grw (by simp [hrw])) hh ht hf hf2).ex
    simp_arith []
    rw [e1]
    exact ⟨rfl, d1⟩
end
theorem right_ok {A : Hs} {i : Nat} (d : Drw A i) : Rk (F_l_right [.ref i] A) fun v A1 => v = .bl true ∧ Drw A1 i := by
  have ni := d.lt
  obtain ⟨tick, A1, a1, b1, e1, d1, f1⟩ := next_ok (n := 50) d (by decide) (by decide)
  obtain ⟨_, A2, e2, r, t, g, k, t', g', k', u, u', h, th, f, f2, rfl, gr, hh, ht, hf, hf2, k1, k2, O1, O2, dj, n1, n2, nr, d2, F2⟩ := (pair_ok (tick := tick) d1 a1).ex
  have n01 := f1.le
  have n12 := F2.le
  obtain ⟨A3, hA3⟩ : ∃ A3, A3 = A2 ++ [O.lst [.ref t, .ref t']] := ⟨_, rfl⟩
  have F3 : Fr [] A2 A3 := by rw [hA3]; exact .push
  have g3 : A3[A2.length]? = some (.lst [.ref t, .ref t']) := by rw [hA3]; exact z9e
  have d3 := d2.frame F3 (by simp)
  obtain ⟨m0, A4, a4, b4, e4, d4, F4⟩ := next_ok (n := 51) d3 (by decide) (by decide)
  obtain ⟨_, A5, e5, r0, rfl, l0, hb0, d5, F5⟩ := (lbytes_ok (n := m0) d4 ⟨a4, by omega⟩).ex
  obtain ⟨m1, A6, a6, b6, e6, d6, F6⟩ := next_ok (n := 51) d5 (by decide) (by decide)
  obtain ⟨_, A7, e7, r1, rfl, l1, hb1, d7, F7⟩ := (lbytes_ok (n := m1) d6 ⟨a6, by omega⟩).ex
  obtain ⟨A8, hA8⟩ : ∃ A8, A8 = A7 ++ [O.lst [.tup (r0.map D.int), .tup (r1.map D.int)]] := ⟨_, rfl⟩
  have F8 : Fr [] A7 A8 := by rw [hA8]; exact .push
  have g8 : A8[A7.length]? = some (.lst [.tup (r0.map D.int), .tup (r1.map D.int)]) := by rw [hA8]; exact z9e
  have F37 : Fr [i] A3 A7 := ((F4.trans F5).trans F6).trans F7
  have F38 : Fr [i] A3 A8 := F37.trans (F8.mono (by simp))
  have n23 := F3.le
  have n37 := F37.le
  have n78 := F8.le
  have lt1 := k1.lt
  have lt2 := k2.lt
  have l3 := lt_of_get g3
  have l8 := lt_of_get g8
  have i1 : i ∉ fpK t g k (some u) := fun hh => by have := n1 i hh; omega
  have i2 : i ∉ fpK t' g' k' (some u') := fun hh => by have := n2 i hh; omega
  have k1' := (k1.up0 F3).frame F38 (fun j hj hm => by rw [List.mem_singleton] at hm; subst hm; exact i1 hj)
  have k2' := (k2.up0 F3).frame F38 (fun j hj hm => by rw [List.mem_singleton] at hm; subst hm; exact i2 hj)
  have q : P2 (i :: [A2.length, A7.length]) A8 t g k (some u) (K1 h th f tick f2 tick) t' g' k' (some u') (K1 th h f2 tick f tick) := by
    refine ⟨k1', O1, k2', O2, dj, fun j hj => ?_⟩
    simp only [List.mem_cons, List.not_mem_nil, or_false] at hj
    rcases hj with rfl | rfl | rfl
    · exact ⟨by omega, i1, i2⟩
    · exact ⟨by omega, fun hm => by have := lt1 _ hm; omega, fun hm => by have := lt2 _ hm; omega⟩
    · exact ⟨by omega, fun hm => by have := lt1 _ hm; omega, fun hm => by have := lt2 _ hm; omega⟩
  obtain ⟨_, A9, e9, rfl, d9⟩ := (rtA_ok (tl := A2.length) (rw := A7.length) (tick := tick) (r0 := r0) (r1 := r1) q (by simp; omega) (d7.frame F8 (by simp)) .of .of (by show (64 : Int) ≤ 64; decide) (by show (64 : Int) ≤ 64; decide) a1 (Int.le_refl _) (Int.le_refl _) hb0 hb1 (by omega) (by omega) (by simp) (F38.get g3 (by simp; omega)) (by simp) g8 hh ht hf hf2).ex
  rw [right_eq]
  simp_arith [e1, e2, gL, seqL_ref gr]
  rw [← hA3]
  simp_arith [e4, e5, e6, e7]
  rw [← hA8, e9]
  exact ⟨rfl, d9⟩
theorem law_true (ns : List Int) (hn : ns.length ≤ 63) : ∃ A, F_law [.scr (ns.map D.int)] [] = .ok (.bl true) A := by
  refine Rk.true ?_
  unfold F_law
  simp_arith [z21]
  refine for_go (R := fun rs => Rk (finR (seqR rs _)) _) (fun j e B => ∃ o1, e = [some (.scr (ns.map D.int)), o1]) ⟨none, rfl⟩ (fun _ _ _ _ _ => trivial) ?_ ?_
  · rintro j _ B d hd ⟨o1, rfl⟩
    obtain ⟨rfl, hi⟩ := rgL_get hd
    obtain ⟨_, B1, e1, rfl, d1, f1⟩ := (draw_ok (A := B) (l := ns.map D.int) (k := 0 + (j : Int) * 1) (c := 0) rfl (by omega)).ex
    obtain ⟨_, B2, e2, rfl, d2⟩ := (right_ok d1).ex
    simp_arith [e1, e2]
    exact ⟨_, rfl⟩
  · rintro _ B ⟨o1, rfl⟩
    simp_arith []

end Kk

namespace Kk
open PySem L2 SM
open DL (op_addU op_subU op_mulA op_divU op_modU op_powU op_shlU op_shrU op_andU op_orU op_xorU op_ltU op_leU op_gtU op_geU op_isU op_notU call_lenU call_absU call_max2U call_min2U call_intU call_listU call_tupleU call_allU call_sumU call_isiA ix_U sl_U pi_seqU pe_dx pe_dx0 pe_mx pe_mx0 Dx Mx)
def topS (i : Nat) : Stmt := PySem.Challenge.pw_surewire_k85_endings.main.body.getD i (.Pass ⟨0, 0, 0, 0⟩)
structure Txt (K : PySem.W.Frag) (mg : Str → Option Value) (ca : String → Addr) : Prop where
  g_Giver : mg "Giver" = some (.ref (ca "Giver"))
  g_NoData : mg "NoData" = some (.ref (ca "NoData"))
  g_NoNumber : mg "NoNumber" = some (.ref (ca "NoNumber"))
  g_NoPort : mg "NoPort" = some (.ref (ca "NoPort"))
  g_NoSegment : mg "NoSegment" = some (.ref (ca "NoSegment"))
  g_NoSize : mg "NoSize" = some (.ref (ca "NoSize"))
  g_NoTick : mg "NoTick" = some (.ref (ca "NoTick"))
  g_Segment : mg "Segment" = some (.ref (ca "Segment"))
  g_Taker : mg "Taker" = some (.ref (ca "Taker"))
  g_Talk : mg "Talk" = some (.ref (ca "Talk"))
  e_NoData : PySem.W.excIn K (ca "NoData") [.type "ValueError", .type "Exception", .type "BaseException", .type "object"] "ValueError.__new__" = true
  k_NoData : PySem.W.keepIn K (.ref (ca "NoData")) = true
  b_NoData : PySem.W.subIn K (.ref (ca "NoData")) (.type "BaseException") = some true
  t_NoData : PySem.W.typeIn K (.ref (ca "NoData")) = some (.type "type")
  e_NoNumber : PySem.W.excIn K (ca "NoNumber") [.type "ValueError", .type "Exception", .type "BaseException", .type "object"] "ValueError.__new__" = true
  k_NoNumber : PySem.W.keepIn K (.ref (ca "NoNumber")) = true
  b_NoNumber : PySem.W.subIn K (.ref (ca "NoNumber")) (.type "BaseException") = some true
  t_NoNumber : PySem.W.typeIn K (.ref (ca "NoNumber")) = some (.type "type")
  e_NoPort : PySem.W.excIn K (ca "NoPort") [.type "ValueError", .type "Exception", .type "BaseException", .type "object"] "ValueError.__new__" = true
  k_NoPort : PySem.W.keepIn K (.ref (ca "NoPort")) = true
  b_NoPort : PySem.W.subIn K (.ref (ca "NoPort")) (.type "BaseException") = some true
  t_NoPort : PySem.W.typeIn K (.ref (ca "NoPort")) = some (.type "type")
  e_NoSegment : PySem.W.excIn K (ca "NoSegment") [.type "ValueError", .type "Exception", .type "BaseException", .type "object"] "ValueError.__new__" = true
  k_NoSegment : PySem.W.keepIn K (.ref (ca "NoSegment")) = true
  b_NoSegment : PySem.W.subIn K (.ref (ca "NoSegment")) (.type "BaseException") = some true
  t_NoSegment : PySem.W.typeIn K (.ref (ca "NoSegment")) = some (.type "type")
  e_NoSize : PySem.W.excIn K (ca "NoSize") [.type "ValueError", .type "Exception", .type "BaseException", .type "object"] "ValueError.__new__" = true
  k_NoSize : PySem.W.keepIn K (.ref (ca "NoSize")) = true
  b_NoSize : PySem.W.subIn K (.ref (ca "NoSize")) (.type "BaseException") = some true
  t_NoSize : PySem.W.typeIn K (.ref (ca "NoSize")) = some (.type "type")
  e_NoTick : PySem.W.excIn K (ca "NoTick") [.type "ValueError", .type "Exception", .type "BaseException", .type "object"] "ValueError.__new__" = true
  k_NoTick : PySem.W.keepIn K (.ref (ca "NoTick")) = true
  b_NoTick : PySem.W.subIn K (.ref (ca "NoTick")) (.type "BaseException") = some true
  t_NoTick : PySem.W.typeIn K (.ref (ca "NoTick")) = some (.type "type")
  cl_Giver : Cls K (ca "Giver")
  mk_Giver : PySem.W.makesIn K (ca "Giver") = true
  kc_Giver : PySem.W.keepIn K (.ref (ca "Giver")) = true
  n_Giver_base : PySem.W.findIn K (.ref (ca "Giver")) "base" = some none
  n_Giver_finished : PySem.W.findIn K (.ref (ca "Giver")) "finished" = some none
  n_Giver_first_wait : PySem.W.findIn K (.ref (ca "Giver")) "first_wait" = some none
  n_Giver_kept : PySem.W.findIn K (.ref (ca "Giver")) "kept" = some none
  n_Giver_most : PySem.W.findIn K (.ref (ca "Giver")) "most" = some none
  n_Giver_now : PySem.W.findIn K (.ref (ca "Giver")) "now" = some none
  n_Giver_pace : PySem.W.findIn K (.ref (ca "Giver")) "pace" = some none
  n_Giver_passed : PySem.W.findIn K (.ref (ca "Giver")) "passed" = some none
  n_Giver_reach : PySem.W.findIn K (.ref (ca "Giver")) "reach" = some none
  n_Giver_sent : PySem.W.findIn K (.ref (ca "Giver")) "sent" = some none
  n_Giver_since : PySem.W.findIn K (.ref (ca "Giver")) "since" = some none
  n_Giver_tried : PySem.W.findIn K (.ref (ca "Giver")) "tried" = some none
  n_Giver_wait : PySem.W.findIn K (.ref (ca "Giver")) "wait" = some none
  cl_Segment : Cls K (ca "Segment")
  mk_Segment : PySem.W.makesIn K (ca "Segment") = true
  kc_Segment : PySem.W.keepIn K (.ref (ca "Segment")) = true
  n_Segment_answer : PySem.W.findIn K (.ref (ca "Segment")) "answer" = some none
  n_Segment_data : PySem.W.findIn K (.ref (ca "Segment")) "data" = some none
  n_Segment_marks : PySem.W.findIn K (.ref (ca "Segment")) "marks" = some none
  n_Segment_number : PySem.W.findIn K (.ref (ca "Segment")) "number" = some none
  n_Segment_room : PySem.W.findIn K (.ref (ca "Segment")) "room" = some none
  n_Segment_source : PySem.W.findIn K (.ref (ca "Segment")) "source" = some none
  n_Segment_target : PySem.W.findIn K (.ref (ca "Segment")) "target" = some none
  cl_Taker : Cls K (ca "Taker")
  mk_Taker : PySem.W.makesIn K (ca "Taker") = true
  kc_Taker : PySem.W.keepIn K (.ref (ca "Taker")) = true
  n_Taker_ahead : PySem.W.findIn K (.ref (ca "Taker")) "ahead" = some none
  n_Taker_over : PySem.W.findIn K (.ref (ca "Taker")) "over" = some none
  n_Taker_unread : PySem.W.findIn K (.ref (ca "Taker")) "unread" = some none
  n_Taker_wanted : PySem.W.findIn K (.ref (ca "Taker")) "wanted" = some none
  n_Taker_whole_room : PySem.W.findIn K (.ref (ca "Taker")) "whole_room" = some none
  cl_Talk : Cls K (ca "Talk")
  mk_Talk : PySem.W.makesIn K (ca "Talk") = true
  kc_Talk : PySem.W.keepIn K (.ref (ca "Talk")) = true
  n_Talk_begun_with : PySem.W.findIn K (.ref (ca "Talk")) "begun_with" = some none
  n_Talk_ending : PySem.W.findIn K (.ref (ca "Talk")) "ending" = some none
  n_Talk_finished : PySem.W.findIn K (.ref (ca "Talk")) "finished" = some none
  n_Talk_giver : PySem.W.findIn K (.ref (ca "Talk")) "giver" = some none
  n_Talk_here : PySem.W.findIn K (.ref (ca "Talk")) "here" = some none
  n_Talk_last_tick : PySem.W.findIn K (.ref (ca "Talk")) "last_tick" = some none
  n_Talk_other_first : PySem.W.findIn K (.ref (ca "Talk")) "other_first" = some none
  n_Talk_rested : PySem.W.findIn K (.ref (ca "Talk")) "rested" = some none
  n_Talk_taker : PySem.W.findIn K (.ref (ca "Talk")) "taker" = some none
  n_Talk_there : PySem.W.findIn K (.ref (ca "Talk")) "there" = some none
  isO : AllC (fun C => DL.InC K (ca C) ∧ btn C = false) os_
  isX : AllC (fun C => ExcC K (ca C) ∧ btn C = false) xs_
  isT : TbOk K ca tb_
  b_all : mg "all" = none
  b_bool : mg "bool" = none
  b_enumerate : mg "enumerate" = none
  b_int : mg "int" = none
  b_isinstance : mg "isinstance" = none
  b_len : mg "len" = none
  b_max : mg "max" = none
  b_min : mg "min" = none
  b_range : mg "range" = none
  b_str : mg "str" = none
  b_tuple : mg "tuple" = none
  c_FIRST_WAIT : ∃ t, mg "FIRST_WAIT" = some (.int 4 t)
  c_LEAST_SIZE : ∃ t, mg "LEAST_SIZE" = some (.int 2 t)
  c_LETTERS : ∃ t, mg "LETTERS" = some (.str "aceoq" t)
  c_LONGEST : ∃ t, mg "LONGEST" = some (.int 16 t)
  c_MOST_BYTE : ∃ t, mg "MOST_BYTE" = some (.int 255 t)
  c_MOST_DATA_bits : ∃ t, mg "MOST_DATA_bits" = some (.int 1000 t)
  c_MOST_DATA_segments : ∃ t, mg "MOST_DATA_segments" = some (.int 200 t)
  c_MOST_IN_PAIR : ∃ t, mg "MOST_IN_PAIR" = some (.int 200 t)
  c_MOST_ITEMS : ∃ t, mg "MOST_ITEMS" = some (.int 32 t)
  c_MOST_KEPT : ∃ t, mg "MOST_KEPT" = some (.int 512 t)
  c_MOST_NUMBER : ∃ t, mg "MOST_NUMBER" = some (.int 4294967295 t)
  c_MOST_ROOM_segments : ∃ t, mg "MOST_ROOM_segments" = some (.int 128 t)
  c_MOST_ROOM_takers : ∃ t, mg "MOST_ROOM_takers" = some (.int 128 t)
  c_MOST_SIZE : ∃ t, mg "MOST_SIZE" = some (.int 4294967296 t)
  c_MOST_TRIES : ∃ t, mg "MOST_TRIES" = some (.int 16 t)
  c_RESTS : ∃ t, mg "RESTS" = some (.int 120 t)
  c_ROOM : ∃ t, mg "ROOM" = some (.int 128 t)
  c_SIZE_givers : ∃ t, mg "SIZE_givers" = some (.int 4294967296 t)
  c_SIZE_takers : ∃ t, mg "SIZE_takers" = some (.int 4294967296 t)
  c_SIZE_talks : ∃ t, mg "SIZE_talks" = some (.int 4294967296 t)
  one : True
abbrev s_l_mixed : Stmt := topS 54
abbrev N_l_mixed : List Str := ["_law_cell", "_law_k", "_law_mix"]
theorem sc_l_mixed : FnScope N_l_mixed ["_law_cell", "_law_k"] (defScope s_l_mixed) := ⟨rfl, rfl, rfl, by decide +kernel, rfl, by decide +kernel, by decide +kernel⟩
theorem ok_l_mixed {P : Program} {w : World} {K : PySem.W.Frag} {mg : Str → Option Value} {base : Heap} {a : Addr} {fd : FuncData} {ca : String → Addr} (T : Txt K mg ca) (F : Fun K "_law_mixed" "_law_mixed" s_l_mixed a fd)  :
    FnOk P w K mg base (L2.CX P w) 1 a fd ["_law_cell", "_law_k"] (SpF K ca F_l_mixed) := by
  refine SM.Fn.ofF F sc_l_mixed rfl fun cdv A outer s H E hr => ?_
  have nd := sc_l_mixed.nd
  refine ⟨_, (pss_cons (ps_set (i := 2) nd rfl (by first | exact Or.inl rfl | exact Or.inr rfl) (pe_op op_modU (pe_op (op_mulA (K := K)) (pe_op (op_addU (K := K)) (pe_op (op_addU (K := K)) (pv 0) (pe_op (op_mulA (K := K)) pe_int (pv 1))) pe_int) pe_int) pe_int)) (pss_one (ps_ret (pe_op op_modU (pe_op (op_addU (K := K)) (pe_op (op_mulA (K := K)) (pv 2) (pv 2)) (pe_op (op_mulA (K := K)) pe_int (pv 2))) pe_int)))), ?_⟩
  exact (ss_seq (ss_set (se_op os_mod (se_op os_mul (se_op os_add (se_op os_add se_var (se_op os_mul se_int se_var)) se_int) se_int) se_int)) (ss_ret (se_op os_mod (se_op os_add (se_op os_mul se_var se_var) (se_op os_mul se_int se_var)) se_int)))
abbrev s_l_draw : Stmt := topS 55
abbrev N_l_draw : List Str := ["_law_script", "_law_k", "_law_count", "_law_cell"]
theorem sc_l_draw : FnScope N_l_draw ["_law_script", "_law_k", "_law_count"] (defScope s_l_draw) := ⟨rfl, rfl, rfl, by decide +kernel, rfl, by decide +kernel, by decide +kernel⟩
theorem ok_l_draw {P : Program} {w : World} {K : PySem.W.Frag} {mg : Str → Option Value} {base : Heap} {a : Addr} {fd : FuncData} {ca : String → Addr} (T : Txt K mg ca) (F : Fun K "_law_draw" "_law_draw" s_l_draw a fd) (C_l_mixed : Dx P w K mg base 1 "_law_mixed" (SpF K ca F_l_mixed)) :
    FnOk P w K mg base (L2.CX P w) 2 a fd ["_law_script", "_law_k", "_law_count"] (SpF K ca F_l_draw) := by
  refine SM.Fn.ofF F sc_l_draw rfl fun cdv A outer s H E hr => ?_
  have nd := sc_l_draw.nd
  refine ⟨_, (pss_cons (ps_set (i := 3) nd rfl (by first | exact Or.inl rfl | exact Or.inr rfl) pe_int) (pss_cons (ps_if (pt_cmpR op_ltU (pv 1) (pe_callB (call_lenU (K := K)) (by rfl) T.b_len (by decide +kernel) (pa_cons (pv 0) pa_nil)) (nomark _)) (pss_one (ps_set (i := 3) nd rfl (by first | exact Or.inl rfl | exact Or.inr rfl) (pe_ix (ix_U (K := K)) (pv 0) (pv 1) (fun _ _ => rfl)))) pss_nil) (pss_cons (ps_if (pt_cmpR (op_eqPK (K := K) (DL.room65 hr)) (pe_op op_modU (pv 3) pe_int) pe_int (nomark _)) (pss_one (ps_ret (pe_lst (pa_cons (pe_op op_divU (pv 3) pe_int) (pa_cons (pe_un un_neg pe_int) (pa_cons (pe_dx C_l_mixed (takes_of rfl rfl rfl rfl) hr (by decide) rfl (pa_cons (pv 3) (pa_cons (pe_op (op_addU (K := K)) pe_int (pv 1)) pa_nil))) pa_nil)))))) pss_nil) (pss_one (ps_ret (pe_lst (pa_cons pe_int (pa_cons (pv 2) (pa_cons (pe_dx C_l_mixed (takes_of rfl rfl rfl rfl) hr (by decide) rfl (pa_cons (pv 3) (pa_cons (pe_op (op_addU (K := K)) pe_int (pv 1)) pa_nil))) pa_nil))))))))), ?_⟩
  exact (ss_seq (ss_set se_int) (ss_seq (ss_if (st_test (se_op os_lt se_var (se_cb cs_len (sa_cons se_var sa_nil)))) (ss_set (se_op os_ix se_var se_var)) ss_next) (ss_seq (ss_if (st_test (se_op os_eq (se_op os_mod se_var se_int) se_int)) (ss_ret (se_lst (sa_cons (se_op os_div se_var se_int) (sa_cons (se_un us_neg se_int) (sa_cons (se_call (sa_cons se_var (sa_cons (se_op os_add se_int se_var) sa_nil))) sa_nil))))) ss_next) (ss_ret (se_lst (sa_cons se_int (sa_cons se_var (sa_cons (se_call (sa_cons se_var (sa_cons (se_op os_add se_int se_var) sa_nil))) sa_nil))))))))
abbrev s_are_marks : Stmt := topS 35
abbrev N_are_marks : List Str := ["thing", "letter"]
theorem sc_are_marks : FnScope N_are_marks ["thing"] (defScope s_are_marks) := ⟨rfl, rfl, rfl, by decide +kernel, rfl, by decide +kernel, by decide +kernel⟩
theorem ok_are_marks {P : Program} {w : World} {K : PySem.W.Frag} {mg : Str → Option Value} {base : Heap} {a : Addr} {fd : FuncData} {ca : String → Addr} (T : Txt K mg ca) (F : Fun K "are_marks" "are_marks" s_are_marks a fd)  :
    FnOk P w K mg base (L2.CX P w) 1 a fd ["thing"] (SpF K ca F_are_marks) := by
  refine SM.Fn.ofF F sc_are_marks rfl fun cdv A outer s H E hr => ?_
  have nd := sc_are_marks.nd
  refine ⟨_, (pss_cons (ps_if (pt_not (pt_val (pe_callB (call_isiA (K := K)) (by rfl) T.b_isinstance (by decide +kernel) (pa_cons (pv 0) (pa_cons (pe_bltn (v := .ty "str") (by rfl) T.b_str (by decide +kernel) rfl) pa_nil))))) (pss_one (ps_ret pe_bl)) pss_nil) (pss_one (ps_ret (pe_cmpR (op_eqPK (K := K) (DL.room65 hr)) (pv 0) (DL.pe_joinS (K := K) pe_str (pe_lc (own := [("letter", 1)]) (g := (gName 1)) rfl nd (pi_seqU (K := K) (pe_glob (v := .str "aceoq") rfl T.c_LETTERS.choose_spec ⟨_, rfl⟩)) (blkOk_by (own := [("letter", 1)]) (N := N_are_marks) (sc := defScope s_are_marks) (by decide +kernel)) (fun _ _ _ _ _ => (pg_name (i := 1) nd rfl (by first | exact Or.inl rfl | exact Or.inr rfl))) (fun _ _ _ _ _ => (pts_one (pt_cmpR (op_inAll (K := K) (DL.room65 hr)) (pv 1) (pv 0) rfl))) (fun _ _ _ _ _ => (pv 1)))) (nomark _))))), ?_⟩
  exact (ss_seq (ss_if (st_not (st_b (se_cb (cs_isi T.isO T.isX T.isT) (sa_cons se_var (sa_cons se_ty sa_nil))))) (ss_ret se_bl) ss_next) (ss_ret (se_op os_eq se_var (se_join (se_strS (by decide +kernel)) (se_lc (W2 := fun _ _ _ _ => False) (sw_seq (se_strS (by decide +kernel))) sg_name (by decide) (st_test (se_op os_in se_var se_var)) se_var)))))
abbrev s_is_whole : Stmt := topS 12
abbrev N_is_whole : List Str := ["thing", "least", "most"]
theorem sc_is_whole : FnScope N_is_whole ["thing", "least", "most"] (defScope s_is_whole) := ⟨rfl, rfl, rfl, by decide +kernel, rfl, by decide +kernel, by decide +kernel⟩
theorem ok_is_whole {P : Program} {w : World} {K : PySem.W.Frag} {mg : Str → Option Value} {base : Heap} {a : Addr} {fd : FuncData} {ca : String → Addr} (T : Txt K mg ca) (F : Fun K "is_whole" "is_whole" s_is_whole a fd)  :
    FnOk P w K mg base (L2.CX P w) 1 a fd ["thing", "least", "most"] (SpF K ca F_is_whole) := by
  refine SM.Fn.ofF F sc_is_whole rfl fun cdv A outer s H E hr => ?_
  have nd := sc_is_whole.nd
  refine ⟨_, (pss_one (ps_ret (pe_and (pe_callB (call_isiA (K := K)) (by rfl) T.b_isinstance (by decide +kernel) (pa_cons (pv 0) (pa_cons (pe_bltn (v := .ty "int") (by rfl) T.b_int (by decide +kernel) rfl) pa_nil))) (pe_and (pe_not (pe_callB (call_isiA (K := K)) (by rfl) T.b_isinstance (by decide +kernel) (pa_cons (pv 0) (pa_cons (pe_bltn (v := .ty "bool") (by rfl) T.b_bool (by decide +kernel) rfl) pa_nil)))) (pe_one (pe_chain op_leU op_leU (pv 1) (pv 0) (pv 2))))))), ?_⟩
  exact (ss_ret (se_and (se_cb (cs_isi T.isO T.isX T.isT) (sa_cons se_var (sa_cons se_ty sa_nil))) (se_and (se_not (se_cb (cs_isi T.isO T.isX T.isT) (sa_cons se_var (sa_cons se_ty sa_nil)))) (se_ch os_le os_le se_var se_var se_var))))
abbrev s_is_data : Stmt := topS 13
abbrev N_is_data : List Str := ["thing", "byte"]
theorem sc_is_data : FnScope N_is_data ["thing"] (defScope s_is_data) := ⟨rfl, rfl, rfl, by decide +kernel, rfl, by decide +kernel, by decide +kernel⟩
theorem ok_is_data {P : Program} {w : World} {K : PySem.W.Frag} {mg : Str → Option Value} {base : Heap} {a : Addr} {fd : FuncData} {ca : String → Addr} (T : Txt K mg ca) (F : Fun K "is_data" "is_data" s_is_data a fd) (C_is_whole : Dx P w K mg base 1 "is_whole" (SpF K ca F_is_whole)) :
    FnOk P w K mg base (L2.CX P w) 2 a fd ["thing"] (SpF K ca F_is_data) := by
  refine SM.Fn.ofF F sc_is_data rfl fun cdv A outer s H E hr => ?_
  have nd := sc_is_data.nd
  refine ⟨_, (pss_cons (ps_if (PW.pt (pw_or (pt_not (pt_val (pe_callB (call_isiA (K := K)) (by rfl) T.b_isinstance (by decide +kernel) (pa_cons (pv 0) (pa_cons (pe_bltn (v := .ty "tuple") (by rfl) T.b_tuple (by decide +kernel) rfl) pa_nil))))) (pw_or1 (pt_cmpR op_gtU (pe_callB (call_lenU (K := K)) (by rfl) T.b_len (by decide +kernel) (pa_cons (pv 0) pa_nil)) (pe_glob (v := .int 1000) rfl T.c_MOST_DATA_bits.choose_spec ⟨_, rfl⟩) (nomark _))))) (pss_one (ps_ret pe_bl)) pss_nil) (pss_one (ps_ret (pe_callB (call_allU (K := K) rfl) (by rfl) T.b_all (by decide +kernel) (pa_cons (pe_lc (own := [("byte", 1)]) (g := (gName 1)) rfl nd (pi_seqU (K := K) (pv 0)) (blkOk_by (own := [("byte", 1)]) (N := N_is_data) (sc := defScope s_is_data) (by decide +kernel)) (fun _ _ _ _ _ => (pg_name (i := 1) nd rfl (by first | exact Or.inl rfl | exact Or.inr rfl))) (fun _ _ _ _ _ => pts_nil) (fun _ _ _ _ _ => (pe_dx0 C_is_whole hr (by decide) rfl (pa_cons (pv 1) (pa_cons pe_int (pa_cons (pe_glob (v := .int 255) rfl T.c_MOST_BYTE.choose_spec ⟨_, rfl⟩) pa_nil)))))) pa_nil))))), ?_⟩
  exact (ss_seq (ss_if (st_or (st_not (st_b (se_cb (cs_isi T.isO T.isX T.isT) (sa_cons se_var (sa_cons se_ty sa_nil))))) (st_test (se_op os_gt (se_cb cs_len (sa_cons se_var sa_nil)) se_int))) (ss_ret se_bl) ss_next) (ss_ret (se_cb cs_all (sa_cons (se_lc (W2 := fun _ _ _ _ => False) (sw_seq se_var) sg_name (by decide) st_yes (se_call0 (sa_cons se_var (sa_cons se_int (sa_cons se_int sa_nil))))) sa_nil))))
abbrev s_is_from_nought : Stmt := topS 34
abbrev N_is_from_nought : List Str := ["thing", "most"]
theorem sc_is_from_nought : FnScope N_is_from_nought ["thing", "most"] (defScope s_is_from_nought) := ⟨rfl, rfl, rfl, by decide +kernel, rfl, by decide +kernel, by decide +kernel⟩
theorem ok_is_from_nought {P : Program} {w : World} {K : PySem.W.Frag} {mg : Str → Option Value} {base : Heap} {a : Addr} {fd : FuncData} {ca : String → Addr} (T : Txt K mg ca) (F : Fun K "is_from_nought" "is_from_nought" s_is_from_nought a fd)  :
    FnOk P w K mg base (L2.CX P w) 1 a fd ["thing", "most"] (SpF K ca F_is_from_nought) := by
  refine SM.Fn.ofF F sc_is_from_nought rfl fun cdv A outer s H E hr => ?_
  have nd := sc_is_from_nought.nd
  refine ⟨_, (pss_one (ps_ret (pe_and (pe_callB (call_isiA (K := K)) (by rfl) T.b_isinstance (by decide +kernel) (pa_cons (pv 0) (pa_cons (pe_bltn (v := .ty "int") (by rfl) T.b_int (by decide +kernel) rfl) pa_nil))) (pe_and (pe_not (pe_callB (call_isiA (K := K)) (by rfl) T.b_isinstance (by decide +kernel) (pa_cons (pv 0) (pa_cons (pe_bltn (v := .ty "bool") (by rfl) T.b_bool (by decide +kernel) rfl) pa_nil)))) (pe_one (pe_chain op_leU op_leU pe_int (pv 0) (pv 1))))))), ?_⟩
  exact (ss_ret (se_and (se_cb (cs_isi T.isO T.isX T.isT) (sa_cons se_var (sa_cons se_ty sa_nil))) (se_and (se_not (se_cb (cs_isi T.isO T.isX T.isT) (sa_cons se_var (sa_cons se_ty sa_nil)))) (se_ch os_le os_le se_int se_var se_var))))
abbrev s_Segment___init__ : Stmt := inClass (topS 36) 0
abbrev N_Segment___init__ : List Str := ["self", "source", "target", "marks", "number", "answer", "room", "data"]
theorem sc_Segment___init__ : FnScope N_Segment___init__ ["self", "source", "target", "marks", "number", "answer", "room", "data"] (defScope s_Segment___init__) := ⟨rfl, rfl, rfl, by decide +kernel, rfl, by decide +kernel, by decide +kernel⟩
theorem ok_Segment___init__ {P : Program} {w : World} {K : PySem.W.Frag} {mg : Str → Option Value} {base : Heap} {a : Addr} {fd : FuncData} {ca : String → Addr} (T : Txt K mg ca) (F : Fun K "__init__" "Segment.__init__" s_Segment___init__ a fd) (C_are_marks : Dx P w K mg base 1 "are_marks" (SpF K ca F_are_marks)) (C_is_data : Dx P w K mg base 2 "is_data" (SpF K ca F_is_data)) (C_is_from_nought : Dx P w K mg base 1 "is_from_nought" (SpF K ca F_is_from_nought)) :
    FnOk P w K mg base (L2.CX P w) 3 a fd ["self", "source", "target", "marks", "number", "answer", "room", "data"] (SpF K ca F_Segment___init__) := by
  refine SM.Fn.ofF F sc_Segment___init__ rfl fun cdv A outer s H E hr => ?_
  have nd := sc_Segment___init__.nd
  refine ⟨_, (pss_cons (ps_if (PW.pt (pw_or (pt_not (pt_val (pe_dx C_is_from_nought (takes_of rfl rfl rfl rfl) hr (by decide) rfl (pa_cons (pv 1) (pa_cons pe_int pa_nil))))) (pw_or (pt_not (pt_val (pe_dx C_is_from_nought (takes_of rfl rfl rfl rfl) hr (by decide) rfl (pa_cons (pv 2) (pa_cons pe_int pa_nil))))) (pw_or1 (pt_not (pt_val (pe_dx C_are_marks (takes_of rfl rfl rfl rfl) hr (by decide) rfl (pa_cons (pv 3) pa_nil)))))))) (pss_one (DL.ps_raiseC rfl (takes_of rfl rfl rfl rfl) (pmk_own PySem.F.excBase_ValueError T.e_NoSegment T.g_NoSegment T.k_NoSegment (raises_own T.b_NoSegment T.t_NoSegment) rfl))) pss_nil) (pss_cons (ps_if (PW.pt (pw_or (pt_not (pt_val (pe_dx C_is_from_nought (takes_of rfl rfl rfl rfl) hr (by decide) rfl (pa_cons (pv 4) (pa_cons (pe_glob (v := .int 4294967295) rfl T.c_MOST_NUMBER.choose_spec ⟨_, rfl⟩) pa_nil))))) (pw_or1 (pt_not (pt_val (pe_dx C_is_from_nought (takes_of rfl rfl rfl rfl) hr (by decide) rfl (pa_cons (pv 5) (pa_cons (pe_glob (v := .int 4294967295) rfl T.c_MOST_NUMBER.choose_spec ⟨_, rfl⟩) pa_nil)))))))) (pss_one (DL.ps_raiseC rfl (takes_of rfl rfl rfl rfl) (pmk_own PySem.F.excBase_ValueError T.e_NoSegment T.g_NoSegment T.k_NoSegment (raises_own T.b_NoSegment T.t_NoSegment) rfl))) pss_nil) (pss_cons (ps_if (PW.pt (pw_or (pt_not (pt_val (pe_dx C_is_from_nought (takes_of rfl rfl rfl rfl) hr (by decide) rfl (pa_cons (pv 6) (pa_cons (pe_glob (v := .int 128) rfl T.c_MOST_ROOM_segments.choose_spec ⟨_, rfl⟩) pa_nil))))) (pw_or (pt_not (pt_val (pe_dx C_is_data (takes_of rfl rfl rfl rfl) hr (by decide) rfl (pa_cons (pv 7) pa_nil)))) (pw_or1 (pt_cmpR op_gtU (pe_callB (call_lenU (K := K)) (by rfl) T.b_len (by decide +kernel) (pa_cons (pv 7) pa_nil)) (pe_glob (v := .int 200) rfl T.c_MOST_DATA_segments.choose_spec ⟨_, rfl⟩) (nomark _)))))) (pss_one (DL.ps_raiseC rfl (takes_of rfl rfl rfl rfl) (pmk_own PySem.F.excBase_ValueError T.e_NoSegment T.g_NoSegment T.k_NoSegment (raises_own T.b_NoSegment T.t_NoSegment) rfl))) pss_nil) (pss_cons (ps_fld (pv 0) (pv 1) rfl) (pss_cons (ps_fld (pv 0) (pv 2) rfl) (pss_cons (ps_fld (pv 0) (pv 3) rfl) (pss_cons (ps_fld (pv 0) (pv 4) rfl) (pss_cons (ps_fld (pv 0) (pv 5) rfl) (pss_cons (ps_fld (pv 0) (pv 6) rfl) (pss_one (ps_fld (pv 0) (pv 7) rfl))))))))))), ?_⟩
  exact (ss_seq (ss_if (st_or (st_not (st_b (se_call (sa_cons se_var (sa_cons se_int sa_nil))))) (st_or (st_not (st_b (se_call (sa_cons se_var (sa_cons se_int sa_nil))))) (st_not (st_b (se_call (sa_cons se_var sa_nil)))))) (ss_raise rfl) ss_next) (ss_seq (ss_if (st_or (st_not (st_b (se_call (sa_cons se_var (sa_cons se_int sa_nil))))) (st_not (st_b (se_call (sa_cons se_var (sa_cons se_int sa_nil)))))) (ss_raise rfl) ss_next) (ss_seq (ss_if (st_or (st_not (st_b (se_call (sa_cons se_var (sa_cons se_int sa_nil))))) (st_or (st_not (st_b (se_call (sa_cons se_var sa_nil)))) (st_test (se_op os_gt (se_cb cs_len (sa_cons se_var sa_nil)) se_int)))) (ss_raise rfl) ss_next) (ss_seq (ss_fl (by decide +kernel) ⟨⟨T.cl_Segment, T.n_Segment_source⟩, trivial⟩ se_var se_var) (ss_seq (ss_fl (by decide +kernel) ⟨⟨T.cl_Segment, T.n_Segment_target⟩, trivial⟩ se_var se_var) (ss_seq (ss_fl (by decide +kernel) ⟨⟨T.cl_Segment, T.n_Segment_marks⟩, trivial⟩ se_var se_var) (ss_seq (ss_fl (by decide +kernel) ⟨⟨T.cl_Segment, T.n_Segment_number⟩, trivial⟩ se_var se_var) (ss_seq (ss_fl (by decide +kernel) ⟨⟨T.cl_Segment, T.n_Segment_answer⟩, trivial⟩ se_var se_var) (ss_seq (ss_fl (by decide +kernel) ⟨⟨T.cl_Segment, T.n_Segment_room⟩, trivial⟩ se_var se_var) (ss_fl (by decide +kernel) ⟨⟨T.cl_Segment, T.n_Segment_data⟩, trivial⟩ se_var se_var))))))))))
abbrev s_Giver_finish : Stmt := inClass (topS 28) 5
abbrev N_Giver_finish : List Str := ["self"]
theorem sc_Giver_finish : FnScope N_Giver_finish ["self"] (defScope s_Giver_finish) := ⟨rfl, rfl, rfl, by decide +kernel, rfl, by decide +kernel, by decide +kernel⟩
theorem ok_Giver_finish {P : Program} {w : World} {K : PySem.W.Frag} {mg : Str → Option Value} {base : Heap} {a : Addr} {fd : FuncData} {ca : String → Addr} (T : Txt K mg ca) (F : Fun K "finish" "Giver.finish" s_Giver_finish a fd)  :
    FnOk P w K mg base (L2.CX P w) 1 a fd ["self"] (SpF K ca F_Giver_finish) := by
  refine SM.Fn.ofF F sc_Giver_finish rfl fun cdv A outer s H E hr => ?_
  have nd := sc_Giver_finish.nd
  refine ⟨_, (pss_cons (ps_if (pt_not (pt_val (pe_fld (pv 0) rfl))) (pss_one (ps_expr (pe_bm PySem.F.plainAttrs_list PySem.F.slot_list_append PySem.F.type_list_append mt_append (pe_fld (pv 0) rfl) (pa_cons pe_str pa_nil)))) pss_nil) (pss_one (ps_fld (pv 0) pe_bl rfl))), ?_⟩
  exact (ss_seq (ss_if (st_not (st_b (se_fld (by decide +kernel) ⟨⟨T.cl_Giver, T.n_Giver_finished⟩, ⟨T.cl_Talk, T.n_Talk_finished⟩, trivial⟩ se_var))) (ss_drop (se_bl_ ms_append (se_fld (by decide +kernel) ⟨⟨T.cl_Giver, T.n_Giver_kept⟩, trivial⟩ se_var) (sa_cons (se_strS (by decide +kernel)) sa_nil))) ss_next) (ss_fl (by decide +kernel) ⟨⟨T.cl_Giver, T.n_Giver_finished⟩, ⟨T.cl_Talk, T.n_Talk_finished⟩, trivial⟩ se_var se_bl))
abbrev s_Taker_ended : Stmt := inClass (topS 41) 7
abbrev N_Taker_ended : List Str := ["self"]
theorem sc_Taker_ended : FnScope N_Taker_ended ["self"] (defScope s_Taker_ended) := ⟨rfl, rfl, rfl, by decide +kernel, rfl, by decide +kernel, by decide +kernel⟩
theorem ok_Taker_ended {P : Program} {w : World} {K : PySem.W.Frag} {mg : Str → Option Value} {base : Heap} {a : Addr} {fd : FuncData} {ca : String → Addr} (T : Txt K mg ca) (F : Fun K "ended" "Taker.ended" s_Taker_ended a fd)  :
    FnOk P w K mg base (L2.CX P w) 1 a fd ["self"] (SpF K ca F_Taker_ended) := by
  refine SM.Fn.ofF F sc_Taker_ended rfl fun cdv A outer s H E hr => ?_
  have nd := sc_Taker_ended.nd
  refine ⟨_, (pss_one (ps_ret (pe_fld (pv 0) rfl))), ?_⟩
  exact (ss_ret (se_fld (by decide +kernel) ⟨⟨T.cl_Taker, T.n_Taker_over⟩, trivial⟩ se_var))
abbrev s_Giver_answered : Stmt := inClass (topS 28) 11
abbrev N_Giver_answered : List Str := ["self"]
theorem sc_Giver_answered : FnScope N_Giver_answered ["self"] (defScope s_Giver_answered) := ⟨rfl, rfl, rfl, by decide +kernel, rfl, by decide +kernel, by decide +kernel⟩
theorem ok_Giver_answered {P : Program} {w : World} {K : PySem.W.Frag} {mg : Str → Option Value} {base : Heap} {a : Addr} {fd : FuncData} {ca : String → Addr} (T : Txt K mg ca) (F : Fun K "answered" "Giver.answered" s_Giver_answered a fd)  :
    FnOk P w K mg base (L2.CX P w) 1 a fd ["self"] (SpF K ca F_Giver_answered) := by
  refine SM.Fn.ofF F sc_Giver_answered rfl fun cdv A outer s H E hr => ?_
  have nd := sc_Giver_answered.nd
  refine ⟨_, (pss_one (ps_ret (pe_fld (pv 0) rfl))), ?_⟩
  exact (ss_ret (se_fld (by decide +kernel) ⟨⟨T.cl_Giver, T.n_Giver_passed⟩, trivial⟩ se_var))
abbrev s_Talk_is_open : Stmt := inClass (topS 52) 2
abbrev N_Talk_is_open : List Str := ["self"]
theorem sc_Talk_is_open : FnScope N_Talk_is_open ["self"] (defScope s_Talk_is_open) := ⟨rfl, rfl, rfl, by decide +kernel, rfl, by decide +kernel, by decide +kernel⟩
theorem ok_Talk_is_open {P : Program} {w : World} {K : PySem.W.Frag} {mg : Str → Option Value} {base : Heap} {a : Addr} {fd : FuncData} {ca : String → Addr} (T : Txt K mg ca) (F : Fun K "is_open" "Talk.is_open" s_Talk_is_open a fd) (M_Giver_answered : SM.Mt P w K mg base 1 (ca "Giver") "answered" (SpF K ca F_Giver_answered)) :
    FnOk P w K mg base (L2.CX P w) 2 a fd ["self"] (SpF K ca F_Talk_is_open) := by
  refine SM.Fn.ofF F sc_Talk_is_open rfl fun cdv A outer s H E hr => ?_
  have nd := sc_Talk_is_open.nd
  refine ⟨_, (pss_one (ps_ret (pe_cmpR op_gtU (pe_mtX0 M_Giver_answered (takes_of rfl rfl rfl rfl) hr (by decide) T.cl_Giver (pe_fld (pv 0) rfl)) pe_int (nomark _)))), ?_⟩
  exact (ss_ret (se_op os_gt (meth_one (by decide +kernel) (se_fld (by decide +kernel) ⟨⟨T.cl_Talk, T.n_Talk_giver⟩, trivial⟩ se_var) sa_nil) se_int))
abbrev s_Talk_stand : Stmt := inClass (topS 52) 14
abbrev N_Talk_stand : List Str := ["self"]
theorem sc_Talk_stand : FnScope N_Talk_stand ["self"] (defScope s_Talk_stand) := ⟨rfl, rfl, rfl, by decide +kernel, rfl, by decide +kernel, by decide +kernel⟩
theorem ok_Talk_stand {P : Program} {w : World} {K : PySem.W.Frag} {mg : Str → Option Value} {base : Heap} {a : Addr} {fd : FuncData} {ca : String → Addr} (T : Txt K mg ca) (F : Fun K "stand" "Talk.stand" s_Talk_stand a fd) (M_Taker_ended : SM.Mt P w K mg base 1 (ca "Taker") "ended" (SpF K ca F_Taker_ended)) (M_Talk_is_open : SM.Mt P w K mg base 2 (ca "Talk") "is_open" (SpF K ca F_Talk_is_open)) :
    FnOk P w K mg base (L2.CX P w) 3 a fd ["self"] (SpF K ca F_Talk_stand) := by
  refine SM.Fn.ofF F sc_Talk_stand rfl fun cdv A outer s H E hr => ?_
  have nd := sc_Talk_stand.nd
  refine ⟨_, (pss_cons (ps_if (pt_cmpR (op_nePK (K := K) (DL.room65 hr)) (pe_fld (pv 0) rfl) pe_str (nomark _)) (pss_one (ps_ret (pe_fld (pv 0) rfl))) pss_nil) (pss_cons (ps_if (pt_not (pt_val (pe_mtX0 M_Talk_is_open (takes_of rfl rfl rfl rfl) hr (by decide) T.cl_Talk (pv 0)))) (pss_one (ps_ret (pe_ifExp (pt_cmpR op_isU (pe_fld (pv 0) rfl) pe_non (nomark _)) pe_str pe_str))) pss_nil) (pss_cons (ps_if (pt_cmpR op_notU (pe_fld (pv 0) rfl) pe_non (nomark _)) (pss_one (ps_ret (pe_ifExp (pt_cmpR op_ltU (pe_op op_subU (pe_fld (pv 0) rfl) (pe_fld (pv 0) rfl)) (pe_glob (v := .int 120) rfl T.c_RESTS.choose_spec ⟨_, rfl⟩) (nomark _)) pe_str pe_str))) pss_nil) (pss_cons (ps_if (pt_val (pe_mtX0 M_Taker_ended (takes_of rfl rfl rfl rfl) hr (by decide) T.cl_Taker (pe_fld (pv 0) rfl))) (pss_one (ps_ret pe_str)) pss_nil) (pss_one (ps_ret (pe_ifExp (pt_val (pe_fld (pv 0) rfl)) pe_str pe_str))))))), ?_⟩
  exact (ss_seq (ss_if (st_test (se_op os_ne (se_fld (by decide +kernel) ⟨⟨T.cl_Talk, T.n_Talk_ending⟩, trivial⟩ se_var) (se_strS (by decide +kernel)))) (ss_ret (se_fld (by decide +kernel) ⟨⟨T.cl_Talk, T.n_Talk_ending⟩, trivial⟩ se_var)) ss_next) (ss_seq (ss_if (st_not (st_b (meth_one (by decide +kernel) se_var sa_nil))) (ss_ret (se_if (st_test (se_op os_is (se_fld (by decide +kernel) ⟨⟨T.cl_Talk, T.n_Talk_taker⟩, trivial⟩ se_var) se_non)) (se_strS (by decide +kernel)) (se_strS (by decide +kernel)))) ss_next) (ss_seq (ss_if (st_test (se_op os_isnot (se_fld (by decide +kernel) ⟨⟨T.cl_Talk, T.n_Talk_rested⟩, trivial⟩ se_var) se_non)) (ss_ret (se_if (st_test (se_op os_lt (se_op os_sub (se_fld (by decide +kernel) ⟨⟨T.cl_Talk, T.n_Talk_last_tick⟩, trivial⟩ se_var) (se_fld (by decide +kernel) ⟨⟨T.cl_Talk, T.n_Talk_rested⟩, trivial⟩ se_var)) se_int)) (se_strS (by decide +kernel)) (se_strS (by decide +kernel)))) ss_next) (ss_seq (ss_if (st_b (meth_one (by decide +kernel) (se_fld (by decide +kernel) ⟨⟨T.cl_Talk, T.n_Talk_taker⟩, trivial⟩ se_var) sa_nil)) (ss_ret (se_strS (by decide +kernel))) ss_next) (ss_ret (se_if (st_b (se_fld (by decide +kernel) ⟨⟨T.cl_Giver, T.n_Giver_finished⟩, ⟨T.cl_Talk, T.n_Talk_finished⟩, trivial⟩ se_var)) (se_strS (by decide +kernel)) (se_strS (by decide +kernel))))))))
abbrev s_Talk_is_over : Stmt := inClass (topS 52) 3
abbrev N_Talk_is_over : List Str := ["self"]
theorem sc_Talk_is_over : FnScope N_Talk_is_over ["self"] (defScope s_Talk_is_over) := ⟨rfl, rfl, rfl, by decide +kernel, rfl, by decide +kernel, by decide +kernel⟩
theorem ok_Talk_is_over {P : Program} {w : World} {K : PySem.W.Frag} {mg : Str → Option Value} {base : Heap} {a : Addr} {fd : FuncData} {ca : String → Addr} (T : Txt K mg ca) (F : Fun K "is_over" "Talk.is_over" s_Talk_is_over a fd) (M_Talk_stand : SM.Mt P w K mg base 3 (ca "Talk") "stand" (SpF K ca F_Talk_stand)) :
    FnOk P w K mg base (L2.CX P w) 4 a fd ["self"] (SpF K ca F_Talk_is_over) := by
  refine SM.Fn.ofF F sc_Talk_is_over rfl fun cdv A outer s H E hr => ?_
  have nd := sc_Talk_is_over.nd
  refine ⟨_, (pss_one (ps_ret (pe_cmpR (op_inAll (K := K) (DL.room65 hr)) (pe_mtX0 M_Talk_stand (takes_of rfl rfl rfl rfl) hr (by decide) T.cl_Talk (pv 0)) (pe_tup (pa_cons pe_str (pa_cons pe_str (pa_cons pe_str pa_nil)))) rfl))), ?_⟩
  exact (ss_ret (se_op os_in (meth_one (by decide +kernel) se_var sa_nil) (se_tup (sa_cons (se_strS (by decide +kernel)) (sa_cons (se_strS (by decide +kernel)) (sa_cons (se_strS (by decide +kernel)) sa_nil))))))
abbrev s_Talk_finish : Stmt := inClass (topS 52) 16
abbrev N_Talk_finish : List Str := ["self"]
theorem sc_Talk_finish : FnScope N_Talk_finish ["self"] (defScope s_Talk_finish) := ⟨rfl, rfl, rfl, by decide +kernel, rfl, by decide +kernel, by decide +kernel⟩
theorem ok_Talk_finish {P : Program} {w : World} {K : PySem.W.Frag} {mg : Str → Option Value} {base : Heap} {a : Addr} {fd : FuncData} {ca : String → Addr} (T : Txt K mg ca) (F : Fun K "finish" "Talk.finish" s_Talk_finish a fd) (M_Giver_finish : SM.Mt P w K mg base 1 (ca "Giver") "finish" (SpF K ca F_Giver_finish)) (M_Talk_is_over : SM.Mt P w K mg base 4 (ca "Talk") "is_over" (SpF K ca F_Talk_is_over)) :
    FnOk P w K mg base (L2.CX P w) 5 a fd ["self"] (SpF K ca F_Talk_finish) := by
  refine SM.Fn.ofF F sc_Talk_finish rfl fun cdv A outer s H E hr => ?_
  have nd := sc_Talk_finish.nd
  refine ⟨_, (pss_one (ps_if (pt_not (pt_val (pe_mtX0 M_Talk_is_over (takes_of rfl rfl rfl rfl) hr (by decide) T.cl_Talk (pv 0)))) (pss_cons (ps_fld (pv 0) pe_bl rfl) (pss_one (ps_expr (pe_mtX0 M_Giver_finish (takes_of rfl rfl rfl rfl) hr (by decide) T.cl_Giver (pe_fld (pv 0) rfl))))) pss_nil)), ?_⟩
  exact (ss_if (st_not (st_b (meth_one (by decide +kernel) se_var sa_nil))) (ss_seq (ss_fl (by decide +kernel) ⟨⟨T.cl_Giver, T.n_Giver_finished⟩, ⟨T.cl_Talk, T.n_Talk_finished⟩, trivial⟩ se_var se_bl) (ss_drop (meth_one (by decide +kernel) (se_fld (by decide +kernel) ⟨⟨T.cl_Talk, T.n_Talk_giver⟩, trivial⟩ se_var) sa_nil))) ss_next)
abbrev s_is_within : Stmt := topS 40
abbrev N_is_within : List Str := ["thing", "least", "most"]
theorem sc_is_within : FnScope N_is_within ["thing", "least", "most"] (defScope s_is_within) := ⟨rfl, rfl, rfl, by decide +kernel, rfl, by decide +kernel, by decide +kernel⟩
theorem ok_is_within {P : Program} {w : World} {K : PySem.W.Frag} {mg : Str → Option Value} {base : Heap} {a : Addr} {fd : FuncData} {ca : String → Addr} (T : Txt K mg ca) (F : Fun K "is_within" "is_within" s_is_within a fd)  :
    FnOk P w K mg base (L2.CX P w) 1 a fd ["thing", "least", "most"] (SpF K ca F_is_within) := by
  refine SM.Fn.ofF F sc_is_within rfl fun cdv A outer s H E hr => ?_
  have nd := sc_is_within.nd
  refine ⟨_, (pss_one (ps_ret (pe_and (pe_callB (call_isiA (K := K)) (by rfl) T.b_isinstance (by decide +kernel) (pa_cons (pv 0) (pa_cons (pe_bltn (v := .ty "int") (by rfl) T.b_int (by decide +kernel) rfl) pa_nil))) (pe_and (pe_not (pe_callB (call_isiA (K := K)) (by rfl) T.b_isinstance (by decide +kernel) (pa_cons (pv 0) (pa_cons (pe_bltn (v := .ty "bool") (by rfl) T.b_bool (by decide +kernel) rfl) pa_nil)))) (pe_one (pe_chain op_leU op_leU (pv 1) (pv 0) (pv 2))))))), ?_⟩
  exact (ss_ret (se_and (se_cb (cs_isi T.isO T.isX T.isT) (sa_cons se_var (sa_cons se_ty sa_nil))) (se_and (se_not (se_cb (cs_isi T.isO T.isX T.isT) (sa_cons se_var (sa_cons se_ty sa_nil)))) (se_ch os_le os_le se_var se_var se_var))))
abbrev s_Taker___init__ : Stmt := inClass (topS 41) 0
abbrev N_Taker___init__ : List Str := ["self", "first", "room"]
theorem sc_Taker___init__ : FnScope N_Taker___init__ ["self", "first", "room"] (defScope s_Taker___init__) := ⟨rfl, rfl, rfl, by decide +kernel, rfl, by decide +kernel, by decide +kernel⟩
theorem ok_Taker___init__ {P : Program} {w : World} {K : PySem.W.Frag} {mg : Str → Option Value} {base : Heap} {a : Addr} {fd : FuncData} {ca : String → Addr} (T : Txt K mg ca) (F : Fun K "__init__" "Taker.__init__" s_Taker___init__ a fd) (C_is_within : Dx P w K mg base 1 "is_within" (SpF K ca F_is_within)) :
    FnOk P w K mg base (L2.CX P w) 2 a fd ["self", "first", "room"] (SpF K ca F_Taker___init__) := by
  refine SM.Fn.ofF F sc_Taker___init__ rfl fun cdv A outer s H E hr => ?_
  have nd := sc_Taker___init__.nd
  refine ⟨_, (pss_cons (ps_if (PW.pt (pw_or (pt_not (pt_val (pe_dx C_is_within (takes_of rfl rfl rfl rfl) hr (by decide) rfl (pa_cons (pv 1) (pa_cons pe_int (pa_cons (pe_op op_subU (pe_glob (v := .int 4294967296) rfl T.c_SIZE_takers.choose_spec ⟨_, rfl⟩) pe_int) pa_nil)))))) (pw_or1 (pt_not (pt_val (pe_dx C_is_within (takes_of rfl rfl rfl rfl) hr (by decide) rfl (pa_cons (pv 2) (pa_cons pe_int (pa_cons (pe_glob (v := .int 128) rfl T.c_MOST_ROOM_takers.choose_spec ⟨_, rfl⟩) pa_nil))))))))) (pss_one (DL.ps_raiseC rfl (takes_of rfl rfl rfl rfl) (pmk_own PySem.F.excBase_ValueError T.e_NoNumber T.g_NoNumber T.k_NoNumber (raises_own T.b_NoNumber T.t_NoNumber) rfl))) pss_nil) (pss_cons (ps_fld (pv 0) (pv 1) rfl) (pss_cons (ps_fld (pv 0) (pv 2) rfl) (pss_cons (ps_fld (pv 0) pe_dnewK rfl) (pss_cons (ps_fld (pv 0) (pe_tup pa_nil) rfl) (pss_one (ps_fld (pv 0) pe_bl rfl))))))), ?_⟩
  exact (ss_seq (ss_if (st_or (st_not (st_b (se_call (sa_cons se_var (sa_cons se_int (sa_cons (se_op os_sub se_int se_int) sa_nil)))))) (st_not (st_b (se_call (sa_cons se_var (sa_cons se_int (sa_cons se_int sa_nil))))))) (ss_raise rfl) ss_next) (ss_seq (ss_fl (by decide +kernel) ⟨⟨T.cl_Taker, T.n_Taker_wanted⟩, trivial⟩ se_var se_var) (ss_seq (ss_fl (by decide +kernel) ⟨⟨T.cl_Taker, T.n_Taker_whole_room⟩, trivial⟩ se_var se_var) (ss_seq (ss_fl (by decide +kernel) ⟨⟨T.cl_Taker, T.n_Taker_ahead⟩, trivial⟩ se_var se_dnewK) (ss_seq (ss_fl (by decide +kernel) ⟨⟨T.cl_Taker, T.n_Taker_unread⟩, trivial⟩ se_var (se_tup sa_nil)) (ss_fl (by decide +kernel) ⟨⟨T.cl_Taker, T.n_Taker_over⟩, trivial⟩ se_var se_bl))))))
abbrev s_need_number : Stmt := topS 18
abbrev N_need_number : List Str := ["number", "size"]
theorem sc_need_number : FnScope N_need_number ["number", "size"] (defScope s_need_number) := ⟨rfl, rfl, rfl, by decide +kernel, rfl, by decide +kernel, by decide +kernel⟩
theorem ok_need_number {P : Program} {w : World} {K : PySem.W.Frag} {mg : Str → Option Value} {base : Heap} {a : Addr} {fd : FuncData} {ca : String → Addr} (T : Txt K mg ca) (F : Fun K "need_number" "need_number" s_need_number a fd)  :
    FnOk P w K mg base (L2.CX P w) 1 a fd ["number", "size"] (SpF K ca F_need_number) := by
  refine SM.Fn.ofF F sc_need_number rfl fun cdv A outer s H E hr => ?_
  have nd := sc_need_number.nd
  refine ⟨_, (pss_one (ps_if (PW.pt (pw_or (pt_not (pt_val (pe_callB (call_isiA (K := K)) (by rfl) T.b_isinstance (by decide +kernel) (pa_cons (pv 0) (pa_cons (pe_bltn (v := .ty "int") (by rfl) T.b_int (by decide +kernel) rfl) pa_nil))))) (pw_or (pt_val (pe_callB (call_isiA (K := K)) (by rfl) T.b_isinstance (by decide +kernel) (pa_cons (pv 0) (pa_cons (pe_bltn (v := .ty "bool") (by rfl) T.b_bool (by decide +kernel) rfl) pa_nil)))) (pw_or1 (pt_not (pt_chain op_leU op_ltU pe_int (pv 0) (pv 1))))))) (pss_one (DL.ps_raiseC rfl (takes_of rfl rfl rfl rfl) (pmk_own PySem.F.excBase_ValueError T.e_NoNumber T.g_NoNumber T.k_NoNumber (raises_own T.b_NoNumber T.t_NoNumber) rfl))) pss_nil)), ?_⟩
  exact (ss_if (st_or (st_not (st_b (se_cb (cs_isi T.isO T.isX T.isT) (sa_cons se_var (sa_cons se_ty sa_nil))))) (st_or (st_b (se_cb (cs_isi T.isO T.isX T.isT) (sa_cons se_var (sa_cons se_ty sa_nil)))) (st_not (st_test (se_ch os_le os_lt se_int se_var se_var))))) (ss_raise rfl) ss_next)
abbrev s_need_size : Stmt := topS 17
abbrev N_need_size : List Str := ["size"]
theorem sc_need_size : FnScope N_need_size ["size"] (defScope s_need_size) := ⟨rfl, rfl, rfl, by decide +kernel, rfl, by decide +kernel, by decide +kernel⟩
theorem ok_need_size {P : Program} {w : World} {K : PySem.W.Frag} {mg : Str → Option Value} {base : Heap} {a : Addr} {fd : FuncData} {ca : String → Addr} (T : Txt K mg ca) (F : Fun K "need_size" "need_size" s_need_size a fd)  :
    FnOk P w K mg base (L2.CX P w) 1 a fd ["size"] (SpF K ca F_need_size) := by
  refine SM.Fn.ofF F sc_need_size rfl fun cdv A outer s H E hr => ?_
  have nd := sc_need_size.nd
  refine ⟨_, (pss_one (ps_if (PW.pt (pw_or (pt_not (pt_val (pe_callB (call_isiA (K := K)) (by rfl) T.b_isinstance (by decide +kernel) (pa_cons (pv 0) (pa_cons (pe_bltn (v := .ty "int") (by rfl) T.b_int (by decide +kernel) rfl) pa_nil))))) (pw_or (pt_val (pe_callB (call_isiA (K := K)) (by rfl) T.b_isinstance (by decide +kernel) (pa_cons (pv 0) (pa_cons (pe_bltn (v := .ty "bool") (by rfl) T.b_bool (by decide +kernel) rfl) pa_nil)))) (pw_or1 (pt_not (pt_chain op_leU op_leU (pe_glob (v := .int 2) rfl T.c_LEAST_SIZE.choose_spec ⟨_, rfl⟩) (pv 0) (pe_glob (v := .int 4294967296) rfl T.c_MOST_SIZE.choose_spec ⟨_, rfl⟩))))))) (pss_one (DL.ps_raiseC rfl (takes_of rfl rfl rfl rfl) (pmk_own PySem.F.excBase_ValueError T.e_NoSize T.g_NoSize T.k_NoSize (raises_own T.b_NoSize T.t_NoSize) rfl))) pss_nil)), ?_⟩
  exact (ss_if (st_or (st_not (st_b (se_cb (cs_isi T.isO T.isX T.isT) (sa_cons se_var (sa_cons se_ty sa_nil))))) (st_or (st_b (se_cb (cs_isi T.isO T.isX T.isT) (sa_cons se_var (sa_cons se_ty sa_nil)))) (st_not (st_test (se_ch os_le os_le se_int se_var se_int))))) (ss_raise rfl) ss_next)
abbrev s_moved : Stmt := topS 19
abbrev N_moved : List Str := ["number", "by", "size"]
theorem sc_moved : FnScope N_moved ["number", "by", "size"] (defScope s_moved) := ⟨rfl, rfl, rfl, by decide +kernel, rfl, by decide +kernel, by decide +kernel⟩
theorem ok_moved {P : Program} {w : World} {K : PySem.W.Frag} {mg : Str → Option Value} {base : Heap} {a : Addr} {fd : FuncData} {ca : String → Addr} (T : Txt K mg ca) (F : Fun K "moved" "moved" s_moved a fd) (C_need_number : Dx P w K mg base 1 "need_number" (SpF K ca F_need_number)) (C_need_size : Dx P w K mg base 1 "need_size" (SpF K ca F_need_size)) :
    FnOk P w K mg base (L2.CX P w) 2 a fd ["number", "by", "size"] (SpF K ca F_moved) := by
  refine SM.Fn.ofF F sc_moved rfl fun cdv A outer s H E hr => ?_
  have nd := sc_moved.nd
  refine ⟨_, (pss_cons (ps_expr (pe_dx C_need_size (takes_of rfl rfl rfl rfl) hr (by decide) rfl (pa_cons (pv 2) pa_nil))) (pss_cons (ps_expr (pe_dx C_need_number (takes_of rfl rfl rfl rfl) hr (by decide) rfl (pa_cons (pv 0) (pa_cons (pv 2) pa_nil)))) (pss_one (ps_ret (pe_op op_modU (pe_op (op_addU (K := K)) (pv 0) (pv 1)) (pv 2)))))), ?_⟩
  exact (ss_seq (ss_drop (se_call (sa_cons se_var sa_nil))) (ss_seq (ss_drop (se_call (sa_cons se_var (sa_cons se_var sa_nil)))) (ss_ret (se_op os_mod (se_op os_add se_var se_var) se_var))))
abbrev s_Talk_begin_taker : Stmt := inClass (topS 52) 1
abbrev N_Talk_begin_taker : List Str := ["self", "number"]
theorem sc_Talk_begin_taker : FnScope N_Talk_begin_taker ["self", "number"] (defScope s_Talk_begin_taker) := ⟨rfl, rfl, rfl, by decide +kernel, rfl, by decide +kernel, by decide +kernel⟩
theorem ok_Talk_begin_taker {P : Program} {w : World} {K : PySem.W.Frag} {mg : Str → Option Value} {base : Heap} {a : Addr} {fd : FuncData} {ca : String → Addr} (T : Txt K mg ca) (F : Fun K "begin_taker" "Talk.begin_taker" s_Talk_begin_taker a fd) (M_Taker : Mx P w K mg base 2 "Taker" (ca "Taker") (SpF K ca F_Taker___init__)) (C_moved : Dx P w K mg base 2 "moved" (SpF K ca F_moved)) :
    FnOk P w K mg base (L2.CX P w) 4 a fd ["self", "number"] (SpF K ca F_Talk_begin_taker) := by
  refine SM.Fn.ofF F sc_Talk_begin_taker rfl fun cdv A outer s H E hr => ?_
  have nd := sc_Talk_begin_taker.nd
  refine ⟨_, (pss_cons (ps_fld (pv 0) (pe_mx M_Taker (takes_of rfl rfl rfl rfl) hr (by decide) rfl (pa_cons (pe_dx C_moved (takes_of rfl rfl rfl rfl) hr (by decide) rfl (pa_cons (pv 1) (pa_cons pe_int (pa_cons (pe_glob (v := .int 4294967296) rfl T.c_SIZE_talks.choose_spec ⟨_, rfl⟩) pa_nil)))) (pa_cons (pe_glob (v := .int 128) rfl T.c_ROOM.choose_spec ⟨_, rfl⟩) pa_nil))) rfl) (pss_one (ps_fld (pv 0) (pv 1) rfl))), ?_⟩
  exact (ss_seq (ss_fl (by decide +kernel) ⟨⟨T.cl_Talk, T.n_Talk_taker⟩, trivial⟩ se_var (se_make (sa_cons (se_call (sa_cons se_var (sa_cons se_int (sa_cons se_int sa_nil)))) (sa_cons se_int sa_nil)))) (ss_fl (by decide +kernel) ⟨⟨T.cl_Talk, T.n_Talk_other_first⟩, trivial⟩ se_var se_var))
abbrev s_Giver_is_counted : Stmt := inClass (topS 28) 2
abbrev N_Giver_is_counted : List Str := ["self"]
theorem sc_Giver_is_counted : FnScope N_Giver_is_counted ["self"] (defScope s_Giver_is_counted) := ⟨rfl, rfl, rfl, by decide +kernel, rfl, by decide +kernel, by decide +kernel⟩
theorem ok_Giver_is_counted {P : Program} {w : World} {K : PySem.W.Frag} {mg : Str → Option Value} {base : Heap} {a : Addr} {fd : FuncData} {ca : String → Addr} (T : Txt K mg ca) (F : Fun K "is_counted" "Giver.is_counted" s_Giver_is_counted a fd)  :
    FnOk P w K mg base (L2.CX P w) 1 a fd ["self"] (SpF K ca F_Giver_is_counted) := by
  refine SM.Fn.ofF F sc_Giver_is_counted rfl fun cdv A outer s H E hr => ?_
  have nd := sc_Giver_is_counted.nd
  refine ⟨_, (pss_one (ps_ret (pe_or (pe_cmpR op_gtU (pe_fld (pv 0) rfl) pe_int (nomark _)) (pe_one (pe_and (pe_cmpR op_gtU (pe_callB (call_lenU (K := K)) (by rfl) T.b_len (by decide +kernel) (pa_cons (pe_fld (pv 0) rfl) pa_nil)) pe_int (nomark _)) (pe_one (pe_cmpR (op_eqPK (K := K) (DL.room65 hr)) (pe_fld (pv 0) rfl) pe_int (nomark _)))))))), ?_⟩
  exact (ss_ret (se_or (se_op os_gt (se_fld (by decide +kernel) ⟨⟨T.cl_Giver, T.n_Giver_sent⟩, trivial⟩ se_var) se_int) (se_and (se_op os_gt (se_cb cs_len (sa_cons (se_fld (by decide +kernel) ⟨⟨T.cl_Giver, T.n_Giver_kept⟩, trivial⟩ se_var) sa_nil)) se_int) (se_op os_eq (se_fld (by decide +kernel) ⟨⟨T.cl_Giver, T.n_Giver_reach⟩, trivial⟩ se_var) se_int))))
abbrev s_Giver_count : Stmt := inClass (topS 28) 3
abbrev N_Giver_count : List Str := ["self", "tick"]
theorem sc_Giver_count : FnScope N_Giver_count ["self", "tick"] (defScope s_Giver_count) := ⟨rfl, rfl, rfl, by decide +kernel, rfl, by decide +kernel, by decide +kernel⟩
theorem ok_Giver_count {P : Program} {w : World} {K : PySem.W.Frag} {mg : Str → Option Value} {base : Heap} {a : Addr} {fd : FuncData} {ca : String → Addr} (T : Txt K mg ca) (F : Fun K "count" "Giver.count" s_Giver_count a fd) (M_Giver_is_counted : SM.Mt P w K mg base 1 (ca "Giver") "is_counted" (SpF K ca F_Giver_is_counted)) :
    FnOk P w K mg base (L2.CX P w) 2 a fd ["self", "tick"] (SpF K ca F_Giver_count) := by
  refine SM.Fn.ofF F sc_Giver_count rfl fun cdv A outer s H E hr => ?_
  have nd := sc_Giver_count.nd
  refine ⟨_, (pss_one (ps_if (pt_not (pt_val (pe_mtX0 M_Giver_is_counted (takes_of rfl rfl rfl rfl) hr (by decide) T.cl_Giver (pv 0)))) (pss_one (ps_fld (pv 0) pe_non rfl)) (pss_one (ps_if (pt_cmpR op_isU (pe_fld (pv 0) rfl) pe_non (nomark _)) (pss_one (ps_fld (pv 0) (pv 1) rfl)) pss_nil)))), ?_⟩
  exact (ss_if (st_not (st_b (meth_one (by decide +kernel) se_var sa_nil))) (ss_fl (by decide +kernel) ⟨⟨T.cl_Giver, T.n_Giver_since⟩, trivial⟩ se_var se_non) (ss_if (st_test (se_op os_is (se_fld (by decide +kernel) ⟨⟨T.cl_Giver, T.n_Giver_since⟩, trivial⟩ se_var) se_non)) (ss_fl (by decide +kernel) ⟨⟨T.cl_Giver, T.n_Giver_since⟩, trivial⟩ se_var se_var) ss_next))
abbrev s_is_number_givers : Stmt := topS 26
abbrev N_is_number_givers : List Str := ["thing", "least"]
theorem sc_is_number_givers : FnScope N_is_number_givers ["thing", "least"] (defScope s_is_number_givers) := ⟨rfl, rfl, rfl, by decide +kernel, rfl, by decide +kernel, by decide +kernel⟩
theorem ok_is_number_givers {P : Program} {w : World} {K : PySem.W.Frag} {mg : Str → Option Value} {base : Heap} {a : Addr} {fd : FuncData} {ca : String → Addr} (T : Txt K mg ca) (F : Fun K "is_number" "is_number" s_is_number_givers a fd)  :
    FnOk P w K mg base (L2.CX P w) 1 a fd ["thing", "least"] (SpF K ca F_is_number_givers) := by
  refine SM.Fn.ofF F sc_is_number_givers rfl fun cdv A outer s H E hr => ?_
  have nd := sc_is_number_givers.nd
  refine ⟨_, (pss_one (ps_ret (pe_and (pe_callB (call_isiA (K := K)) (by rfl) T.b_isinstance (by decide +kernel) (pa_cons (pv 0) (pa_cons (pe_bltn (v := .ty "int") (by rfl) T.b_int (by decide +kernel) rfl) pa_nil))) (pe_and (pe_not (pe_callB (call_isiA (K := K)) (by rfl) T.b_isinstance (by decide +kernel) (pa_cons (pv 0) (pa_cons (pe_bltn (v := .ty "bool") (by rfl) T.b_bool (by decide +kernel) rfl) pa_nil)))) (pe_one (pe_cmpR op_geU (pv 0) (pv 1) (nomark _))))))), ?_⟩
  exact (ss_ret (se_and (se_cb (cs_isi T.isO T.isX T.isT) (sa_cons se_var (sa_cons se_ty sa_nil))) (se_and (se_not (se_cb (cs_isi T.isO T.isX T.isT) (sa_cons se_var (sa_cons se_ty sa_nil)))) (se_op os_ge se_var se_var))))
abbrev s_Giver_need_tick : Stmt := inClass (topS 28) 1
abbrev N_Giver_need_tick : List Str := ["self", "tick"]
theorem sc_Giver_need_tick : FnScope N_Giver_need_tick ["self", "tick"] (defScope s_Giver_need_tick) := ⟨rfl, rfl, rfl, by decide +kernel, rfl, by decide +kernel, by decide +kernel⟩
theorem ok_Giver_need_tick {P : Program} {w : World} {K : PySem.W.Frag} {mg : Str → Option Value} {base : Heap} {a : Addr} {fd : FuncData} {ca : String → Addr} (T : Txt K mg ca) (F : Fun K "need_tick" "Giver.need_tick" s_Giver_need_tick a fd) (C_is_number_givers : Dx P w K mg base 1 "is_number_givers" (SpF K ca F_is_number_givers)) :
    FnOk P w K mg base (L2.CX P w) 2 a fd ["self", "tick"] (SpF K ca F_Giver_need_tick) := by
  refine SM.Fn.ofF F sc_Giver_need_tick rfl fun cdv A outer s H E hr => ?_
  have nd := sc_Giver_need_tick.nd
  refine ⟨_, (pss_cons (ps_if (pt_not (pt_val (pe_dx C_is_number_givers (takes_of rfl rfl rfl rfl) hr (by decide) rfl (pa_cons (pv 1) (pa_cons (pe_fld (pv 0) rfl) pa_nil))))) (pss_one (DL.ps_raiseC rfl (takes_of rfl rfl rfl rfl) (pmk_own PySem.F.excBase_ValueError T.e_NoTick T.g_NoTick T.k_NoTick (raises_own T.b_NoTick T.t_NoTick) rfl))) pss_nil) (pss_one (ps_fld (pv 0) (pv 1) rfl))), ?_⟩
  exact (ss_seq (ss_if (st_not (st_b (se_call (sa_cons se_var (sa_cons (se_fld (by decide +kernel) ⟨⟨T.cl_Giver, T.n_Giver_now⟩, trivial⟩ se_var) sa_nil))))) (ss_raise rfl) ss_next) (ss_fl (by decide +kernel) ⟨⟨T.cl_Giver, T.n_Giver_now⟩, trivial⟩ se_var se_var))
abbrev s_far : Stmt := topS 20
abbrev N_far : List Str := ["one", "other", "size"]
theorem sc_far : FnScope N_far ["one", "other", "size"] (defScope s_far) := ⟨rfl, rfl, rfl, by decide +kernel, rfl, by decide +kernel, by decide +kernel⟩
theorem ok_far {P : Program} {w : World} {K : PySem.W.Frag} {mg : Str → Option Value} {base : Heap} {a : Addr} {fd : FuncData} {ca : String → Addr} (T : Txt K mg ca) (F : Fun K "far" "far" s_far a fd) (C_need_number : Dx P w K mg base 1 "need_number" (SpF K ca F_need_number)) (C_need_size : Dx P w K mg base 1 "need_size" (SpF K ca F_need_size)) :
    FnOk P w K mg base (L2.CX P w) 2 a fd ["one", "other", "size"] (SpF K ca F_far) := by
  refine SM.Fn.ofF F sc_far rfl fun cdv A outer s H E hr => ?_
  have nd := sc_far.nd
  refine ⟨_, (pss_cons (ps_expr (pe_dx C_need_size (takes_of rfl rfl rfl rfl) hr (by decide) rfl (pa_cons (pv 2) pa_nil))) (pss_cons (ps_expr (pe_dx C_need_number (takes_of rfl rfl rfl rfl) hr (by decide) rfl (pa_cons (pv 0) (pa_cons (pv 2) pa_nil)))) (pss_cons (ps_expr (pe_dx C_need_number (takes_of rfl rfl rfl rfl) hr (by decide) rfl (pa_cons (pv 1) (pa_cons (pv 2) pa_nil)))) (pss_one (ps_ret (pe_op op_modU (pe_op op_subU (pv 1) (pv 0)) (pv 2))))))), ?_⟩
  exact (ss_seq (ss_drop (se_call (sa_cons se_var sa_nil))) (ss_seq (ss_drop (se_call (sa_cons se_var (sa_cons se_var sa_nil)))) (ss_seq (ss_drop (se_call (sa_cons se_var (sa_cons se_var sa_nil)))) (ss_ret (se_op os_mod (se_op os_sub se_var se_var) se_var)))))
abbrev s_Giver_heard : Stmt := inClass (topS 28) 6
abbrev N_Giver_heard : List Str := ["self", "answer", "room", "tick", "many"]
theorem sc_Giver_heard : FnScope N_Giver_heard ["self", "answer", "room", "tick"] (defScope s_Giver_heard) := ⟨rfl, rfl, rfl, by decide +kernel, rfl, by decide +kernel, by decide +kernel⟩
theorem ok_Giver_heard {P : Program} {w : World} {K : PySem.W.Frag} {mg : Str → Option Value} {base : Heap} {a : Addr} {fd : FuncData} {ca : String → Addr} (T : Txt K mg ca) (F : Fun K "heard" "Giver.heard" s_Giver_heard a fd) (M_Giver_count : SM.Mt P w K mg base 2 (ca "Giver") "count" (SpF K ca F_Giver_count)) (M_Giver_need_tick : SM.Mt P w K mg base 2 (ca "Giver") "need_tick" (SpF K ca F_Giver_need_tick)) (C_far : Dx P w K mg base 2 "far" (SpF K ca F_far)) :
    FnOk P w K mg base (L2.CX P w) 3 a fd ["self", "answer", "room", "tick"] (SpF K ca F_Giver_heard) := by
  refine SM.Fn.ofF F sc_Giver_heard rfl fun cdv A outer s H E hr => ?_
  have nd := sc_Giver_heard.nd
  refine ⟨_, (pss_cons (ps_expr (pe_mtX M_Giver_need_tick (takes_of rfl rfl rfl rfl) hr (by decide) T.cl_Giver (pv 0) (pa_cons (pv 3) pa_nil))) (pss_cons (ps_set (i := 4) nd rfl (by first | exact Or.inl rfl | exact Or.inr rfl) (pe_dx C_far (takes_of rfl rfl rfl rfl) hr (by decide) rfl (pa_cons (pe_fld (pv 0) rfl) (pa_cons (pv 1) (pa_cons (pe_glob (v := .int 4294967296) rfl T.c_SIZE_givers.choose_spec ⟨_, rfl⟩) pa_nil))))) (pss_cons (ps_if (pt_cmpR op_gtU (pv 4) (pe_fld (pv 0) rfl) (nomark _)) (pss_one (ps_ret pe_bl)) pss_nil) (pss_cons (ps_fld (pv 0) pe_int rfl) (pss_cons (ps_fld (pv 0) (pv 1) rfl) (pss_cons (ps_fld (pv 0) (pe_slice (sl_U (K := K)) (pe_fld (pv 0) rfl) (po_some (pv 4)) po_none) rfl) (pss_cons (ps_fldaug (pv 0) (pv 4) ia_subA) (pss_cons (ps_fldaug (pv 0) (pv 4) (ia_addA (K := K))) (pss_cons (ps_fld (pv 0) (pe_callB (call_max2U rfl) (by rfl) T.b_max (by decide +kernel) (pa_cons (pe_op op_subU (pe_fld (pv 0) rfl) (pv 4)) (pa_cons (pv 2) pa_nil))) rfl) (pss_cons (ps_if (pt_cmpR op_gtU (pv 4) pe_int (nomark _)) (pss_cons (ps_fld (pv 0) (pe_fld (pv 0) rfl) rfl) (pss_cons (ps_fld (pv 0) pe_non rfl) (pss_one (ps_fld (pv 0) (pe_callB (call_min2U rfl) (by rfl) T.b_min (by decide +kernel) (pa_cons (pe_glob (v := .int 512) rfl T.c_MOST_KEPT.choose_spec ⟨_, rfl⟩) (pa_cons (pe_op (op_addU (K := K)) (pe_fld (pv 0) rfl) (pe_fld (pv 0) rfl)) pa_nil))) rfl)))) pss_nil) (pss_cons (ps_expr (pe_mtX M_Giver_count (takes_of rfl rfl rfl rfl) hr (by decide) T.cl_Giver (pv 0) (pa_cons (pv 3) pa_nil))) (pss_one (ps_ret pe_bl))))))))))))), ?_⟩
  exact (ss_seq (ss_drop (meth_one (by decide +kernel) se_var (sa_cons se_var sa_nil))) (ss_seq (ss_set (se_call (sa_cons (se_fld (by decide +kernel) ⟨⟨T.cl_Giver, T.n_Giver_base⟩, trivial⟩ se_var) (sa_cons se_var (sa_cons se_int sa_nil))))) (ss_seq (ss_if (st_test (se_op os_gt se_var (se_fld (by decide +kernel) ⟨⟨T.cl_Giver, T.n_Giver_sent⟩, trivial⟩ se_var))) (ss_ret se_bl) ss_next) (ss_seq (ss_fl (by decide +kernel) ⟨⟨T.cl_Giver, T.n_Giver_tried⟩, trivial⟩ se_var se_int) (ss_seq (ss_fl (by decide +kernel) ⟨⟨T.cl_Giver, T.n_Giver_base⟩, trivial⟩ se_var se_var) (ss_seq (ss_fl (by decide +kernel) ⟨⟨T.cl_Giver, T.n_Giver_kept⟩, trivial⟩ se_var (se_sl sls_all (se_fld (by decide +kernel) ⟨⟨T.cl_Giver, T.n_Giver_kept⟩, trivial⟩ se_var) (so_some se_var) so_none)) (ss_seq (ss_flaug (by decide +kernel) ⟨⟨T.cl_Giver, T.n_Giver_sent⟩, trivial⟩ ips_sub se_var se_var) (ss_seq (ss_flaug (by decide +kernel) ⟨⟨T.cl_Giver, T.n_Giver_passed⟩, trivial⟩ ips_add se_var se_var) (ss_seq (ss_fl (by decide +kernel) ⟨⟨T.cl_Giver, T.n_Giver_reach⟩, trivial⟩ se_var (se_cb cs_max2 (sa_cons (se_op os_sub (se_fld (by decide +kernel) ⟨⟨T.cl_Giver, T.n_Giver_reach⟩, trivial⟩ se_var) se_var) (sa_cons se_var sa_nil)))) (ss_seq (ss_if (st_test (se_op os_gt se_var se_int)) (ss_seq (ss_fl (by decide +kernel) ⟨⟨T.cl_Giver, T.n_Giver_wait⟩, trivial⟩ se_var (se_fld (by decide +kernel) ⟨⟨T.cl_Giver, T.n_Giver_first_wait⟩, trivial⟩ se_var)) (ss_seq (ss_fl (by decide +kernel) ⟨⟨T.cl_Giver, T.n_Giver_since⟩, trivial⟩ se_var se_non) (ss_fl (by decide +kernel) ⟨⟨T.cl_Giver, T.n_Giver_pace⟩, trivial⟩ se_var (se_cb cs_min2 (sa_cons se_int (sa_cons (se_op os_add (se_fld (by decide +kernel) ⟨⟨T.cl_Giver, T.n_Giver_pace⟩, trivial⟩ se_var) (se_fld (by decide +kernel) ⟨⟨T.cl_Giver, T.n_Giver_most⟩, trivial⟩ se_var)) sa_nil)))))) ss_next) (ss_seq (ss_drop (meth_one (by decide +kernel) se_var (sa_cons se_var sa_nil))) (ss_ret se_bl))))))))))))
abbrev s_Giver_left : Stmt := inClass (topS 28) 10
abbrev N_Giver_left : List Str := ["self"]
theorem sc_Giver_left : FnScope N_Giver_left ["self"] (defScope s_Giver_left) := ⟨rfl, rfl, rfl, by decide +kernel, rfl, by decide +kernel, by decide +kernel⟩
theorem ok_Giver_left {P : Program} {w : World} {K : PySem.W.Frag} {mg : Str → Option Value} {base : Heap} {a : Addr} {fd : FuncData} {ca : String → Addr} (T : Txt K mg ca) (F : Fun K "left" "Giver.left" s_Giver_left a fd)  :
    FnOk P w K mg base (L2.CX P w) 1 a fd ["self"] (SpF K ca F_Giver_left) := by
  refine SM.Fn.ofF F sc_Giver_left rfl fun cdv A outer s H E hr => ?_
  have nd := sc_Giver_left.nd
  refine ⟨_, (pss_one (ps_ret (pe_callB (call_lenU (K := K)) (by rfl) T.b_len (by decide +kernel) (pa_cons (pe_fld (pv 0) rfl) pa_nil)))), ?_⟩
  exact (ss_ret (se_cb cs_len (sa_cons (se_fld (by decide +kernel) ⟨⟨T.cl_Giver, T.n_Giver_kept⟩, trivial⟩ se_var) sa_nil)))
abbrev s_Giver_next_number : Stmt := inClass (topS 28) 12
abbrev N_Giver_next_number : List Str := ["self"]
theorem sc_Giver_next_number : FnScope N_Giver_next_number ["self"] (defScope s_Giver_next_number) := ⟨rfl, rfl, rfl, by decide +kernel, rfl, by decide +kernel, by decide +kernel⟩
theorem ok_Giver_next_number {P : Program} {w : World} {K : PySem.W.Frag} {mg : Str → Option Value} {base : Heap} {a : Addr} {fd : FuncData} {ca : String → Addr} (T : Txt K mg ca) (F : Fun K "next_number" "Giver.next_number" s_Giver_next_number a fd) (C_moved : Dx P w K mg base 2 "moved" (SpF K ca F_moved)) :
    FnOk P w K mg base (L2.CX P w) 3 a fd ["self"] (SpF K ca F_Giver_next_number) := by
  refine SM.Fn.ofF F sc_Giver_next_number rfl fun cdv A outer s H E hr => ?_
  have nd := sc_Giver_next_number.nd
  refine ⟨_, (pss_one (ps_ret (pe_dx C_moved (takes_of rfl rfl rfl rfl) hr (by decide) rfl (pa_cons (pe_fld (pv 0) rfl) (pa_cons (pe_fld (pv 0) rfl) (pa_cons (pe_glob (v := .int 4294967296) rfl T.c_SIZE_givers.choose_spec ⟨_, rfl⟩) pa_nil)))))), ?_⟩
  exact (ss_ret (se_call (sa_cons (se_fld (by decide +kernel) ⟨⟨T.cl_Giver, T.n_Giver_base⟩, trivial⟩ se_var) (sa_cons (se_fld (by decide +kernel) ⟨⟨T.cl_Giver, T.n_Giver_sent⟩, trivial⟩ se_var) (sa_cons se_int sa_nil)))))
abbrev s_Segment_numbered : Stmt := inClass (topS 36) 2
abbrev N_Segment_numbered : List Str := ["self", "ahead", "letter"]
theorem sc_Segment_numbered : FnScope N_Segment_numbered ["self"] (defScope s_Segment_numbered) := ⟨rfl, rfl, rfl, by decide +kernel, rfl, by decide +kernel, by decide +kernel⟩
theorem ok_Segment_numbered {P : Program} {w : World} {K : PySem.W.Frag} {mg : Str → Option Value} {base : Heap} {a : Addr} {fd : FuncData} {ca : String → Addr} (T : Txt K mg ca) (F : Fun K "numbered" "Segment.numbered" s_Segment_numbered a fd)  :
    FnOk P w K mg base (L2.CX P w) 1 a fd ["self"] (SpF K ca F_Segment_numbered) := by
  refine SM.Fn.ofF F sc_Segment_numbered rfl fun cdv A outer s H E hr => ?_
  have nd := sc_Segment_numbered.nd
  refine ⟨_, (pss_cons (ps_set (i := 1) nd rfl (by first | exact Or.inl rfl | exact Or.inr rfl) (pe_callTy (call_tupleU (K := K)) (by rfl) T.b_tuple (by decide +kernel) (pa_cons (pe_lc (own := [("letter", 2)]) (g := (gName 2)) rfl nd (pi_seqU (K := K) pe_str) (blkOk_by (own := [("letter", 2)]) (N := N_Segment_numbered) (sc := defScope s_Segment_numbered) (by decide +kernel)) (fun _ _ _ _ _ => (pg_name (i := 2) nd rfl (by first | exact Or.inl rfl | exact Or.inr rfl))) (fun _ _ _ _ _ => (pts_one (pt_cmpR (op_inAll (K := K) (DL.room65 hr)) (pv 2) (pe_fldK (K := K) rfl (pv 0) rfl) rfl))) (fun _ _ _ _ _ => (pv 2))) pa_nil))) (pss_one (ps_ret (pe_op (op_addU (K := K)) (pe_op (op_addU (K := K)) (pv 1) (pe_fld (pv 0) rfl)) (pe_callTy (call_tupleU (K := K)) (by rfl) T.b_tuple (by decide +kernel) (pa_cons (pe_lc (own := [("letter", 2)]) (g := (gName 2)) rfl nd (pi_seqU (K := K) pe_str) (blkOk_by (own := [("letter", 2)]) (N := N_Segment_numbered) (sc := defScope s_Segment_numbered) (by decide +kernel)) (fun _ _ _ _ _ => (pg_name (i := 2) nd rfl (by first | exact Or.inl rfl | exact Or.inr rfl))) (fun _ _ _ _ _ => (pts_one (pt_cmpR (op_inAll (K := K) (DL.room65 hr)) (pv 2) (pe_fldK (K := K) rfl (pv 0) rfl) rfl))) (fun _ _ _ _ _ => (pv 2))) pa_nil)))))), ?_⟩
  exact (ss_seq (ss_set (se_cb cs_tuple (sa_cons (se_lc (W2 := fun _ _ _ _ => False) (sw_seq (se_strS (by decide +kernel))) sg_name (by decide) (st_test (se_op os_in se_var (se_fld (by decide +kernel) ⟨⟨T.cl_Segment, T.n_Segment_marks⟩, trivial⟩ se_var))) se_var) sa_nil))) (ss_ret (se_op os_add (se_op os_add se_var (se_fld (by decide +kernel) ⟨⟨T.cl_Segment, T.n_Segment_data⟩, trivial⟩ se_var)) (se_cb cs_tuple (sa_cons (se_lc (W2 := fun _ _ _ _ => False) (sw_seq (se_strS (by decide +kernel))) sg_name (by decide) (st_test (se_op os_in se_var (se_fld (by decide +kernel) ⟨⟨T.cl_Segment, T.n_Segment_marks⟩, trivial⟩ se_var))) se_var) sa_nil)))))
abbrev s_Taker_free : Stmt := inClass (topS 41) 1
abbrev N_Taker_free : List Str := ["self"]
theorem sc_Taker_free : FnScope N_Taker_free ["self"] (defScope s_Taker_free) := ⟨rfl, rfl, rfl, by decide +kernel, rfl, by decide +kernel, by decide +kernel⟩
theorem ok_Taker_free {P : Program} {w : World} {K : PySem.W.Frag} {mg : Str → Option Value} {base : Heap} {a : Addr} {fd : FuncData} {ca : String → Addr} (T : Txt K mg ca) (F : Fun K "free" "Taker.free" s_Taker_free a fd)  :
    FnOk P w K mg base (L2.CX P w) 1 a fd ["self"] (SpF K ca F_Taker_free) := by
  refine SM.Fn.ofF F sc_Taker_free rfl fun cdv A outer s H E hr => ?_
  have nd := sc_Taker_free.nd
  refine ⟨_, (pss_one (ps_ret (pe_op op_subU (pe_fld (pv 0) rfl) (pe_callB (call_lenU (K := K)) (by rfl) T.b_len (by decide +kernel) (pa_cons (pe_fld (pv 0) rfl) pa_nil))))), ?_⟩
  exact (ss_ret (se_op os_sub (se_fld (by decide +kernel) ⟨⟨T.cl_Taker, T.n_Taker_whole_room⟩, trivial⟩ se_var) (se_cb cs_len (sa_cons (se_fld (by decide +kernel) ⟨⟨T.cl_Taker, T.n_Taker_unread⟩, trivial⟩ se_var) sa_nil))))
abbrev s_Taker_wants : Stmt := inClass (topS 41) 4
abbrev N_Taker_wants : List Str := ["self"]
theorem sc_Taker_wants : FnScope N_Taker_wants ["self"] (defScope s_Taker_wants) := ⟨rfl, rfl, rfl, by decide +kernel, rfl, by decide +kernel, by decide +kernel⟩
theorem ok_Taker_wants {P : Program} {w : World} {K : PySem.W.Frag} {mg : Str → Option Value} {base : Heap} {a : Addr} {fd : FuncData} {ca : String → Addr} (T : Txt K mg ca) (F : Fun K "wants" "Taker.wants" s_Taker_wants a fd) (M_Taker_free : SM.Mt P w K mg base 1 (ca "Taker") "free" (SpF K ca F_Taker_free)) :
    FnOk P w K mg base (L2.CX P w) 2 a fd ["self"] (SpF K ca F_Taker_wants) := by
  refine SM.Fn.ofF F sc_Taker_wants rfl fun cdv A outer s H E hr => ?_
  have nd := sc_Taker_wants.nd
  refine ⟨_, (pss_one (ps_ret (pe_tup (pa_cons (pe_fld (pv 0) rfl) (pa_cons (pe_mtX0 M_Taker_free (takes_of rfl rfl rfl rfl) hr (by decide) T.cl_Taker (pv 0)) pa_nil))))), ?_⟩
  exact (ss_ret (se_tup (sa_cons (se_fld (by decide +kernel) ⟨⟨T.cl_Taker, T.n_Taker_wanted⟩, trivial⟩ se_var) (sa_cons (meth_one (by decide +kernel) se_var sa_nil) sa_nil))))
abbrev s_Talk_made : Stmt := inClass (topS 52) 7
abbrev N_Talk_made : List Str := ["self", "marks", "number", "data", "answer", "room"]
theorem sc_Talk_made : FnScope N_Talk_made ["self", "marks", "number", "data"] (defScope s_Talk_made) := ⟨rfl, rfl, rfl, by decide +kernel, rfl, by decide +kernel, by decide +kernel⟩
theorem ok_Talk_made {P : Program} {w : World} {K : PySem.W.Frag} {mg : Str → Option Value} {base : Heap} {a : Addr} {fd : FuncData} {ca : String → Addr} (T : Txt K mg ca) (F : Fun K "made" "Talk.made" s_Talk_made a fd) (M_Segment : Mx P w K mg base 3 "Segment" (ca "Segment") (SpF K ca F_Segment___init__)) (M_Taker_wants : SM.Mt P w K mg base 2 (ca "Taker") "wants" (SpF K ca F_Taker_wants)) :
    FnOk P w K mg base (L2.CX P w) 5 a fd ["self", "marks", "number", "data"] (SpF K ca F_Talk_made) := by
  refine SM.Fn.ofF F sc_Talk_made rfl fun cdv A outer s H E hr => ?_
  have nd := sc_Talk_made.nd
  refine ⟨_, (pss_cons (ps_asg (pe_tup (pa_cons pe_int (pa_cons pe_int pa_nil))) (pg_tup rfl (pgs_cons (pg_name (i := 4) nd rfl (by first | exact Or.inl rfl | exact Or.inr rfl)) (pgs_cons (pg_name (i := 5) nd rfl (by first | exact Or.inl rfl | exact Or.inr rfl)) pgs_nil)))) (pss_cons (ps_if (pt_cmpR (op_inAll (K := K) (DL.room65 hr)) pe_str (pv 1) rfl) (pss_one (ps_asg (pe_mtX0 M_Taker_wants (takes_of rfl rfl rfl rfl) hr (by decide) T.cl_Taker (pe_fld (pv 0) rfl)) (pg_tup rfl (pgs_cons (pg_name (i := 4) nd rfl (by first | exact Or.inl rfl | exact Or.inr rfl)) (pgs_cons (pg_name (i := 5) nd rfl (by first | exact Or.inl rfl | exact Or.inr rfl)) pgs_nil))))) pss_nil) (pss_one (ps_ret (pe_mx M_Segment (takes_of rfl rfl rfl rfl) hr (by decide) rfl (pa_cons (pe_fld (pv 0) rfl) (pa_cons (pe_fld (pv 0) rfl) (pa_cons (pv 1) (pa_cons (pv 2) (pa_cons (pv 4) (pa_cons (pv 5) (pa_cons (pv 3) pa_nil)))))))))))), ?_⟩
  exact (ss_seq (ss_asg (se_tup (sa_cons se_int (sa_cons se_int sa_nil))) (sg_tup (sgs_cons sg_name (sgs_cons sg_name sgs_nil)) rfl)) (ss_seq (ss_if (st_test (se_op os_in (se_strS (by decide +kernel)) se_var)) (ss_asg (meth_one (by decide +kernel) (se_fld (by decide +kernel) ⟨⟨T.cl_Talk, T.n_Talk_taker⟩, trivial⟩ se_var) sa_nil) (sg_tup (sgs_cons sg_name (sgs_cons sg_name sgs_nil)) rfl)) ss_next) (ss_ret (se_make (sa_cons (se_fld (by decide +kernel) ⟨⟨T.cl_Talk, T.n_Talk_here⟩, trivial⟩ se_var) (sa_cons (se_fld (by decide +kernel) ⟨⟨T.cl_Talk, T.n_Talk_there⟩, trivial⟩ se_var) (sa_cons se_var (sa_cons se_var (sa_cons se_var (sa_cons se_var (sa_cons se_var sa_nil)))))))))))
abbrev s_Taker_come_ready : Stmt := inClass (topS 41) 3
abbrev N_Taker_come_ready : List Str := ["self", "item"]
theorem sc_Taker_come_ready : FnScope N_Taker_come_ready ["self", "item"] (defScope s_Taker_come_ready) := ⟨rfl, rfl, rfl, by decide +kernel, rfl, by decide +kernel, by decide +kernel⟩
theorem ok_Taker_come_ready {P : Program} {w : World} {K : PySem.W.Frag} {mg : Str → Option Value} {base : Heap} {a : Addr} {fd : FuncData} {ca : String → Addr} (T : Txt K mg ca) (F : Fun K "come_ready" "Taker.come_ready" s_Taker_come_ready a fd) (C_moved : Dx P w K mg base 2 "moved" (SpF K ca F_moved)) :
    FnOk P w K mg base (L2.CX P w) 3 a fd ["self", "item"] (SpF K ca F_Taker_come_ready) := by
  refine SM.Fn.ofF F sc_Taker_come_ready rfl fun cdv A outer s H E hr => ?_
  have nd := sc_Taker_come_ready.nd
  refine ⟨_, (pss_cons (ps_fld (pv 0) (pe_dx C_moved (takes_of rfl rfl rfl rfl) hr (by decide) rfl (pa_cons (pe_fld (pv 0) rfl) (pa_cons pe_int (pa_cons (pe_glob (v := .int 4294967296) rfl T.c_SIZE_takers.choose_spec ⟨_, rfl⟩) pa_nil)))) rfl) (pss_one (ps_if (pt_cmpR (op_eqPK (K := K) (DL.room65 hr)) (pv 1) pe_str (nomark _)) (pss_cons (ps_fld (pv 0) pe_bl rfl) (pss_one (ps_fld (pv 0) pe_dnewK rfl))) (pss_one (ps_if (pt_cmpR (op_nePK (K := K) (DL.room65 hr)) (pv 1) pe_str (nomark _)) (pss_one (ps_fld (pv 0) (pe_op (op_addU (K := K)) (pe_fld (pv 0) rfl) (pe_tup (pa_cons (pv 1) pa_nil))) rfl)) pss_nil))))), ?_⟩
  exact (ss_seq (ss_fl (by decide +kernel) ⟨⟨T.cl_Taker, T.n_Taker_wanted⟩, trivial⟩ se_var (se_call (sa_cons (se_fld (by decide +kernel) ⟨⟨T.cl_Taker, T.n_Taker_wanted⟩, trivial⟩ se_var) (sa_cons se_int (sa_cons se_int sa_nil))))) (ss_if (st_test (se_op os_eq se_var (se_strS (by decide +kernel)))) (ss_seq (ss_fl (by decide +kernel) ⟨⟨T.cl_Taker, T.n_Taker_over⟩, trivial⟩ se_var se_bl) (ss_fl (by decide +kernel) ⟨⟨T.cl_Taker, T.n_Taker_ahead⟩, trivial⟩ se_var se_dnewK)) (ss_if (st_test (se_op os_ne se_var (se_strS (by decide +kernel)))) (ss_fl (by decide +kernel) ⟨⟨T.cl_Taker, T.n_Taker_unread⟩, trivial⟩ se_var (se_op os_add (se_fld (by decide +kernel) ⟨⟨T.cl_Taker, T.n_Taker_unread⟩, trivial⟩ se_var) (se_tup (sa_cons se_var sa_nil)))) ss_next)))
abbrev s_Taker_take : Stmt := inClass (topS 41) 2
abbrev N_Taker_take : List Str := ["self", "number", "items", "wanted", "free", "step", "item", "place"]
theorem sc_Taker_take : FnScope N_Taker_take ["self", "number", "items"] (defScope s_Taker_take) := ⟨rfl, rfl, rfl, by decide +kernel, rfl, by decide +kernel, by decide +kernel⟩
theorem ok_Taker_take {P : Program} {w : World} {K : PySem.W.Frag} {mg : Str → Option Value} {base : Heap} {a : Addr} {fd : FuncData} {ca : String → Addr} (T : Txt K mg ca) (F : Fun K "take" "Taker.take" s_Taker_take a fd) (M_Taker_come_ready : SM.Mt P w K mg base 3 (ca "Taker") "come_ready" (SpF K ca F_Taker_come_ready)) (M_Taker_wants : SM.Mt P w K mg base 2 (ca "Taker") "wants" (SpF K ca F_Taker_wants)) (C_far : Dx P w K mg base 2 "far" (SpF K ca F_far)) (C_moved : Dx P w K mg base 2 "moved" (SpF K ca F_moved)) :
    FnOk P w K mg base (L2.CX P w) 4 a fd ["self", "number", "items"] (SpF K ca F_Taker_take) := by
  refine SM.Fn.ofF F sc_Taker_take rfl fun cdv A outer s H E hr => ?_
  have nd := sc_Taker_take.nd
  refine ⟨_, (pss_cons (ps_if (pt_val (pe_fld (pv 0) rfl)) (pss_one ps_retN) pss_nil) (pss_cons (ps_asg (pe_mtX0 M_Taker_wants (takes_of rfl rfl rfl rfl) hr (by decide) T.cl_Taker (pv 0)) (pg_tup rfl (pgs_cons (pg_name (i := 3) nd rfl (by first | exact Or.inl rfl | exact Or.inr rfl)) (pgs_cons (pg_name (i := 4) nd rfl (by first | exact Or.inl rfl | exact Or.inr rfl)) pgs_nil)))) (pss_cons (ps_for (passes_of rfl) rfl (pi_enumA (by rfl) T.b_enumerate (pa_cons (pv 2) pa_nil)) (pg_tup rfl (pgs_cons (pg_name (i := 5) nd rfl (by first | exact Or.inl rfl | exact Or.inr rfl)) (pgs_cons (pg_name (i := 6) nd rfl (by first | exact Or.inl rfl | exact Or.inr rfl)) pgs_nil))) (pss_cons (ps_set (i := 7) nd rfl (by first | exact Or.inl rfl | exact Or.inr rfl) (pe_dx C_moved (takes_of rfl rfl rfl rfl) hr (by decide) rfl (pa_cons (pv 1) (pa_cons (pv 5) (pa_cons (pe_glob (v := .int 4294967296) rfl T.c_SIZE_takers.choose_spec ⟨_, rfl⟩) pa_nil))))) (pss_one (ps_if (PW.pt (pw_and (pt_cmpR op_ltU (pe_dx C_far (takes_of rfl rfl rfl rfl) hr (by decide) rfl (pa_cons (pv 3) (pa_cons (pv 7) (pa_cons (pe_glob (v := .int 4294967296) rfl T.c_SIZE_takers.choose_spec ⟨_, rfl⟩) pa_nil)))) (pv 4) (nomark _)) (pw_and1 (pt_cmpR (op_notInAll (K := K) (DL.room65 hr)) (pv 7) (pe_fld (pv 0) rfl) rfl)))) (pss_one (PS.or (ps_asg (pv 6) (pg_sub (pe_fld (pv 0) rfl) (pv 7) set_list)) (ps_dput (DL.room65w hr) (pe_fld (pv 0) rfl) (pv 7) (pv 6) rfl))) pss_nil)))) (pss_one (ps_while (passes_of rfl) (PW.pt (pw_and (pt_cmpR (op_inAll (K := K) (DL.room65 hr)) (pe_fld (pv 0) rfl) (pe_fld (pv 0) rfl) rfl) (pw_and1 (pt_not (pt_val (pe_fld (pv 0) rfl)))))) (pss_one (ps_expr (pe_mtX M_Taker_come_ready (takes_of rfl rfl rfl rfl) hr (by decide) T.cl_Taker (pv 0) (pa_cons (PE.or (pe_dpop1 (pe_fld (pv 0) rfl) (pe_fld (pv 0) rfl) ⟨rfl, rfl, rfl, rfl⟩) (pe_bm PySem.F.plainAttrs_list PySem.F.slot_list_pop PySem.F.type_list_pop mt_popAt (pe_fld (pv 0) rfl) (pa_cons (pe_fld (pv 0) rfl) pa_nil))) pa_nil))))))))), ?_⟩
  exact (ss_seq (ss_if (st_b (se_fld (by decide +kernel) ⟨⟨T.cl_Taker, T.n_Taker_over⟩, trivial⟩ se_var)) ss_retn ss_next) (ss_seq (ss_asg (meth_one (by decide +kernel) se_var sa_nil) (sg_tup (sgs_cons sg_name (sgs_cons sg_name sgs_nil)) rfl)) (ss_seq (ss_for (sw_enumA se_var) (sg_tup (sgs_cons sg_name (sgs_cons sg_name sgs_nil)) rfl) (ss_seq (ss_set (se_call (sa_cons se_var (sa_cons se_var (sa_cons se_int sa_nil))))) (ss_if (st_and (st_test (se_op os_lt (se_call (sa_cons se_var (sa_cons se_var (sa_cons se_int sa_nil)))) se_var)) (st_test (se_op os_notin se_var (se_fld (by decide +kernel) ⟨⟨T.cl_Taker, T.n_Taker_ahead⟩, trivial⟩ se_var)))) (ss_put (se_fld (by decide +kernel) ⟨⟨T.cl_Taker, T.n_Taker_ahead⟩, trivial⟩ se_var) se_var se_var) ss_next))) (ss_while (st_and (st_test (se_op os_in (se_fld (by decide +kernel) ⟨⟨T.cl_Taker, T.n_Taker_wanted⟩, trivial⟩ se_var) (se_fld (by decide +kernel) ⟨⟨T.cl_Taker, T.n_Taker_ahead⟩, trivial⟩ se_var))) (st_not (st_b (se_fld (by decide +kernel) ⟨⟨T.cl_Taker, T.n_Taker_over⟩, trivial⟩ se_var)))) (ss_drop (meth_one (by decide +kernel) se_var (sa_cons (se_pop1 (se_fld (by decide +kernel) ⟨⟨T.cl_Taker, T.n_Taker_ahead⟩, trivial⟩ se_var) (se_fld (by decide +kernel) ⟨⟨T.cl_Taker, T.n_Taker_wanted⟩, trivial⟩ se_var)) sa_nil)))))))
abbrev s_Talk_take : Stmt := inClass (topS 52) 10
abbrev N_Talk_take : List Str := ["self", "number", "items"]
theorem sc_Talk_take : FnScope N_Talk_take ["self", "number", "items"] (defScope s_Talk_take) := ⟨rfl, rfl, rfl, by decide +kernel, rfl, by decide +kernel, by decide +kernel⟩
theorem ok_Talk_take {P : Program} {w : World} {K : PySem.W.Frag} {mg : Str → Option Value} {base : Heap} {a : Addr} {fd : FuncData} {ca : String → Addr} (T : Txt K mg ca) (F : Fun K "take" "Talk.take" s_Talk_take a fd) (M_Taker_take : SM.Mt P w K mg base 4 (ca "Taker") "take" (SpF K ca F_Taker_take)) (C_moved : Dx P w K mg base 2 "moved" (SpF K ca F_moved)) :
    FnOk P w K mg base (L2.CX P w) 5 a fd ["self", "number", "items"] (SpF K ca F_Talk_take) := by
  refine SM.Fn.ofF F sc_Talk_take rfl fun cdv A outer s H E hr => ?_
  have nd := sc_Talk_take.nd
  refine ⟨_, (pss_one (ps_if (pt_cmpR (op_eqPK (K := K) (DL.room65 hr)) (pe_slice (sl_U (K := K)) (pv 2) po_none (po_some pe_int)) (pe_tup (pa_cons pe_str pa_nil)) (nomark _)) (pss_one (ps_expr (pe_mtX M_Taker_take (takes_of rfl rfl rfl rfl) hr (by decide) T.cl_Taker (pe_fld (pv 0) rfl) (pa_cons (pe_dx C_moved (takes_of rfl rfl rfl rfl) hr (by decide) rfl (pa_cons (pv 1) (pa_cons pe_int (pa_cons (pe_glob (v := .int 4294967296) rfl T.c_SIZE_talks.choose_spec ⟨_, rfl⟩) pa_nil)))) (pa_cons (pe_slice (sl_U (K := K)) (pv 2) (po_some pe_int) po_none) pa_nil))))) (pss_one (ps_expr (pe_mtX M_Taker_take (takes_of rfl rfl rfl rfl) hr (by decide) T.cl_Taker (pe_fld (pv 0) rfl) (pa_cons (pv 1) (pa_cons (pv 2) pa_nil))))))), ?_⟩
  exact (ss_if (st_test (se_op os_eq (se_sl sls_all se_var so_none (so_some se_int)) (se_tup (sa_cons (se_strS (by decide +kernel)) sa_nil)))) (ss_drop (meth_one (by decide +kernel) (se_fld (by decide +kernel) ⟨⟨T.cl_Talk, T.n_Talk_taker⟩, trivial⟩ se_var) (sa_cons (se_call (sa_cons se_var (sa_cons se_int (sa_cons se_int sa_nil)))) (sa_cons (se_sl sls_all se_var (so_some se_int) so_none) sa_nil)))) (ss_drop (meth_one (by decide +kernel) (se_fld (by decide +kernel) ⟨⟨T.cl_Talk, T.n_Talk_taker⟩, trivial⟩ se_var) (sa_cons se_var (sa_cons se_var sa_nil)))))
abbrev s_Talk_counted : Stmt := inClass (topS 52) 11
abbrev N_Talk_counted : List Str := ["self", "segment", "tick", "items"]
theorem sc_Talk_counted : FnScope N_Talk_counted ["self", "segment", "tick"] (defScope s_Talk_counted) := ⟨rfl, rfl, rfl, by decide +kernel, rfl, by decide +kernel, by decide +kernel⟩
theorem ok_Talk_counted {P : Program} {w : World} {K : PySem.W.Frag} {mg : Str → Option Value} {base : Heap} {a : Addr} {fd : FuncData} {ca : String → Addr} (T : Txt K mg ca) (F : Fun K "counted" "Talk.counted" s_Talk_counted a fd) (M_Giver_heard : SM.Mt P w K mg base 3 (ca "Giver") "heard" (SpF K ca F_Giver_heard)) (M_Giver_left : SM.Mt P w K mg base 1 (ca "Giver") "left" (SpF K ca F_Giver_left)) (M_Giver_next_number : SM.Mt P w K mg base 3 (ca "Giver") "next_number" (SpF K ca F_Giver_next_number)) (M_Segment_numbered : SM.Mt P w K mg base 1 (ca "Segment") "numbered" (SpF K ca F_Segment_numbered)) (M_Taker_ended : SM.Mt P w K mg base 1 (ca "Taker") "ended" (SpF K ca F_Taker_ended)) (M_Talk_made : SM.Mt P w K mg base 5 (ca "Talk") "made" (SpF K ca F_Talk_made)) (M_Talk_take : SM.Mt P w K mg base 5 (ca "Talk") "take" (SpF K ca F_Talk_take)) :
    FnOk P w K mg base (L2.CX P w) 6 a fd ["self", "segment", "tick"] (SpF K ca F_Talk_counted) := by
  refine SM.Fn.ofF F sc_Talk_counted rfl fun cdv A outer s H E hr => ?_
  have nd := sc_Talk_counted.nd
  refine ⟨_, (pss_cons (ps_set (i := 3) nd rfl (by first | exact Or.inl rfl | exact Or.inr rfl) (pe_mtX0 M_Segment_numbered (takes_of rfl rfl rfl rfl) hr (by decide) T.cl_Segment (pv 1))) (pss_cons (ps_if (pt_cmpR (op_inAll (K := K) (DL.room65 hr)) pe_str (pe_fld (pv 1) rfl) rfl) (pss_cons (ps_expr (pe_mtX M_Giver_heard (takes_of rfl rfl rfl rfl) hr (by decide) T.cl_Giver (pe_fld (pv 0) rfl) (pa_cons (pe_fld (pv 1) rfl) (pa_cons (pe_fld (pv 1) rfl) (pa_cons (pv 2) pa_nil))))) (pss_one (ps_expr (pe_mtX M_Talk_take (takes_of rfl rfl rfl rfl) hr (by decide) T.cl_Talk (pv 0) (pa_cons (pe_fld (pv 1) rfl) (pa_cons (pv 3) pa_nil)))))) pss_nil) (pss_cons (ps_if (PW.pt (pw_and (pt_cmpR op_isU (pe_fld (pv 0) rfl) pe_non (nomark _)) (pw_and (pt_val (pe_fld (pv 0) rfl)) (pw_and (pt_val (pe_mtX0 M_Taker_ended (takes_of rfl rfl rfl rfl) hr (by decide) T.cl_Taker (pe_fld (pv 0) rfl))) (pw_and1 (pt_cmpR (op_eqPK (K := K) (DL.room65 hr)) (pe_mtX0 M_Giver_left (takes_of rfl rfl rfl rfl) hr (by decide) T.cl_Giver (pe_fld (pv 0) rfl)) pe_int (nomark _))))))) (pss_one (ps_fld (pv 0) (pv 2) rfl)) pss_nil) (pss_cons (ps_if (PW.pt (pw_or (pt_cmpR (op_nePK (K := K) (DL.room65 hr)) (pv 3) (pe_tup pa_nil) (nomark _)) (pw_or1 (pt_cmpR (op_inAll (K := K) (DL.room65 hr)) pe_str (pe_fld (pv 1) rfl) rfl)))) (pss_one (ps_ret (pe_lst (pa_cons (pe_mtX M_Talk_made (takes_of rfl rfl rfl rfl) hr (by decide) T.cl_Talk (pv 0) (pa_cons pe_str (pa_cons (pe_mtX0 M_Giver_next_number (takes_of rfl rfl rfl rfl) hr (by decide) T.cl_Giver (pe_fld (pv 0) rfl)) (pa_cons (pe_tup pa_nil) pa_nil)))) pa_nil)))) pss_nil) (pss_one (ps_ret (pe_lst pa_nil))))))), ?_⟩
  exact (ss_seq (ss_set (meth_one (by decide +kernel) se_var sa_nil)) (ss_seq (ss_if (st_test (se_op os_in (se_strS (by decide +kernel)) (se_fld (by decide +kernel) ⟨⟨T.cl_Segment, T.n_Segment_marks⟩, trivial⟩ se_var))) (ss_seq (ss_drop (meth_one (by decide +kernel) (se_fld (by decide +kernel) ⟨⟨T.cl_Talk, T.n_Talk_giver⟩, trivial⟩ se_var) (sa_cons (se_fld (by decide +kernel) ⟨⟨T.cl_Segment, T.n_Segment_answer⟩, trivial⟩ se_var) (sa_cons (se_fld (by decide +kernel) ⟨⟨T.cl_Segment, T.n_Segment_room⟩, trivial⟩ se_var) (sa_cons se_var sa_nil))))) (ss_drop (meth_one (by decide +kernel) se_var (sa_cons (se_fld (by decide +kernel) ⟨⟨T.cl_Segment, T.n_Segment_number⟩, trivial⟩ se_var) (sa_cons se_var sa_nil))))) ss_next) (ss_seq (ss_if (st_and (st_test (se_op os_is (se_fld (by decide +kernel) ⟨⟨T.cl_Talk, T.n_Talk_rested⟩, trivial⟩ se_var) se_non)) (st_and (st_b (se_fld (by decide +kernel) ⟨⟨T.cl_Giver, T.n_Giver_finished⟩, ⟨T.cl_Talk, T.n_Talk_finished⟩, trivial⟩ se_var)) (st_and (st_b (meth_one (by decide +kernel) (se_fld (by decide +kernel) ⟨⟨T.cl_Talk, T.n_Talk_taker⟩, trivial⟩ se_var) sa_nil)) (st_test (se_op os_eq (meth_one (by decide +kernel) (se_fld (by decide +kernel) ⟨⟨T.cl_Talk, T.n_Talk_giver⟩, trivial⟩ se_var) sa_nil) se_int))))) (ss_fl (by decide +kernel) ⟨⟨T.cl_Talk, T.n_Talk_rested⟩, trivial⟩ se_var se_var) ss_next) (ss_seq (ss_if (st_or (st_test (se_op os_ne se_var (se_tup sa_nil))) (st_test (se_op os_in (se_strS (by decide +kernel)) (se_fld (by decide +kernel) ⟨⟨T.cl_Segment, T.n_Segment_marks⟩, trivial⟩ se_var)))) (ss_ret (se_lst (sa_cons (meth_one (by decide +kernel) se_var (sa_cons (se_strS (by decide +kernel)) (sa_cons (meth_one (by decide +kernel) (se_fld (by decide +kernel) ⟨⟨T.cl_Talk, T.n_Talk_giver⟩, trivial⟩ se_var) sa_nil) (sa_cons (se_tup sa_nil) sa_nil)))) sa_nil))) ss_next) (ss_ret (se_lst sa_nil))))))
abbrev s_Talk_is_answer : Stmt := inClass (topS 52) 5
abbrev N_Talk_is_answer : List Str := ["self", "answer", "wanted"]
theorem sc_Talk_is_answer : FnScope N_Talk_is_answer ["self", "answer"] (defScope s_Talk_is_answer) := ⟨rfl, rfl, rfl, by decide +kernel, rfl, by decide +kernel, by decide +kernel⟩
theorem ok_Talk_is_answer {P : Program} {w : World} {K : PySem.W.Frag} {mg : Str → Option Value} {base : Heap} {a : Addr} {fd : FuncData} {ca : String → Addr} (T : Txt K mg ca) (F : Fun K "is_answer" "Talk.is_answer" s_Talk_is_answer a fd) (M_Giver_answered : SM.Mt P w K mg base 1 (ca "Giver") "answered" (SpF K ca F_Giver_answered)) (M_Giver_next_number : SM.Mt P w K mg base 3 (ca "Giver") "next_number" (SpF K ca F_Giver_next_number)) (M_Talk_is_open : SM.Mt P w K mg base 2 (ca "Talk") "is_open" (SpF K ca F_Talk_is_open)) (C_far : Dx P w K mg base 2 "far" (SpF K ca F_far)) (C_moved : Dx P w K mg base 2 "moved" (SpF K ca F_moved)) :
    FnOk P w K mg base (L2.CX P w) 4 a fd ["self", "answer"] (SpF K ca F_Talk_is_answer) := by
  refine SM.Fn.ofF F sc_Talk_is_answer rfl fun cdv A outer s H E hr => ?_
  have nd := sc_Talk_is_answer.nd
  refine ⟨_, (pss_cons (ps_set (i := 2) nd rfl (by first | exact Or.inl rfl | exact Or.inr rfl) (pe_dx C_moved (takes_of rfl rfl rfl rfl) hr (by decide) rfl (pa_cons (pe_fld (pv 0) rfl) (pa_cons (pe_mtX0 M_Giver_answered (takes_of rfl rfl rfl rfl) hr (by decide) T.cl_Giver (pe_fld (pv 0) rfl)) (pa_cons (pe_glob (v := .int 4294967296) rfl T.c_SIZE_talks.choose_spec ⟨_, rfl⟩) pa_nil))))) (pss_cons (ps_if (pt_cmpR op_gtU (pe_dx C_far (takes_of rfl rfl rfl rfl) hr (by decide) rfl (pa_cons (pv 2) (pa_cons (pv 1) (pa_cons (pe_glob (v := .int 4294967296) rfl T.c_SIZE_talks.choose_spec ⟨_, rfl⟩) pa_nil)))) (pe_dx C_far (takes_of rfl rfl rfl rfl) hr (by decide) rfl (pa_cons (pv 2) (pa_cons (pe_mtX0 M_Giver_next_number (takes_of rfl rfl rfl rfl) hr (by decide) T.cl_Giver (pe_fld (pv 0) rfl)) (pa_cons (pe_glob (v := .int 4294967296) rfl T.c_SIZE_talks.choose_spec ⟨_, rfl⟩) pa_nil)))) (nomark _)) (pss_one (ps_ret pe_bl)) pss_nil) (pss_one (ps_ret (pe_or (pe_mtX0 M_Talk_is_open (takes_of rfl rfl rfl rfl) hr (by decide) T.cl_Talk (pv 0)) (pe_one (pe_cmpR (op_eqPK (K := K) (DL.room65 hr)) (pv 1) (pe_dx C_moved (takes_of rfl rfl rfl rfl) hr (by decide) rfl (pa_cons (pe_fld (pv 0) rfl) (pa_cons pe_int (pa_cons (pe_glob (v := .int 4294967296) rfl T.c_SIZE_talks.choose_spec ⟨_, rfl⟩) pa_nil)))) (nomark _)))))))), ?_⟩
  exact (ss_seq (ss_set (se_call (sa_cons (se_fld (by decide +kernel) ⟨⟨T.cl_Talk, T.n_Talk_begun_with⟩, trivial⟩ se_var) (sa_cons (meth_one (by decide +kernel) (se_fld (by decide +kernel) ⟨⟨T.cl_Talk, T.n_Talk_giver⟩, trivial⟩ se_var) sa_nil) (sa_cons se_int sa_nil))))) (ss_seq (ss_if (st_test (se_op os_gt (se_call (sa_cons se_var (sa_cons se_var (sa_cons se_int sa_nil)))) (se_call (sa_cons se_var (sa_cons (meth_one (by decide +kernel) (se_fld (by decide +kernel) ⟨⟨T.cl_Talk, T.n_Talk_giver⟩, trivial⟩ se_var) sa_nil) (sa_cons se_int sa_nil)))))) (ss_ret se_bl) ss_next) (ss_ret (se_or (meth_one (by decide +kernel) se_var sa_nil) (se_op os_eq se_var (se_call (sa_cons (se_fld (by decide +kernel) ⟨⟨T.cl_Talk, T.n_Talk_begun_with⟩, trivial⟩ se_var) (sa_cons se_int (sa_cons se_int sa_nil)))))))))
abbrev s_Talk_is_cut_by : Stmt := inClass (topS 52) 6
abbrev N_Talk_is_cut_by : List Str := ["self", "segment", "wanted", "free"]
theorem sc_Talk_is_cut_by : FnScope N_Talk_is_cut_by ["self", "segment"] (defScope s_Talk_is_cut_by) := ⟨rfl, rfl, rfl, by decide +kernel, rfl, by decide +kernel, by decide +kernel⟩
theorem ok_Talk_is_cut_by {P : Program} {w : World} {K : PySem.W.Frag} {mg : Str → Option Value} {base : Heap} {a : Addr} {fd : FuncData} {ca : String → Addr} (T : Txt K mg ca) (F : Fun K "is_cut_by" "Talk.is_cut_by" s_Talk_is_cut_by a fd) (M_Taker_wants : SM.Mt P w K mg base 2 (ca "Taker") "wants" (SpF K ca F_Taker_wants)) (M_Talk_is_open : SM.Mt P w K mg base 2 (ca "Talk") "is_open" (SpF K ca F_Talk_is_open)) (C_far : Dx P w K mg base 2 "far" (SpF K ca F_far)) :
    FnOk P w K mg base (L2.CX P w) 3 a fd ["self", "segment"] (SpF K ca F_Talk_is_cut_by) := by
  refine SM.Fn.ofF F sc_Talk_is_cut_by rfl fun cdv A outer s H E hr => ?_
  have nd := sc_Talk_is_cut_by.nd
  refine ⟨_, (pss_cons (ps_if (PW.pt (pw_and (pt_cmpR (op_inAll (K := K) (DL.room65 hr)) pe_str (pe_fld (pv 1) rfl) rfl) (pw_and1 (pt_not (pt_val (pe_mtX0 M_Talk_is_open (takes_of rfl rfl rfl rfl) hr (by decide) T.cl_Talk (pv 0))))))) (pss_one (ps_ret pe_bl)) pss_nil) (pss_cons (ps_if (pt_cmpR op_isU (pe_fld (pv 0) rfl) pe_non (nomark _)) (pss_one (ps_ret pe_bl)) pss_nil) (pss_cons (ps_asg (pe_mtX0 M_Taker_wants (takes_of rfl rfl rfl rfl) hr (by decide) T.cl_Taker (pe_fld (pv 0) rfl)) (pg_tup rfl (pgs_cons (pg_name (i := 2) nd rfl (by first | exact Or.inl rfl | exact Or.inr rfl)) (pgs_cons (pg_name (i := 3) nd rfl (by first | exact Or.inl rfl | exact Or.inr rfl)) pgs_nil)))) (pss_one (ps_ret (pe_cmpR op_leU (pe_dx C_far (takes_of rfl rfl rfl rfl) hr (by decide) rfl (pa_cons (pv 2) (pa_cons (pe_fld (pv 1) rfl) (pa_cons (pe_glob (v := .int 4294967296) rfl T.c_SIZE_talks.choose_spec ⟨_, rfl⟩) pa_nil)))) (pv 3) (nomark _))))))), ?_⟩
  exact (ss_seq (ss_if (st_and (st_test (se_op os_in (se_strS (by decide +kernel)) (se_fld (by decide +kernel) ⟨⟨T.cl_Segment, T.n_Segment_marks⟩, trivial⟩ se_var))) (st_not (st_b (meth_one (by decide +kernel) se_var sa_nil)))) (ss_ret se_bl) ss_next) (ss_seq (ss_if (st_test (se_op os_is (se_fld (by decide +kernel) ⟨⟨T.cl_Talk, T.n_Talk_taker⟩, trivial⟩ se_var) se_non)) (ss_ret se_bl) ss_next) (ss_seq (ss_asg (meth_one (by decide +kernel) (se_fld (by decide +kernel) ⟨⟨T.cl_Talk, T.n_Talk_taker⟩, trivial⟩ se_var) sa_nil) (sg_tup (sgs_cons sg_name (sgs_cons sg_name sgs_nil)) rfl)) (ss_ret (se_op os_le (se_call (sa_cons se_var (sa_cons (se_fld (by decide +kernel) ⟨⟨T.cl_Segment, T.n_Segment_number⟩, trivial⟩ se_var) (sa_cons se_int sa_nil)))) se_var)))))
abbrev s_need_tick : Stmt := topS 51
abbrev N_need_tick : List Str := ["tick", "last"]
theorem sc_need_tick : FnScope N_need_tick ["tick", "last"] (defScope s_need_tick) := ⟨rfl, rfl, rfl, by decide +kernel, rfl, by decide +kernel, by decide +kernel⟩
theorem ok_need_tick {P : Program} {w : World} {K : PySem.W.Frag} {mg : Str → Option Value} {base : Heap} {a : Addr} {fd : FuncData} {ca : String → Addr} (T : Txt K mg ca) (F : Fun K "need_tick" "need_tick" s_need_tick a fd)  :
    FnOk P w K mg base (L2.CX P w) 1 a fd ["tick", "last"] (SpF K ca F_need_tick) := by
  refine SM.Fn.ofF F sc_need_tick rfl fun cdv A outer s H E hr => ?_
  have nd := sc_need_tick.nd
  refine ⟨_, (pss_one (ps_if (PW.pt (pw_or (pt_not (pt_val (pe_callB (call_isiA (K := K)) (by rfl) T.b_isinstance (by decide +kernel) (pa_cons (pv 0) (pa_cons (pe_bltn (v := .ty "int") (by rfl) T.b_int (by decide +kernel) rfl) pa_nil))))) (pw_or (pt_val (pe_callB (call_isiA (K := K)) (by rfl) T.b_isinstance (by decide +kernel) (pa_cons (pv 0) (pa_cons (pe_bltn (v := .ty "bool") (by rfl) T.b_bool (by decide +kernel) rfl) pa_nil)))) (pw_or1 (pt_cmpR op_ltU (pv 0) (pv 1) (nomark _)))))) (pss_one (DL.ps_raiseC rfl (takes_of rfl rfl rfl rfl) (pmk_own PySem.F.excBase_ValueError T.e_NoTick T.g_NoTick T.k_NoTick (raises_own T.b_NoTick T.t_NoTick) rfl))) pss_nil)), ?_⟩
  exact (ss_if (st_or (st_not (st_b (se_cb (cs_isi T.isO T.isX T.isT) (sa_cons se_var (sa_cons se_ty sa_nil))))) (st_or (st_b (se_cb (cs_isi T.isO T.isX T.isT) (sa_cons se_var (sa_cons se_ty sa_nil)))) (st_test (se_op os_lt se_var se_var)))) (ss_raise rfl) ss_next)
abbrev s_Talk_pass_to : Stmt := inClass (topS 52) 4
abbrev N_Talk_pass_to : List Str := ["self", "tick"]
theorem sc_Talk_pass_to : FnScope N_Talk_pass_to ["self", "tick"] (defScope s_Talk_pass_to) := ⟨rfl, rfl, rfl, by decide +kernel, rfl, by decide +kernel, by decide +kernel⟩
theorem ok_Talk_pass_to {P : Program} {w : World} {K : PySem.W.Frag} {mg : Str → Option Value} {base : Heap} {a : Addr} {fd : FuncData} {ca : String → Addr} (T : Txt K mg ca) (F : Fun K "pass_to" "Talk.pass_to" s_Talk_pass_to a fd) (C_need_tick : Dx P w K mg base 1 "need_tick" (SpF K ca F_need_tick)) :
    FnOk P w K mg base (L2.CX P w) 2 a fd ["self", "tick"] (SpF K ca F_Talk_pass_to) := by
  refine SM.Fn.ofF F sc_Talk_pass_to rfl fun cdv A outer s H E hr => ?_
  have nd := sc_Talk_pass_to.nd
  refine ⟨_, (pss_cons (ps_expr (pe_dx C_need_tick (takes_of rfl rfl rfl rfl) hr (by decide) rfl (pa_cons (pv 1) (pa_cons (pe_fld (pv 0) rfl) pa_nil)))) (pss_one (ps_fld (pv 0) (pv 1) rfl))), ?_⟩
  exact (ss_seq (ss_drop (se_call (sa_cons se_var (sa_cons (se_fld (by decide +kernel) ⟨⟨T.cl_Talk, T.n_Talk_last_tick⟩, trivial⟩ se_var) sa_nil)))) (ss_fl (by decide +kernel) ⟨⟨T.cl_Talk, T.n_Talk_last_tick⟩, trivial⟩ se_var se_var))
abbrev s_Talk_heard : Stmt := inClass (topS 52) 9
abbrev N_Talk_heard : List Str := ["self", "segment", "tick"]
theorem sc_Talk_heard : FnScope N_Talk_heard ["self", "segment", "tick"] (defScope s_Talk_heard) := ⟨rfl, rfl, rfl, by decide +kernel, rfl, by decide +kernel, by decide +kernel⟩
theorem ok_Talk_heard {P : Program} {w : World} {K : PySem.W.Frag} {mg : Str → Option Value} {base : Heap} {a : Addr} {fd : FuncData} {ca : String → Addr} (T : Txt K mg ca) (F : Fun K "heard" "Talk.heard" s_Talk_heard a fd) (M_Talk_begin_taker : SM.Mt P w K mg base 4 (ca "Talk") "begin_taker" (SpF K ca F_Talk_begin_taker)) (M_Talk_counted : SM.Mt P w K mg base 6 (ca "Talk") "counted" (SpF K ca F_Talk_counted)) (M_Talk_is_answer : SM.Mt P w K mg base 4 (ca "Talk") "is_answer" (SpF K ca F_Talk_is_answer)) (M_Talk_is_cut_by : SM.Mt P w K mg base 3 (ca "Talk") "is_cut_by" (SpF K ca F_Talk_is_cut_by)) (M_Talk_is_open : SM.Mt P w K mg base 2 (ca "Talk") "is_open" (SpF K ca F_Talk_is_open)) (M_Talk_is_over : SM.Mt P w K mg base 4 (ca "Talk") "is_over" (SpF K ca F_Talk_is_over)) (M_Talk_made : SM.Mt P w K mg base 5 (ca "Talk") "made" (SpF K ca F_Talk_made)) (M_Talk_pass_to : SM.Mt P w K mg base 2 (ca "Talk") "pass_to" (SpF K ca F_Talk_pass_to)) :
    FnOk P w K mg base (L2.CX P w) 7 a fd ["self", "segment", "tick"] (SpF K ca F_Talk_heard) := by
  refine SM.Fn.ofF F sc_Talk_heard rfl fun cdv A outer s H E hr => ?_
  have nd := sc_Talk_heard.nd
  refine ⟨_, (pss_cons (ps_expr (pe_mtX M_Talk_pass_to (takes_of rfl rfl rfl rfl) hr (by decide) T.cl_Talk (pv 0) (pa_cons (pv 2) pa_nil))) (pss_cons (ps_if (pt_val (pe_mtX0 M_Talk_is_over (takes_of rfl rfl rfl rfl) hr (by decide) T.cl_Talk (pv 0))) (pss_one (ps_ret (pe_lst pa_nil))) pss_nil) (pss_cons (ps_if (PW.pt (pw_and (pt_cmpR (op_inAll (K := K) (DL.room65 hr)) pe_str (pe_fld (pv 1) rfl) rfl) (pw_and1 (pt_not (pt_val (pe_mtX M_Talk_is_answer (takes_of rfl rfl rfl rfl) hr (by decide) T.cl_Talk (pv 0) (pa_cons (pe_fld (pv 1) rfl) pa_nil))))))) (pss_cons (ps_if (PW.pt (pw_or (pt_val (pe_mtX0 M_Talk_is_open (takes_of rfl rfl rfl rfl) hr (by decide) T.cl_Talk (pv 0))) (pw_or1 (pt_cmpR (op_inAll (K := K) (DL.room65 hr)) pe_str (pe_fld (pv 1) rfl) rfl)))) (pss_one (ps_ret (pe_lst pa_nil))) pss_nil) (pss_one (ps_ret (pe_lst (pa_cons (pe_mtX M_Talk_made (takes_of rfl rfl rfl rfl) hr (by decide) T.cl_Talk (pv 0) (pa_cons pe_str (pa_cons (pe_fld (pv 1) rfl) (pa_cons (pe_tup pa_nil) pa_nil)))) pa_nil))))) pss_nil) (pss_cons (ps_if (pt_cmpR (op_inAll (K := K) (DL.room65 hr)) pe_str (pe_fld (pv 1) rfl) rfl) (pss_cons (ps_if (pt_val (pe_mtX M_Talk_is_cut_by (takes_of rfl rfl rfl rfl) hr (by decide) T.cl_Talk (pv 0) (pa_cons (pv 1) pa_nil))) (pss_one (ps_fld (pv 0) pe_str rfl)) pss_nil) (pss_one (ps_ret (pe_lst pa_nil)))) pss_nil) (pss_cons (ps_if (pt_cmpR op_isU (pe_fld (pv 0) rfl) pe_non (nomark _)) (pss_cons (ps_if (PW.pt (pw_or (pt_cmpR (op_notInAll (K := K) (DL.room65 hr)) pe_str (pe_fld (pv 1) rfl) rfl) (pw_or1 (pt_cmpR (op_notInAll (K := K) (DL.room65 hr)) pe_str (pe_fld (pv 1) rfl) rfl)))) (pss_one (ps_ret (pe_lst pa_nil))) pss_nil) (pss_one (ps_expr (pe_mtX M_Talk_begin_taker (takes_of rfl rfl rfl rfl) hr (by decide) T.cl_Talk (pv 0) (pa_cons (pe_fld (pv 1) rfl) pa_nil))))) pss_nil) (pss_one (ps_ret (pe_mtX M_Talk_counted (takes_of rfl rfl rfl rfl) hr (by decide) T.cl_Talk (pv 0) (pa_cons (pv 1) (pa_cons (pv 2) pa_nil)))))))))), ?_⟩
  exact (ss_seq (ss_drop (meth_one (by decide +kernel) se_var (sa_cons se_var sa_nil))) (ss_seq (ss_if (st_b (meth_one (by decide +kernel) se_var sa_nil)) (ss_ret (se_lst sa_nil)) ss_next) (ss_seq (ss_if (st_and (st_test (se_op os_in (se_strS (by decide +kernel)) (se_fld (by decide +kernel) ⟨⟨T.cl_Segment, T.n_Segment_marks⟩, trivial⟩ se_var))) (st_not (st_b (meth_one (by decide +kernel) se_var (sa_cons (se_fld (by decide +kernel) ⟨⟨T.cl_Segment, T.n_Segment_answer⟩, trivial⟩ se_var) sa_nil))))) (ss_seq (ss_if (st_or (st_b (meth_one (by decide +kernel) se_var sa_nil)) (st_test (se_op os_in (se_strS (by decide +kernel)) (se_fld (by decide +kernel) ⟨⟨T.cl_Segment, T.n_Segment_marks⟩, trivial⟩ se_var)))) (ss_ret (se_lst sa_nil)) ss_next) (ss_ret (se_lst (sa_cons (meth_one (by decide +kernel) se_var (sa_cons (se_strS (by decide +kernel)) (sa_cons (se_fld (by decide +kernel) ⟨⟨T.cl_Segment, T.n_Segment_answer⟩, trivial⟩ se_var) (sa_cons (se_tup sa_nil) sa_nil)))) sa_nil)))) ss_next) (ss_seq (ss_if (st_test (se_op os_in (se_strS (by decide +kernel)) (se_fld (by decide +kernel) ⟨⟨T.cl_Segment, T.n_Segment_marks⟩, trivial⟩ se_var))) (ss_seq (ss_if (st_b (meth_one (by decide +kernel) se_var (sa_cons se_var sa_nil))) (ss_fl (by decide +kernel) ⟨⟨T.cl_Talk, T.n_Talk_ending⟩, trivial⟩ se_var (se_strS (by decide +kernel))) ss_next) (ss_ret (se_lst sa_nil))) ss_next) (ss_seq (ss_if (st_test (se_op os_is (se_fld (by decide +kernel) ⟨⟨T.cl_Talk, T.n_Talk_taker⟩, trivial⟩ se_var) se_non)) (ss_seq (ss_if (st_or (st_test (se_op os_notin (se_strS (by decide +kernel)) (se_fld (by decide +kernel) ⟨⟨T.cl_Segment, T.n_Segment_marks⟩, trivial⟩ se_var))) (st_test (se_op os_notin (se_strS (by decide +kernel)) (se_fld (by decide +kernel) ⟨⟨T.cl_Segment, T.n_Segment_marks⟩, trivial⟩ se_var)))) (ss_ret (se_lst sa_nil)) ss_next) (ss_drop (meth_one (by decide +kernel) se_var (sa_cons (se_fld (by decide +kernel) ⟨⟨T.cl_Segment, T.n_Segment_number⟩, trivial⟩ se_var) sa_nil)))) ss_next) (ss_ret (meth_one (by decide +kernel) se_var (sa_cons se_var (sa_cons se_var sa_nil)))))))))
abbrev s_Taker_read : Stmt := inClass (topS 41) 5
abbrev N_Taker_read : List Str := ["self", "many", "found"]
theorem sc_Taker_read : FnScope N_Taker_read ["self", "many"] (defScope s_Taker_read) := ⟨rfl, rfl, rfl, by decide +kernel, rfl, by decide +kernel, by decide +kernel⟩
theorem ok_Taker_read {P : Program} {w : World} {K : PySem.W.Frag} {mg : Str → Option Value} {base : Heap} {a : Addr} {fd : FuncData} {ca : String → Addr} (T : Txt K mg ca) (F : Fun K "read" "Taker.read" s_Taker_read a fd) (C_is_within : Dx P w K mg base 1 "is_within" (SpF K ca F_is_within)) :
    FnOk P w K mg base (L2.CX P w) 2 a fd ["self", "many"] (SpF K ca F_Taker_read) := by
  refine SM.Fn.ofF F sc_Taker_read rfl fun cdv A outer s H E hr => ?_
  have nd := sc_Taker_read.nd
  refine ⟨_, (pss_cons (ps_if (pt_not (pt_val (pe_dx C_is_within (takes_of rfl rfl rfl rfl) hr (by decide) rfl (pa_cons (pv 1) (pa_cons pe_int (pa_cons (pv 1) pa_nil)))))) (pss_one (DL.ps_raiseC rfl (takes_of rfl rfl rfl rfl) (pmk_own PySem.F.excBase_ValueError T.e_NoNumber T.g_NoNumber T.k_NoNumber (raises_own T.b_NoNumber T.t_NoNumber) rfl))) pss_nil) (pss_cons (ps_set (i := 2) nd rfl (by first | exact Or.inl rfl | exact Or.inr rfl) (pe_slice (sl_U (K := K)) (pe_fld (pv 0) rfl) po_none (po_some (pv 1)))) (pss_cons (ps_fld (pv 0) (pe_slice (sl_U (K := K)) (pe_fld (pv 0) rfl) (po_some (pv 1)) po_none) rfl) (pss_one (ps_ret (pv 2)))))), ?_⟩
  exact (ss_seq (ss_if (st_not (st_b (se_call (sa_cons se_var (sa_cons se_int (sa_cons se_var sa_nil)))))) (ss_raise rfl) ss_next) (ss_seq (ss_set (se_sl sls_all (se_fld (by decide +kernel) ⟨⟨T.cl_Taker, T.n_Taker_unread⟩, trivial⟩ se_var) so_none (so_some se_var))) (ss_seq (ss_fl (by decide +kernel) ⟨⟨T.cl_Taker, T.n_Taker_unread⟩, trivial⟩ se_var (se_sl sls_all (se_fld (by decide +kernel) ⟨⟨T.cl_Taker, T.n_Taker_unread⟩, trivial⟩ se_var) (so_some se_var) so_none)) (ss_ret se_var))))
abbrev s_Talk_read : Stmt := inClass (topS 52) 17
abbrev N_Talk_read : List Str := ["self", "many"]
theorem sc_Talk_read : FnScope N_Talk_read ["self", "many"] (defScope s_Talk_read) := ⟨rfl, rfl, rfl, by decide +kernel, rfl, by decide +kernel, by decide +kernel⟩
theorem ok_Talk_read {P : Program} {w : World} {K : PySem.W.Frag} {mg : Str → Option Value} {base : Heap} {a : Addr} {fd : FuncData} {ca : String → Addr} (T : Txt K mg ca) (F : Fun K "read" "Talk.read" s_Talk_read a fd) (M_Taker_read : SM.Mt P w K mg base 2 (ca "Taker") "read" (SpF K ca F_Taker_read)) :
    FnOk P w K mg base (L2.CX P w) 3 a fd ["self", "many"] (SpF K ca F_Talk_read) := by
  refine SM.Fn.ofF F sc_Talk_read rfl fun cdv A outer s H E hr => ?_
  have nd := sc_Talk_read.nd
  refine ⟨_, (pss_cons (ps_if (PW.pt (pw_or (pt_not (pt_val (pe_callB (call_isiA (K := K)) (by rfl) T.b_isinstance (by decide +kernel) (pa_cons (pv 1) (pa_cons (pe_bltn (v := .ty "int") (by rfl) T.b_int (by decide +kernel) rfl) pa_nil))))) (pw_or (pt_val (pe_callB (call_isiA (K := K)) (by rfl) T.b_isinstance (by decide +kernel) (pa_cons (pv 1) (pa_cons (pe_bltn (v := .ty "bool") (by rfl) T.b_bool (by decide +kernel) rfl) pa_nil)))) (pw_or1 (pt_cmpR op_ltU (pv 1) pe_int (nomark _)))))) (pss_one (DL.ps_raiseC rfl (takes_of rfl rfl rfl rfl) (pmk_own PySem.F.excBase_ValueError T.e_NoNumber T.g_NoNumber T.k_NoNumber (raises_own T.b_NoNumber T.t_NoNumber) rfl))) pss_nil) (pss_one (ps_ret (pe_ifExp (pt_cmpR op_isU (pe_fld (pv 0) rfl) pe_non (nomark _)) (pe_tup pa_nil) (pe_mtX M_Taker_read (takes_of rfl rfl rfl rfl) hr (by decide) T.cl_Taker (pe_fld (pv 0) rfl) (pa_cons (pv 1) pa_nil)))))), ?_⟩
  exact (ss_seq (ss_if (st_or (st_not (st_b (se_cb (cs_isi T.isO T.isX T.isT) (sa_cons se_var (sa_cons se_ty sa_nil))))) (st_or (st_b (se_cb (cs_isi T.isO T.isX T.isT) (sa_cons se_var (sa_cons se_ty sa_nil)))) (st_test (se_op os_lt se_var se_int)))) (ss_raise rfl) ss_next) (ss_ret (se_if (st_test (se_op os_is (se_fld (by decide +kernel) ⟨⟨T.cl_Talk, T.n_Talk_taker⟩, trivial⟩ se_var) se_non)) (se_tup sa_nil) (meth_one (by decide +kernel) (se_fld (by decide +kernel) ⟨⟨T.cl_Talk, T.n_Talk_taker⟩, trivial⟩ se_var) (sa_cons se_var sa_nil)))))
abbrev s_Taker_ready : Stmt := inClass (topS 41) 6
abbrev N_Taker_ready : List Str := ["self"]
theorem sc_Taker_ready : FnScope N_Taker_ready ["self"] (defScope s_Taker_ready) := ⟨rfl, rfl, rfl, by decide +kernel, rfl, by decide +kernel, by decide +kernel⟩
theorem ok_Taker_ready {P : Program} {w : World} {K : PySem.W.Frag} {mg : Str → Option Value} {base : Heap} {a : Addr} {fd : FuncData} {ca : String → Addr} (T : Txt K mg ca) (F : Fun K "ready" "Taker.ready" s_Taker_ready a fd)  :
    FnOk P w K mg base (L2.CX P w) 1 a fd ["self"] (SpF K ca F_Taker_ready) := by
  refine SM.Fn.ofF F sc_Taker_ready rfl fun cdv A outer s H E hr => ?_
  have nd := sc_Taker_ready.nd
  refine ⟨_, (pss_one (ps_ret (pe_callB (call_lenU (K := K)) (by rfl) T.b_len (by decide +kernel) (pa_cons (pe_fld (pv 0) rfl) pa_nil)))), ?_⟩
  exact (ss_ret (se_cb cs_len (sa_cons (se_fld (by decide +kernel) ⟨⟨T.cl_Taker, T.n_Taker_unread⟩, trivial⟩ se_var) sa_nil)))
abbrev s_Talk_ready : Stmt := inClass (topS 52) 18
abbrev N_Talk_ready : List Str := ["self"]
theorem sc_Talk_ready : FnScope N_Talk_ready ["self"] (defScope s_Talk_ready) := ⟨rfl, rfl, rfl, by decide +kernel, rfl, by decide +kernel, by decide +kernel⟩
theorem ok_Talk_ready {P : Program} {w : World} {K : PySem.W.Frag} {mg : Str → Option Value} {base : Heap} {a : Addr} {fd : FuncData} {ca : String → Addr} (T : Txt K mg ca) (F : Fun K "ready" "Talk.ready" s_Talk_ready a fd) (M_Taker_ready : SM.Mt P w K mg base 1 (ca "Taker") "ready" (SpF K ca F_Taker_ready)) :
    FnOk P w K mg base (L2.CX P w) 2 a fd ["self"] (SpF K ca F_Talk_ready) := by
  refine SM.Fn.ofF F sc_Talk_ready rfl fun cdv A outer s H E hr => ?_
  have nd := sc_Talk_ready.nd
  refine ⟨_, (pss_one (ps_ret (pe_ifExp (pt_cmpR op_isU (pe_fld (pv 0) rfl) pe_non (nomark _)) pe_int (pe_mtX0 M_Taker_ready (takes_of rfl rfl rfl rfl) hr (by decide) T.cl_Taker (pe_fld (pv 0) rfl))))), ?_⟩
  exact (ss_ret (se_if (st_test (se_op os_is (se_fld (by decide +kernel) ⟨⟨T.cl_Talk, T.n_Talk_taker⟩, trivial⟩ se_var) se_non)) se_int (meth_one (by decide +kernel) (se_fld (by decide +kernel) ⟨⟨T.cl_Talk, T.n_Talk_taker⟩, trivial⟩ se_var) sa_nil)))
abbrev s_Giver_write : Stmt := inClass (topS 28) 4
abbrev N_Giver_write : List Str := ["self", "data", "many", "item"]
theorem sc_Giver_write : FnScope N_Giver_write ["self", "data"] (defScope s_Giver_write) := ⟨rfl, rfl, rfl, by decide +kernel, rfl, by decide +kernel, by decide +kernel⟩
theorem ok_Giver_write {P : Program} {w : World} {K : PySem.W.Frag} {mg : Str → Option Value} {base : Heap} {a : Addr} {fd : FuncData} {ca : String → Addr} (T : Txt K mg ca) (F : Fun K "write" "Giver.write" s_Giver_write a fd) (C_is_data : Dx P w K mg base 2 "is_data" (SpF K ca F_is_data)) :
    FnOk P w K mg base (L2.CX P w) 3 a fd ["self", "data"] (SpF K ca F_Giver_write) := by
  refine SM.Fn.ofF F sc_Giver_write rfl fun cdv A outer s H E hr => ?_
  have nd := sc_Giver_write.nd
  refine ⟨_, (pss_cons (ps_if (pt_not (pt_val (pe_dx C_is_data (takes_of rfl rfl rfl rfl) hr (by decide) rfl (pa_cons (pv 1) pa_nil)))) (pss_one (DL.ps_raiseC rfl (takes_of rfl rfl rfl rfl) (pmk_own PySem.F.excBase_ValueError T.e_NoData T.g_NoData T.k_NoData (raises_own T.b_NoData T.t_NoData) rfl))) pss_nil) (pss_cons (ps_if (pt_val (pe_fld (pv 0) rfl)) (pss_one (ps_ret pe_int)) pss_nil) (pss_cons (ps_set (i := 2) nd rfl (by first | exact Or.inl rfl | exact Or.inr rfl) (pe_callB (call_min2U rfl) (by rfl) T.b_min (by decide +kernel) (pa_cons (pe_callB (call_lenU (K := K)) (by rfl) T.b_len (by decide +kernel) (pa_cons (pv 1) pa_nil)) (pa_cons (pe_op op_subU (pe_glob (v := .int 512) rfl T.c_MOST_KEPT.choose_spec ⟨_, rfl⟩) (pe_callB (call_lenU (K := K)) (by rfl) T.b_len (by decide +kernel) (pa_cons (pe_lc (own := [("item", 3)]) (g := (gName 3)) rfl nd (pi_seqU (K := K) (pe_fld (pv 0) rfl)) (blkOk_by (own := [("item", 3)]) (N := N_Giver_write) (sc := defScope s_Giver_write) (by decide +kernel)) (fun _ _ _ _ _ => (pg_name (i := 3) nd rfl (by first | exact Or.inl rfl | exact Or.inr rfl))) (fun _ _ _ _ _ => (pts_one (pt_cmpR (op_nePK (K := K) (DL.room65 hr)) (pv 3) pe_str (nomark _)))) (fun _ _ _ _ _ => (pv 3))) pa_nil))) pa_nil)))) (pss_cons (ps_expr (pe_bm PySem.F.plainAttrs_list PySem.F.slot_list_extend PySem.F.type_list_extend (L2.MtR.or mt_extend mt_extT) (pe_fld (pv 0) rfl) (pa_cons (pe_slice (sl_U (K := K)) (pv 1) po_none (po_some (pv 2))) pa_nil))) (pss_one (ps_ret (pv 2))))))), ?_⟩
  exact (ss_seq (ss_if (st_not (st_b (se_call (sa_cons se_var sa_nil)))) (ss_raise rfl) ss_next) (ss_seq (ss_if (st_b (se_fld (by decide +kernel) ⟨⟨T.cl_Giver, T.n_Giver_finished⟩, ⟨T.cl_Talk, T.n_Talk_finished⟩, trivial⟩ se_var)) (ss_ret se_int) ss_next) (ss_seq (ss_set (se_cb cs_min2 (sa_cons (se_cb cs_len (sa_cons se_var sa_nil)) (sa_cons (se_op os_sub se_int (se_cb cs_len (sa_cons (se_lc (W2 := fun _ _ _ _ => False) (sw_seq (se_fld (by decide +kernel) ⟨⟨T.cl_Giver, T.n_Giver_kept⟩, trivial⟩ se_var)) sg_name (by decide) (st_test (se_op os_ne se_var (se_strS (by decide +kernel)))) se_var) sa_nil))) sa_nil)))) (ss_seq (ss_drop (se_bl_ ms_extend (se_fld (by decide +kernel) ⟨⟨T.cl_Giver, T.n_Giver_kept⟩, trivial⟩ se_var) (sa_cons (se_sl sls_all se_var so_none (so_some se_var)) sa_nil))) (ss_ret se_var)))))
abbrev s_Talk_write : Stmt := inClass (topS 52) 15
abbrev N_Talk_write : List Str := ["self", "data"]
theorem sc_Talk_write : FnScope N_Talk_write ["self", "data"] (defScope s_Talk_write) := ⟨rfl, rfl, rfl, by decide +kernel, rfl, by decide +kernel, by decide +kernel⟩
theorem ok_Talk_write {P : Program} {w : World} {K : PySem.W.Frag} {mg : Str → Option Value} {base : Heap} {a : Addr} {fd : FuncData} {ca : String → Addr} (T : Txt K mg ca) (F : Fun K "write" "Talk.write" s_Talk_write a fd) (M_Giver_write : SM.Mt P w K mg base 3 (ca "Giver") "write" (SpF K ca F_Giver_write)) (M_Talk_is_over : SM.Mt P w K mg base 4 (ca "Talk") "is_over" (SpF K ca F_Talk_is_over)) (C_is_data : Dx P w K mg base 2 "is_data" (SpF K ca F_is_data)) :
    FnOk P w K mg base (L2.CX P w) 5 a fd ["self", "data"] (SpF K ca F_Talk_write) := by
  refine SM.Fn.ofF F sc_Talk_write rfl fun cdv A outer s H E hr => ?_
  have nd := sc_Talk_write.nd
  refine ⟨_, (pss_cons (ps_if (pt_not (pt_val (pe_dx C_is_data (takes_of rfl rfl rfl rfl) hr (by decide) rfl (pa_cons (pv 1) pa_nil)))) (pss_one (DL.ps_raiseC rfl (takes_of rfl rfl rfl rfl) (pmk_own PySem.F.excBase_ValueError T.e_NoData T.g_NoData T.k_NoData (raises_own T.b_NoData T.t_NoData) rfl))) pss_nil) (pss_one (ps_ret (pe_ifExp (pt_val (pe_mtX0 M_Talk_is_over (takes_of rfl rfl rfl rfl) hr (by decide) T.cl_Talk (pv 0))) pe_int (pe_mtX M_Giver_write (takes_of rfl rfl rfl rfl) hr (by decide) T.cl_Giver (pe_fld (pv 0) rfl) (pa_cons (pv 1) pa_nil)))))), ?_⟩
  exact (ss_seq (ss_if (st_not (st_b (se_call (sa_cons se_var sa_nil)))) (ss_raise rfl) ss_next) (ss_ret (se_if (st_b (meth_one (by decide +kernel) se_var sa_nil)) se_int (meth_one (by decide +kernel) (se_fld (by decide +kernel) ⟨⟨T.cl_Talk, T.n_Talk_giver⟩, trivial⟩ se_var) (sa_cons se_var sa_nil)))))
abbrev s_Giver_again : Stmt := inClass (topS 28) 7
abbrev N_Giver_again : List Str := ["self", "tick"]
theorem sc_Giver_again : FnScope N_Giver_again ["self", "tick"] (defScope s_Giver_again) := ⟨rfl, rfl, rfl, by decide +kernel, rfl, by decide +kernel, by decide +kernel⟩
theorem ok_Giver_again {P : Program} {w : World} {K : PySem.W.Frag} {mg : Str → Option Value} {base : Heap} {a : Addr} {fd : FuncData} {ca : String → Addr} (T : Txt K mg ca) (F : Fun K "again" "Giver.again" s_Giver_again a fd)  :
    FnOk P w K mg base (L2.CX P w) 1 a fd ["self", "tick"] (SpF K ca F_Giver_again) := by
  refine SM.Fn.ofF F sc_Giver_again rfl fun cdv A outer s H E hr => ?_
  have nd := sc_Giver_again.nd
  refine ⟨_, (pss_cons (ps_if (PW.pt (pw_or (pt_cmpR op_isU (pe_fld (pv 0) rfl) pe_non (nomark _)) (pw_or1 (pt_cmpR op_ltU (pe_op op_subU (pv 1) (pe_fld (pv 0) rfl)) (pe_fld (pv 0) rfl) (nomark _))))) (pss_one (ps_ret (pe_lst pa_nil))) pss_nil) (pss_cons (ps_fld (pv 0) (pe_callB (call_min2U rfl) (by rfl) T.b_min (by decide +kernel) (pa_cons (pe_op (op_mulA (K := K)) pe_int (pe_fld (pv 0) rfl)) (pa_cons (pe_op (op_mulA (K := K)) (pe_glob (v := .int 16) rfl T.c_LONGEST.choose_spec ⟨_, rfl⟩) (pe_fld (pv 0) rfl)) pa_nil))) rfl) (pss_cons (ps_fld (pv 0) (pv 1) rfl) (pss_cons (ps_fldaug (pv 0) pe_int (ia_addA (K := K))) (pss_cons (ps_fld (pv 0) (pe_fld (pv 0) rfl) rfl) (pss_one (ps_ret (pe_lst (pa_cons (pe_tup (pa_cons (pe_fld (pv 0) rfl) (pa_cons (pe_callTy (call_tupleU (K := K)) (by rfl) T.b_tuple (by decide +kernel) (pa_cons (pe_slice (sl_U (K := K)) (pe_fld (pv 0) rfl) po_none (po_some (pe_callB (call_min2U rfl) (by rfl) T.b_min (by decide +kernel) (pa_cons (pe_fld (pv 0) rfl) (pa_cons (pe_fld (pv 0) rfl) pa_nil))))) pa_nil)) pa_nil))) pa_nil))))))))), ?_⟩
  exact (ss_seq (ss_if (st_or (st_test (se_op os_is (se_fld (by decide +kernel) ⟨⟨T.cl_Giver, T.n_Giver_since⟩, trivial⟩ se_var) se_non)) (st_test (se_op os_lt (se_op os_sub se_var (se_fld (by decide +kernel) ⟨⟨T.cl_Giver, T.n_Giver_since⟩, trivial⟩ se_var)) (se_fld (by decide +kernel) ⟨⟨T.cl_Giver, T.n_Giver_wait⟩, trivial⟩ se_var)))) (ss_ret (se_lst sa_nil)) ss_next) (ss_seq (ss_fl (by decide +kernel) ⟨⟨T.cl_Giver, T.n_Giver_wait⟩, trivial⟩ se_var (se_cb cs_min2 (sa_cons (se_op os_mul se_int (se_fld (by decide +kernel) ⟨⟨T.cl_Giver, T.n_Giver_wait⟩, trivial⟩ se_var)) (sa_cons (se_op os_mul se_int (se_fld (by decide +kernel) ⟨⟨T.cl_Giver, T.n_Giver_first_wait⟩, trivial⟩ se_var)) sa_nil)))) (ss_seq (ss_fl (by decide +kernel) ⟨⟨T.cl_Giver, T.n_Giver_since⟩, trivial⟩ se_var se_var) (ss_seq (ss_flaug (by decide +kernel) ⟨⟨T.cl_Giver, T.n_Giver_tried⟩, trivial⟩ ips_add se_var se_int) (ss_seq (ss_fl (by decide +kernel) ⟨⟨T.cl_Giver, T.n_Giver_pace⟩, trivial⟩ se_var (se_fld (by decide +kernel) ⟨⟨T.cl_Giver, T.n_Giver_most⟩, trivial⟩ se_var)) (ss_ret (se_lst (sa_cons (se_tup (sa_cons (se_fld (by decide +kernel) ⟨⟨T.cl_Giver, T.n_Giver_base⟩, trivial⟩ se_var) (sa_cons (se_cb cs_tuple (sa_cons (se_sl sls_all (se_fld (by decide +kernel) ⟨⟨T.cl_Giver, T.n_Giver_kept⟩, trivial⟩ se_var) so_none (so_some (se_cb cs_min2 (sa_cons (se_fld (by decide +kernel) ⟨⟨T.cl_Giver, T.n_Giver_most⟩, trivial⟩ se_var) (sa_cons (se_fld (by decide +kernel) ⟨⟨T.cl_Giver, T.n_Giver_sent⟩, trivial⟩ se_var) sa_nil))))) sa_nil)) sa_nil))) sa_nil))))))))
abbrev s_Giver_due : Stmt := inClass (topS 28) 8
abbrev N_Giver_due : List Str := ["self", "tick", "found", "end", "many"]
theorem sc_Giver_due : FnScope N_Giver_due ["self", "tick"] (defScope s_Giver_due) := ⟨rfl, rfl, rfl, by decide +kernel, rfl, by decide +kernel, by decide +kernel⟩
theorem ok_Giver_due {P : Program} {w : World} {K : PySem.W.Frag} {mg : Str → Option Value} {base : Heap} {a : Addr} {fd : FuncData} {ca : String → Addr} (T : Txt K mg ca) (F : Fun K "due" "Giver.due" s_Giver_due a fd) (M_Giver_again : SM.Mt P w K mg base 1 (ca "Giver") "again" (SpF K ca F_Giver_again)) (M_Giver_count : SM.Mt P w K mg base 2 (ca "Giver") "count" (SpF K ca F_Giver_count)) (M_Giver_need_tick : SM.Mt P w K mg base 2 (ca "Giver") "need_tick" (SpF K ca F_Giver_need_tick)) (M_Giver_next_number : SM.Mt P w K mg base 3 (ca "Giver") "next_number" (SpF K ca F_Giver_next_number)) :
    FnOk P w K mg base (L2.CX P w) 4 a fd ["self", "tick"] (SpF K ca F_Giver_due) := by
  refine SM.Fn.ofF F sc_Giver_due rfl fun cdv A outer s H E hr => ?_
  have nd := sc_Giver_due.nd
  refine ⟨_, (pss_cons (ps_expr (pe_mtX M_Giver_need_tick (takes_of rfl rfl rfl rfl) hr (by decide) T.cl_Giver (pv 0) (pa_cons (pv 1) pa_nil))) (pss_cons (ps_expr (pe_mtX M_Giver_count (takes_of rfl rfl rfl rfl) hr (by decide) T.cl_Giver (pv 0) (pa_cons (pv 1) pa_nil))) (pss_cons (ps_set (i := 2) nd rfl (by first | exact Or.inl rfl | exact Or.inr rfl) (pe_mtX M_Giver_again (takes_of rfl rfl rfl rfl) hr (by decide) T.cl_Giver (pv 0) (pa_cons (pv 1) pa_nil))) (pss_cons (ps_set (i := 3) nd rfl (by first | exact Or.inl rfl | exact Or.inr rfl) (pe_callB (call_min3U rfl) (by rfl) T.b_min (by decide +kernel) (pa_cons (pe_callB (call_lenU (K := K)) (by rfl) T.b_len (by decide +kernel) (pa_cons (pe_fld (pv 0) rfl) pa_nil)) (pa_cons (pe_fld (pv 0) rfl) (pa_cons (pe_fld (pv 0) rfl) pa_nil))))) (pss_cons (ps_while (passes_of rfl) (pt_cmpR op_ltU (pe_fld (pv 0) rfl) (pv 3) (nomark _)) (pss_cons (ps_set (i := 4) nd rfl (by first | exact Or.inl rfl | exact Or.inr rfl) (pe_callB (call_min2U rfl) (by rfl) T.b_min (by decide +kernel) (pa_cons (pe_fld (pv 0) rfl) (pa_cons (pe_op op_subU (pv 3) (pe_fld (pv 0) rfl)) pa_nil)))) (pss_cons (ps_expr (pe_bm PySem.F.plainAttrs_list PySem.F.slot_list_append PySem.F.type_list_append mt_append (pv 2) (pa_cons (pe_tup (pa_cons (pe_mtX0 M_Giver_next_number (takes_of rfl rfl rfl rfl) hr (by decide) T.cl_Giver (pv 0)) (pa_cons (pe_callTy (call_tupleU (K := K)) (by rfl) T.b_tuple (by decide +kernel) (pa_cons (pe_slice (sl_U (K := K)) (pe_fld (pv 0) rfl) (po_some (pe_fld (pv 0) rfl)) (po_some (pe_op (op_addU (K := K)) (pe_fld (pv 0) rfl) (pv 4)))) pa_nil)) pa_nil))) pa_nil))) (pss_one (ps_fldaug (pv 0) (pv 4) (ia_addA (K := K))))))) (pss_cons (ps_expr (pe_mtX M_Giver_count (takes_of rfl rfl rfl rfl) hr (by decide) T.cl_Giver (pv 0) (pa_cons (pv 1) pa_nil))) (pss_one (ps_ret (pv 2))))))))), ?_⟩
  exact (ss_seq (ss_drop (meth_one (by decide +kernel) se_var (sa_cons se_var sa_nil))) (ss_seq (ss_drop (meth_one (by decide +kernel) se_var (sa_cons se_var sa_nil))) (ss_seq (ss_set (meth_one (by decide +kernel) se_var (sa_cons se_var sa_nil))) (ss_seq (ss_set (se_cb cs_min3 (sa_cons (se_cb cs_len (sa_cons (se_fld (by decide +kernel) ⟨⟨T.cl_Giver, T.n_Giver_kept⟩, trivial⟩ se_var) sa_nil)) (sa_cons (se_fld (by decide +kernel) ⟨⟨T.cl_Giver, T.n_Giver_reach⟩, trivial⟩ se_var) (sa_cons (se_fld (by decide +kernel) ⟨⟨T.cl_Giver, T.n_Giver_pace⟩, trivial⟩ se_var) sa_nil))))) (ss_seq (ss_while (st_test (se_op os_lt (se_fld (by decide +kernel) ⟨⟨T.cl_Giver, T.n_Giver_sent⟩, trivial⟩ se_var) se_var)) (ss_seq (ss_set (se_cb cs_min2 (sa_cons (se_fld (by decide +kernel) ⟨⟨T.cl_Giver, T.n_Giver_most⟩, trivial⟩ se_var) (sa_cons (se_op os_sub se_var (se_fld (by decide +kernel) ⟨⟨T.cl_Giver, T.n_Giver_sent⟩, trivial⟩ se_var)) sa_nil)))) (ss_seq (ss_drop (se_bl_ ms_append se_var (sa_cons (se_tup (sa_cons (meth_one (by decide +kernel) se_var sa_nil) (sa_cons (se_cb cs_tuple (sa_cons (se_sl sls_all (se_fld (by decide +kernel) ⟨⟨T.cl_Giver, T.n_Giver_kept⟩, trivial⟩ se_var) (so_some (se_fld (by decide +kernel) ⟨⟨T.cl_Giver, T.n_Giver_sent⟩, trivial⟩ se_var)) (so_some (se_op os_add (se_fld (by decide +kernel) ⟨⟨T.cl_Giver, T.n_Giver_sent⟩, trivial⟩ se_var) se_var))) sa_nil)) sa_nil))) sa_nil))) (ss_flaug (by decide +kernel) ⟨⟨T.cl_Giver, T.n_Giver_sent⟩, trivial⟩ ips_add se_var se_var)))) (ss_seq (ss_drop (meth_one (by decide +kernel) se_var (sa_cons se_var sa_nil))) (ss_ret se_var)))))))
abbrev s_Giver_tries : Stmt := inClass (topS 28) 9
abbrev N_Giver_tries : List Str := ["self"]
theorem sc_Giver_tries : FnScope N_Giver_tries ["self"] (defScope s_Giver_tries) := ⟨rfl, rfl, rfl, by decide +kernel, rfl, by decide +kernel, by decide +kernel⟩
theorem ok_Giver_tries {P : Program} {w : World} {K : PySem.W.Frag} {mg : Str → Option Value} {base : Heap} {a : Addr} {fd : FuncData} {ca : String → Addr} (T : Txt K mg ca) (F : Fun K "tries" "Giver.tries" s_Giver_tries a fd)  :
    FnOk P w K mg base (L2.CX P w) 1 a fd ["self"] (SpF K ca F_Giver_tries) := by
  refine SM.Fn.ofF F sc_Giver_tries rfl fun cdv A outer s H E hr => ?_
  have nd := sc_Giver_tries.nd
  refine ⟨_, (pss_one (ps_ret (pe_fld (pv 0) rfl))), ?_⟩
  exact (ss_ret (se_fld (by decide +kernel) ⟨⟨T.cl_Giver, T.n_Giver_tried⟩, trivial⟩ se_var))
abbrev s_Talk_segment_of : Stmt := inClass (topS 52) 8
abbrev N_Talk_segment_of : List Str := ["self", "number", "items", "marks", "item"]
theorem sc_Talk_segment_of : FnScope N_Talk_segment_of ["self", "number", "items"] (defScope s_Talk_segment_of) := ⟨rfl, rfl, rfl, by decide +kernel, rfl, by decide +kernel, by decide +kernel⟩
theorem ok_Talk_segment_of {P : Program} {w : World} {K : PySem.W.Frag} {mg : Str → Option Value} {base : Heap} {a : Addr} {fd : FuncData} {ca : String → Addr} (T : Txt K mg ca) (F : Fun K "segment_of" "Talk.segment_of" s_Talk_segment_of a fd) (M_Talk_made : SM.Mt P w K mg base 5 (ca "Talk") "made" (SpF K ca F_Talk_made)) :
    FnOk P w K mg base (L2.CX P w) 6 a fd ["self", "number", "items"] (SpF K ca F_Talk_segment_of) := by
  refine SM.Fn.ofF F sc_Talk_segment_of rfl fun cdv A outer s H E hr => ?_
  have nd := sc_Talk_segment_of.nd
  refine ⟨_, (pss_cons (ps_set (i := 3) nd rfl (by first | exact Or.inl rfl | exact Or.inr rfl) (pe_ifExp (pt_cmpR op_notU (pe_fld (pv 0) rfl) pe_non (nomark _)) pe_str pe_str)) (pss_cons (ps_aug (i := 3) nd rfl (by first | exact Or.inl rfl | exact Or.inr rfl) (pe_ifExp (pt_cmpR (op_inAll (K := K) (DL.room65 hr)) pe_str (pv 2) rfl) pe_str pe_str) (ip_addA (K := K))) (pss_cons (ps_aug (i := 3) nd rfl (by first | exact Or.inl rfl | exact Or.inr rfl) (pe_ifExp (pt_cmpR (op_inAll (K := K) (DL.room65 hr)) pe_str (pv 2) rfl) pe_str pe_str) (ip_addA (K := K))) (pss_cons (ps_aug (i := 3) nd rfl (by first | exact Or.inl rfl | exact Or.inr rfl) (pe_ifExp (pt_cmpR (op_eqPK (K := K) (DL.room65 hr)) (pv 2) (pe_tup pa_nil) (nomark _)) pe_str pe_str) (ip_addA (K := K))) (pss_one (ps_ret (pe_mtX M_Talk_made (takes_of rfl rfl rfl rfl) hr (by decide) T.cl_Talk (pv 0) (pa_cons (pv 3) (pa_cons (pv 1) (pa_cons (pe_callTy (call_tupleU (K := K)) (by rfl) T.b_tuple (by decide +kernel) (pa_cons (pe_lc (own := [("item", 4)]) (g := (gName 4)) rfl nd (pi_seqU (K := K) (pv 2)) (blkOk_by (own := [("item", 4)]) (N := N_Talk_segment_of) (sc := defScope s_Talk_segment_of) (by decide +kernel)) (fun _ _ _ _ _ => (pg_name (i := 4) nd rfl (by first | exact Or.inl rfl | exact Or.inr rfl))) (fun _ _ _ _ _ => (pts_one (pt_cmpR (op_notInAll (K := K) (DL.room65 hr)) (pv 4) (pe_tup (pa_cons pe_str (pa_cons pe_str pa_nil))) rfl))) (fun _ _ _ _ _ => (pv 4))) pa_nil)) pa_nil)))))))))), ?_⟩
  exact (ss_seq (ss_set (se_if (st_test (se_op os_isnot (se_fld (by decide +kernel) ⟨⟨T.cl_Talk, T.n_Talk_taker⟩, trivial⟩ se_var) se_non)) (se_strS (by decide +kernel)) (se_strS (by decide +kernel)))) (ss_seq (ss_aug ips_add (se_if (st_test (se_op os_in (se_strS (by decide +kernel)) se_var)) (se_strS (by decide +kernel)) (se_strS (by decide +kernel)))) (ss_seq (ss_aug ips_add (se_if (st_test (se_op os_in (se_strS (by decide +kernel)) se_var)) (se_strS (by decide +kernel)) (se_strS (by decide +kernel)))) (ss_seq (ss_aug ips_add (se_if (st_test (se_op os_eq se_var (se_tup sa_nil))) (se_strS (by decide +kernel)) (se_strS (by decide +kernel)))) (ss_ret (meth_one (by decide +kernel) se_var (sa_cons se_var (sa_cons se_var (sa_cons (se_cb cs_tuple (sa_cons (se_lc (W2 := fun _ _ _ _ => False) (sw_seq se_var) sg_name (by decide) (st_test (se_op os_notin se_var (se_tup (sa_cons (se_strS (by decide +kernel)) (sa_cons (se_strS (by decide +kernel)) sa_nil))))) se_var) sa_nil)) sa_nil)))))))))
abbrev s_Talk_due : Stmt := inClass (topS 52) 12
abbrev N_Talk_due : List Str := ["self", "tick", "pairs", "number", "items"]
theorem sc_Talk_due : FnScope N_Talk_due ["self", "tick"] (defScope s_Talk_due) := ⟨rfl, rfl, rfl, by decide +kernel, rfl, by decide +kernel, by decide +kernel⟩
theorem ok_Talk_due {P : Program} {w : World} {K : PySem.W.Frag} {mg : Str → Option Value} {base : Heap} {a : Addr} {fd : FuncData} {ca : String → Addr} (T : Txt K mg ca) (F : Fun K "due" "Talk.due" s_Talk_due a fd) (M_Giver_due : SM.Mt P w K mg base 4 (ca "Giver") "due" (SpF K ca F_Giver_due)) (M_Giver_tries : SM.Mt P w K mg base 1 (ca "Giver") "tries" (SpF K ca F_Giver_tries)) (M_Talk_is_over : SM.Mt P w K mg base 4 (ca "Talk") "is_over" (SpF K ca F_Talk_is_over)) (M_Talk_pass_to : SM.Mt P w K mg base 2 (ca "Talk") "pass_to" (SpF K ca F_Talk_pass_to)) (M_Talk_segment_of : SM.Mt P w K mg base 6 (ca "Talk") "segment_of" (SpF K ca F_Talk_segment_of)) :
    FnOk P w K mg base (L2.CX P w) 7 a fd ["self", "tick"] (SpF K ca F_Talk_due) := by
  refine SM.Fn.ofF F sc_Talk_due rfl fun cdv A outer s H E hr => ?_
  have nd := sc_Talk_due.nd
  refine ⟨_, (pss_cons (ps_expr (pe_mtX M_Talk_pass_to (takes_of rfl rfl rfl rfl) hr (by decide) T.cl_Talk (pv 0) (pa_cons (pv 1) pa_nil))) (pss_cons (ps_if (pt_val (pe_mtX0 M_Talk_is_over (takes_of rfl rfl rfl rfl) hr (by decide) T.cl_Talk (pv 0))) (pss_one (ps_ret (pe_lst pa_nil))) pss_nil) (pss_cons (ps_set (i := 2) nd rfl (by first | exact Or.inl rfl | exact Or.inr rfl) (pe_mtX M_Giver_due (takes_of rfl rfl rfl rfl) hr (by decide) T.cl_Giver (pe_fld (pv 0) rfl) (pa_cons (pv 1) pa_nil))) (pss_cons (ps_if (pt_cmpR op_geU (pe_mtX0 M_Giver_tries (takes_of rfl rfl rfl rfl) hr (by decide) T.cl_Giver (pe_fld (pv 0) rfl)) (pe_glob (v := .int 16) rfl T.c_MOST_TRIES.choose_spec ⟨_, rfl⟩) (nomark _)) (pss_cons (ps_fld (pv 0) pe_str rfl) (pss_one (ps_ret (pe_lst pa_nil)))) pss_nil) (pss_one (ps_ret (pe_lc (own := [("number", 3), ("items", 4)]) (g := (gTup _ 2 (gCons (gName 3) (gCons (gName 4) gNil)))) rfl nd (pi_seqU (K := K) (pv 2)) (blkOk_by (own := [("number", 3), ("items", 4)]) (N := N_Talk_due) (sc := defScope s_Talk_due) (by decide +kernel)) (fun _ _ _ _ _ => (pg_tup rfl (pgs_cons (pg_name (i := 3) nd rfl (by first | exact Or.inl rfl | exact Or.inr rfl)) (pgs_cons (pg_name (i := 4) nd rfl (by first | exact Or.inl rfl | exact Or.inr rfl)) pgs_nil)))) (fun _ _ _ _ _ => pts_nil) (fun _ _ _ _ _ => (pe_mtN M_Talk_segment_of hr (by decide) T.cl_Talk (pv 0) (pa_cons (pv 3) (pa_cons (pv 4) pa_nil))))))))))), ?_⟩
  exact (ss_seq (ss_drop (meth_one (by decide +kernel) se_var (sa_cons se_var sa_nil))) (ss_seq (ss_if (st_b (meth_one (by decide +kernel) se_var sa_nil)) (ss_ret (se_lst sa_nil)) ss_next) (ss_seq (ss_set (meth_one (by decide +kernel) (se_fld (by decide +kernel) ⟨⟨T.cl_Talk, T.n_Talk_giver⟩, trivial⟩ se_var) (sa_cons se_var sa_nil))) (ss_seq (ss_if (st_test (se_op os_ge (meth_one (by decide +kernel) (se_fld (by decide +kernel) ⟨⟨T.cl_Talk, T.n_Talk_giver⟩, trivial⟩ se_var) sa_nil) se_int)) (ss_seq (ss_fl (by decide +kernel) ⟨⟨T.cl_Talk, T.n_Talk_ending⟩, trivial⟩ se_var (se_strS (by decide +kernel))) (ss_ret (se_lst sa_nil))) ss_next) (ss_ret (se_lc (W2 := fun _ _ _ _ => False) (sw_seq se_var) (sg_tup (sgs_cons sg_name (sgs_cons sg_name sgs_nil)) rfl) (by decide) st_yes (meth0_one (by decide +kernel) se_var (sa_cons se_var (sa_cons se_var sa_nil)))))))))
abbrev s_l_brought : Stmt := topS 61
abbrev N_l_brought : List Str := ["_law_talks", "_law_end", "_law_tick", "_law_lost", "_law_many", "_law_segment", "_law_answer"]
theorem sc_l_brought : FnScope N_l_brought ["_law_talks", "_law_end", "_law_tick", "_law_lost"] (defScope s_l_brought) := ⟨rfl, rfl, rfl, by decide +kernel, rfl, by decide +kernel, by decide +kernel⟩
theorem ok_l_brought {P : Program} {w : World} {K : PySem.W.Frag} {mg : Str → Option Value} {base : Heap} {a : Addr} {fd : FuncData} {ca : String → Addr} (T : Txt K mg ca) (F : Fun K "_law_brought" "_law_brought" s_l_brought a fd) (M_Talk_due : SM.Mt P w K mg base 7 (ca "Talk") "due" (SpF K ca F_Talk_due)) (M_Talk_heard : SM.Mt P w K mg base 7 (ca "Talk") "heard" (SpF K ca F_Talk_heard)) :
    FnOk P w K mg base (L2.CX P w) 8 a fd ["_law_talks", "_law_end", "_law_tick", "_law_lost"] (SpF K ca F_l_brought) := by
  refine SM.Fn.ofF F sc_l_brought rfl fun cdv A outer s H E hr => ?_
  have nd := sc_l_brought.nd
  refine ⟨_, (pss_cons (ps_set (i := 4) nd rfl (by first | exact Or.inl rfl | exact Or.inr rfl) pe_int) (pss_cons (ps_for (passes_of rfl) rfl (pi_seqU (K := K) (pe_mtX M_Talk_due (takes_of rfl rfl rfl rfl) hr (by decide) T.cl_Talk (pe_ix (ix_U (K := K)) (pv 0) (pv 1) (fun _ _ => rfl)) (pa_cons (pv 2) pa_nil))) (pg_name (i := 5) nd rfl (by first | exact Or.inl rfl | exact Or.inr rfl)) (pss_one (ps_for (passes_of rfl) rfl (pi_seqU (K := K) (pe_mtX M_Talk_heard (takes_of rfl rfl rfl rfl) hr (by decide) T.cl_Talk (pe_ix (ix_U (K := K)) (pv 0) (pe_op op_subU pe_int (pv 1)) (fun _ _ => rfl)) (pa_cons (pv 5) (pa_cons (pv 2) pa_nil)))) (pg_name (i := 6) nd rfl (by first | exact Or.inl rfl | exact Or.inr rfl)) (pss_one (ps_if (pt_cmpR op_ltU (pv 4) (pv 3) (nomark _)) (pss_one (ps_aug (i := 4) nd rfl (by first | exact Or.inl rfl | exact Or.inr rfl) pe_int (ip_addA (K := K)))) (pss_one (ps_expr (pe_mtX M_Talk_heard (takes_of rfl rfl rfl rfl) hr (by decide) T.cl_Talk (pe_ix (ix_U (K := K)) (pv 0) (pv 1) (fun _ _ => rfl)) (pa_cons (pv 6) (pa_cons (pv 2) pa_nil)))))))))) (pss_one (ps_ret (pv 4))))), ?_⟩
  exact (ss_seq (ss_set se_int) (ss_seq (ss_for (sw_seq (meth_one (by decide +kernel) (se_op os_ix se_var se_var) (sa_cons se_var sa_nil))) sg_name (ss_for (sw_seq (meth_one (by decide +kernel) (se_op os_ix se_var (se_op os_sub se_int se_var)) (sa_cons se_var (sa_cons se_var sa_nil)))) sg_name (ss_if (st_test (se_op os_lt se_var se_var)) (ss_aug ips_add se_int) (ss_drop (meth_one (by decide +kernel) (se_op os_ix se_var se_var) (sa_cons se_var (sa_cons se_var sa_nil))))))) (ss_ret se_var)))
abbrev s_l_next : Stmt := topS 56
abbrev N_l_next : List Str := ["_law_draw_here", "_law_size", "_law_digit"]
theorem sc_l_next : FnScope N_l_next ["_law_draw_here", "_law_size"] (defScope s_l_next) := ⟨rfl, rfl, rfl, by decide +kernel, rfl, by decide +kernel, by decide +kernel⟩
theorem ok_l_next {P : Program} {w : World} {K : PySem.W.Frag} {mg : Str → Option Value} {base : Heap} {a : Addr} {fd : FuncData} {ca : String → Addr} (T : Txt K mg ca) (F : Fun K "_law_next" "_law_next" s_l_next a fd) (C_l_mixed : Dx P w K mg base 1 "_law_mixed" (SpF K ca F_l_mixed)) :
    FnOk P w K mg base (L2.CX P w) 2 a fd ["_law_draw_here", "_law_size"] (SpF K ca F_l_next) := by
  refine SM.Fn.ofF F sc_l_next rfl fun cdv A outer s H E hr => ?_
  have nd := sc_l_next.nd
  refine ⟨_, (pss_cons (ps_if (PW.pt (pw_and (pt_cmpR op_ltU (pe_ix (ix_U (K := K)) (pv 0) pe_int (fun _ _ => rfl)) pe_int (nomark _)) (pw_and1 (pt_cmpR (op_notInAll (K := K) (DL.room65 hr)) (pe_ix (ix_U (K := K)) (pv 0) pe_int (fun _ _ => rfl)) (pe_tup (pa_cons pe_int (pa_cons (pe_un un_neg pe_int) pa_nil))) rfl)))) (pss_cons (ps_set (i := 2) nd rfl (by first | exact Or.inl rfl | exact Or.inr rfl) (pe_op op_modU (pe_ix (ix_U (K := K)) (pv 0) pe_int (fun _ _ => rfl)) (pv 1))) (pss_cons (PS.or (ps_asg (pe_op op_divU (pe_ix (ix_U (K := K)) (pv 0) pe_int (fun _ _ => rfl)) (pv 1)) (pg_sub (pv 0) pe_int set_list)) (ps_dput (DL.room65w hr) (pv 0) pe_int (pe_op op_divU (pe_ix (ix_U (K := K)) (pv 0) pe_int (fun _ _ => rfl)) (pv 1)) rfl)) (pss_one (ps_ret (pv 2))))) pss_nil) (pss_cons (PS.or (ps_asg (pe_op (op_addU (K := K)) (pe_callB (call_max2U rfl) (by rfl) T.b_max (by decide +kernel) (pa_cons pe_int (pa_cons (pe_ix (ix_U (K := K)) (pv 0) pe_int (fun _ _ => rfl)) pa_nil))) pe_int) (pg_sub (pv 0) pe_int set_list)) (ps_dput (DL.room65w hr) (pv 0) pe_int (pe_op (op_addU (K := K)) (pe_callB (call_max2U rfl) (by rfl) T.b_max (by decide +kernel) (pa_cons pe_int (pa_cons (pe_ix (ix_U (K := K)) (pv 0) pe_int (fun _ _ => rfl)) pa_nil))) pe_int) rfl)) (pss_one (ps_ret (pe_op op_modU (pe_op op_divU (pe_dx C_l_mixed (takes_of rfl rfl rfl rfl) hr (by decide) rfl (pa_cons (pe_ix (ix_U (K := K)) (pv 0) pe_int (fun _ _ => rfl)) (pa_cons (pe_ix (ix_U (K := K)) (pv 0) pe_int (fun _ _ => rfl)) pa_nil))) pe_int) (pv 1)))))), ?_⟩
  exact (ss_seq (ss_if (st_and (st_test (se_op os_lt (se_op os_ix se_var se_int) se_int)) (st_test (se_op os_notin (se_op os_ix se_var se_int) (se_tup (sa_cons se_int (sa_cons (se_un us_neg se_int) sa_nil)))))) (ss_seq (ss_set (se_op os_mod (se_op os_ix se_var se_int) se_var)) (ss_seq (ss_put se_var se_int (se_op os_div (se_op os_ix se_var se_int) se_var)) (ss_ret se_var))) ss_next) (ss_seq (ss_put se_var se_int (se_op os_add (se_cb cs_max2 (sa_cons se_int (sa_cons (se_op os_ix se_var se_int) sa_nil))) se_int)) (ss_ret (se_op os_mod (se_op os_div (se_call (sa_cons (se_op os_ix se_var se_int) (sa_cons (se_op os_ix se_var se_int) sa_nil))) se_int) se_var))))
abbrev s_l_bytes : Stmt := topS 58
abbrev N_l_bytes : List Str := ["_law_draw_here", "_law_many", "_law_base", "_law_by", "_law_k"]
theorem sc_l_bytes : FnScope N_l_bytes ["_law_draw_here", "_law_many"] (defScope s_l_bytes) := ⟨rfl, rfl, rfl, by decide +kernel, rfl, by decide +kernel, by decide +kernel⟩
theorem ok_l_bytes {P : Program} {w : World} {K : PySem.W.Frag} {mg : Str → Option Value} {base : Heap} {a : Addr} {fd : FuncData} {ca : String → Addr} (T : Txt K mg ca) (F : Fun K "_law_bytes" "_law_bytes" s_l_bytes a fd) (C_l_next : Dx P w K mg base 2 "_law_next" (SpF K ca F_l_next)) :
    FnOk P w K mg base (L2.CX P w) 3 a fd ["_law_draw_here", "_law_many"] (SpF K ca F_l_bytes) := by
  refine SM.Fn.ofF F sc_l_bytes rfl fun cdv A outer s H E hr => ?_
  have nd := sc_l_bytes.nd
  refine ⟨_, (pss_cons (ps_set (i := 2) nd rfl (by first | exact Or.inl rfl | exact Or.inr rfl) (pe_dx C_l_next (takes_of rfl rfl rfl rfl) hr (by decide) rfl (pa_cons (pv 0) (pa_cons pe_int pa_nil)))) (pss_cons (ps_set (i := 3) nd rfl (by first | exact Or.inl rfl | exact Or.inr rfl) (pe_op (op_addU (K := K)) pe_int (pe_op (op_mulA (K := K)) pe_int (pe_dx C_l_next (takes_of rfl rfl rfl rfl) hr (by decide) rfl (pa_cons (pv 0) (pa_cons pe_int pa_nil)))))) (pss_one (ps_ret (pe_callTy (call_tupleU (K := K)) (by rfl) T.b_tuple (by decide +kernel) (pa_cons (pe_lc (own := [("_law_k", 4)]) (g := (gName 4)) rfl nd (pi_range1 rfl T.b_range (pa_cons (pv 1) pa_nil)) (blkOk_by (own := [("_law_k", 4)]) (N := N_l_bytes) (sc := defScope s_l_bytes) (by decide +kernel)) (fun _ _ _ _ _ => (pg_name (i := 4) nd rfl (by first | exact Or.inl rfl | exact Or.inr rfl))) (fun _ _ _ _ _ => pts_nil) (fun _ _ _ _ _ => (pe_op op_modU (pe_op (op_addU (K := K)) (pv 2) (pe_op (op_mulA (K := K)) (pv 3) (pv 4))) pe_int))) pa_nil)))))), ?_⟩
  exact (ss_seq (ss_set (se_call (sa_cons se_var (sa_cons se_int sa_nil)))) (ss_seq (ss_set (se_op os_add se_int (se_op os_mul se_int (se_call (sa_cons se_var (sa_cons se_int sa_nil)))))) (ss_ret (se_cb cs_tuple (sa_cons (se_lc (W2 := fun _ _ _ _ => False) (sw_r1 (sa_cons se_var sa_nil)) sg_name (by decide) st_yes (se_op os_mod (se_op os_add se_var (se_op os_mul se_var se_var)) se_int)) sa_nil)))))
abbrev s_Talk_cut : Stmt := inClass (topS 52) 13
abbrev N_Talk_cut : List Str := ["self"]
theorem sc_Talk_cut : FnScope N_Talk_cut ["self"] (defScope s_Talk_cut) := ⟨rfl, rfl, rfl, by decide +kernel, rfl, by decide +kernel, by decide +kernel⟩
theorem ok_Talk_cut {P : Program} {w : World} {K : PySem.W.Frag} {mg : Str → Option Value} {base : Heap} {a : Addr} {fd : FuncData} {ca : String → Addr} (T : Txt K mg ca) (F : Fun K "cut" "Talk.cut" s_Talk_cut a fd) (M_Giver_next_number : SM.Mt P w K mg base 3 (ca "Giver") "next_number" (SpF K ca F_Giver_next_number)) (M_Talk_is_over : SM.Mt P w K mg base 4 (ca "Talk") "is_over" (SpF K ca F_Talk_is_over)) (M_Talk_made : SM.Mt P w K mg base 5 (ca "Talk") "made" (SpF K ca F_Talk_made)) :
    FnOk P w K mg base (L2.CX P w) 6 a fd ["self"] (SpF K ca F_Talk_cut) := by
  refine SM.Fn.ofF F sc_Talk_cut rfl fun cdv A outer s H E hr => ?_
  have nd := sc_Talk_cut.nd
  refine ⟨_, (pss_cons (ps_if (pt_val (pe_mtX0 M_Talk_is_over (takes_of rfl rfl rfl rfl) hr (by decide) T.cl_Talk (pv 0))) (pss_one (ps_ret (pe_lst pa_nil))) pss_nil) (pss_cons (ps_fld (pv 0) pe_str rfl) (pss_one (ps_ret (pe_lst (pa_cons (pe_mtX M_Talk_made (takes_of rfl rfl rfl rfl) hr (by decide) T.cl_Talk (pv 0) (pa_cons pe_str (pa_cons (pe_mtX0 M_Giver_next_number (takes_of rfl rfl rfl rfl) hr (by decide) T.cl_Giver (pe_fld (pv 0) rfl)) (pa_cons (pe_tup pa_nil) pa_nil)))) pa_nil)))))), ?_⟩
  exact (ss_seq (ss_if (st_b (meth_one (by decide +kernel) se_var sa_nil)) (ss_ret (se_lst sa_nil)) ss_next) (ss_seq (ss_fl (by decide +kernel) ⟨⟨T.cl_Talk, T.n_Talk_ending⟩, trivial⟩ se_var (se_strS (by decide +kernel))) (ss_ret (se_lst (sa_cons (meth_one (by decide +kernel) se_var (sa_cons (se_strS (by decide +kernel)) (sa_cons (meth_one (by decide +kernel) (se_fld (by decide +kernel) ⟨⟨T.cl_Talk, T.n_Talk_giver⟩, trivial⟩ se_var) sa_nil) (sa_cons (se_tup sa_nil) sa_nil)))) sa_nil)))))
abbrev s_l_closes : Stmt := topS 62
abbrev N_l_closes : List Str := ["_law_talk", "_law_since", "_law_segment"]
theorem sc_l_closes : FnScope N_l_closes ["_law_talk", "_law_since", "_law_segment"] (defScope s_l_closes) := ⟨rfl, rfl, rfl, by decide +kernel, rfl, by decide +kernel, by decide +kernel⟩
theorem ok_l_closes {P : Program} {w : World} {K : PySem.W.Frag} {mg : Str → Option Value} {base : Heap} {a : Addr} {fd : FuncData} {ca : String → Addr} (T : Txt K mg ca) (F : Fun K "_law_closes" "_law_closes" s_l_closes a fd) (M_Talk_cut : SM.Mt P w K mg base 6 (ca "Talk") "cut" (SpF K ca F_Talk_cut)) (M_Talk_due : SM.Mt P w K mg base 7 (ca "Talk") "due" (SpF K ca F_Talk_due)) (M_Talk_finish : SM.Mt P w K mg base 5 (ca "Talk") "finish" (SpF K ca F_Talk_finish)) (M_Talk_heard : SM.Mt P w K mg base 7 (ca "Talk") "heard" (SpF K ca F_Talk_heard)) (M_Talk_stand : SM.Mt P w K mg base 3 (ca "Talk") "stand" (SpF K ca F_Talk_stand)) (M_Talk_write : SM.Mt P w K mg base 5 (ca "Talk") "write" (SpF K ca F_Talk_write)) :
    FnOk P w K mg base (L2.CX P w) 8 a fd ["_law_talk", "_law_since", "_law_segment"] (SpF K ca F_l_closes) := by
  refine SM.Fn.ofF F sc_l_closes rfl fun cdv A outer s H E hr => ?_
  have nd := sc_l_closes.nd
  refine ⟨_, (pss_cons (ps_if (pt_cmpR op_notU (pv 2) pe_non (nomark _)) (pss_cons (ps_if (PW.pt (pw_or (pt_cmpR (op_nePK (K := K) (DL.room65 hr)) (pe_mtX M_Talk_heard (takes_of rfl rfl rfl rfl) hr (by decide) T.cl_Talk (pv 0) (pa_cons (pv 2) (pa_cons (pe_op (op_addU (K := K)) (pv 1) pe_int) pa_nil))) (pe_lst pa_nil) (nomark _)) (pw_or (pt_cmpR (op_nePK (K := K) (DL.room65 hr)) (pe_mtX0 M_Talk_stand (takes_of rfl rfl rfl rfl) hr (by decide) T.cl_Talk (pv 0)) pe_str (nomark _)) (pw_or1 (pt_cmpR (op_nePK (K := K) (DL.room65 hr)) (pe_mtX M_Talk_due (takes_of rfl rfl rfl rfl) hr (by decide) T.cl_Talk (pv 0) (pa_cons (pe_op (op_addU (K := K)) (pv 1) pe_int) pa_nil)) (pe_lst pa_nil) (nomark _)))))) (pss_one (ps_ret pe_bl)) pss_nil) (pss_one (ps_ret (pe_and (pe_cmpR (op_eqPK (K := K) (DL.room65 hr)) (pe_mtX M_Talk_due (takes_of rfl rfl rfl rfl) hr (by decide) T.cl_Talk (pv 0) (pa_cons (pe_op (op_addU (K := K)) (pv 1) pe_int) pa_nil)) (pe_lst pa_nil) (nomark _)) (pe_one (pe_cmpR (op_eqPK (K := K) (DL.room65 hr)) (pe_mtX0 M_Talk_stand (takes_of rfl rfl rfl rfl) hr (by decide) T.cl_Talk (pv 0)) pe_str (nomark _))))))) pss_nil) (pss_cons (ps_if (PW.pt (pw_or (pt_cmpR (op_nePK (K := K) (DL.room65 hr)) (pe_mtX M_Talk_due (takes_of rfl rfl rfl rfl) hr (by decide) T.cl_Talk (pv 0) (pa_cons (pe_op (op_addU (K := K)) (pv 1) pe_int) pa_nil)) (pe_lst pa_nil) (nomark _)) (pw_or1 (pt_cmpR (op_nePK (K := K) (DL.room65 hr)) (pe_mtX0 M_Talk_stand (takes_of rfl rfl rfl rfl) hr (by decide) T.cl_Talk (pv 0)) pe_str (nomark _))))) (pss_one (ps_ret pe_bl)) pss_nil) (pss_cons (ps_if (PW.pt (pw_or (pt_cmpR (op_nePK (K := K) (DL.room65 hr)) (pe_mtX M_Talk_due (takes_of rfl rfl rfl rfl) hr (by decide) T.cl_Talk (pv 0) (pa_cons (pe_op (op_addU (K := K)) (pv 1) pe_int) pa_nil)) (pe_lst pa_nil) (nomark _)) (pw_or (pt_cmpR (op_nePK (K := K) (DL.room65 hr)) (pe_mtX0 M_Talk_stand (takes_of rfl rfl rfl rfl) hr (by decide) T.cl_Talk (pv 0)) pe_str (nomark _)) (pw_or (pt_cmpR (op_nePK (K := K) (DL.room65 hr)) (pe_mtX M_Talk_write (takes_of rfl rfl rfl rfl) hr (by decide) T.cl_Talk (pv 0) (pa_cons (pe_tup (pa_cons pe_int (pa_cons pe_int pa_nil))) pa_nil)) pe_int (nomark _)) (pw_or1 (pt_cmpR (op_nePK (K := K) (DL.room65 hr)) (pe_mtX0 M_Talk_cut (takes_of rfl rfl rfl rfl) hr (by decide) T.cl_Talk (pv 0)) (pe_lst pa_nil) (nomark _))))))) (pss_one (ps_ret pe_bl)) pss_nil) (pss_cons (ps_expr (pe_mtX0 M_Talk_finish (takes_of rfl rfl rfl rfl) hr (by decide) T.cl_Talk (pv 0))) (pss_one (ps_ret (pe_and (pe_cmpR (op_eqPK (K := K) (DL.room65 hr)) (pe_mtX M_Talk_due (takes_of rfl rfl rfl rfl) hr (by decide) T.cl_Talk (pv 0) (pa_cons (pe_op (op_addU (K := K)) (pv 1) pe_int) pa_nil)) (pe_lst pa_nil) (nomark _)) (pe_one (pe_cmpR (op_eqPK (K := K) (DL.room65 hr)) (pe_mtX0 M_Talk_stand (takes_of rfl rfl rfl rfl) hr (by decide) T.cl_Talk (pv 0)) pe_str (nomark _)))))))))), ?_⟩
  exact (ss_seq (ss_if (st_test (se_op os_isnot se_var se_non)) (ss_seq (ss_if (st_or (st_test (se_op os_ne (meth_one (by decide +kernel) se_var (sa_cons se_var (sa_cons (se_op os_add se_var se_int) sa_nil))) (se_lst sa_nil))) (st_or (st_test (se_op os_ne (meth_one (by decide +kernel) se_var sa_nil) (se_strS (by decide +kernel)))) (st_test (se_op os_ne (meth_one (by decide +kernel) se_var (sa_cons (se_op os_add se_var se_int) sa_nil)) (se_lst sa_nil))))) (ss_ret se_bl) ss_next) (ss_ret (se_and (se_op os_eq (meth_one (by decide +kernel) se_var (sa_cons (se_op os_add se_var se_int) sa_nil)) (se_lst sa_nil)) (se_op os_eq (meth_one (by decide +kernel) se_var sa_nil) (se_strS (by decide +kernel)))))) ss_next) (ss_seq (ss_if (st_or (st_test (se_op os_ne (meth_one (by decide +kernel) se_var (sa_cons (se_op os_add se_var se_int) sa_nil)) (se_lst sa_nil))) (st_test (se_op os_ne (meth_one (by decide +kernel) se_var sa_nil) (se_strS (by decide +kernel))))) (ss_ret se_bl) ss_next) (ss_seq (ss_if (st_or (st_test (se_op os_ne (meth_one (by decide +kernel) se_var (sa_cons (se_op os_add se_var se_int) sa_nil)) (se_lst sa_nil))) (st_or (st_test (se_op os_ne (meth_one (by decide +kernel) se_var sa_nil) (se_strS (by decide +kernel)))) (st_or (st_test (se_op os_ne (meth_one (by decide +kernel) se_var (sa_cons (se_tup (sa_cons se_int (sa_cons se_int sa_nil))) sa_nil)) se_int)) (st_test (se_op os_ne (meth_one (by decide +kernel) se_var sa_nil) (se_lst sa_nil)))))) (ss_ret se_bl) ss_next) (ss_seq (ss_drop (meth_one (by decide +kernel) se_var sa_nil)) (ss_ret (se_and (se_op os_eq (meth_one (by decide +kernel) se_var (sa_cons (se_op os_add se_var se_int) sa_nil)) (se_lst sa_nil)) (se_op os_eq (meth_one (by decide +kernel) se_var sa_nil) (se_strS (by decide +kernel)))))))))
abbrev s_l_left_right : Stmt := topS 63
abbrev N_l_left_right : List Str := ["_law_talks", "_law_tick", "_law_lost", "_law_one", "_law_other", "_law_waits", "_law_turn", "_law_gone"]
theorem sc_l_left_right : FnScope N_l_left_right ["_law_talks", "_law_tick", "_law_lost"] (defScope s_l_left_right) := ⟨rfl, rfl, rfl, by decide +kernel, rfl, by decide +kernel, by decide +kernel⟩
theorem ok_l_left_right {P : Program} {w : World} {K : PySem.W.Frag} {mg : Str → Option Value} {base : Heap} {a : Addr} {fd : FuncData} {ca : String → Addr} (T : Txt K mg ca) (F : Fun K "_law_left_right" "_law_left_right" s_l_left_right a fd) (M_Talk_finish : SM.Mt P w K mg base 5 (ca "Talk") "finish" (SpF K ca F_Talk_finish)) (M_Talk_stand : SM.Mt P w K mg base 3 (ca "Talk") "stand" (SpF K ca F_Talk_stand)) (C_l_brought : Dx P w K mg base 8 "_law_brought" (SpF K ca F_l_brought)) :
    FnOk P w K mg base (L2.CX P w) 9 a fd ["_law_talks", "_law_tick", "_law_lost"] (SpF K ca F_l_left_right) := by
  refine SM.Fn.ofF F sc_l_left_right rfl fun cdv A outer s H E hr => ?_
  have nd := sc_l_left_right.nd
  refine ⟨_, (pss_cons (ps_asg (pv 0) (pg_lst rfl (pgs_cons (pg_name (i := 3) nd rfl (by first | exact Or.inl rfl | exact Or.inr rfl)) (pgs_cons (pg_name (i := 4) nd rfl (by first | exact Or.inl rfl | exact Or.inr rfl)) pgs_nil)))) (pss_cons (ps_expr (pe_mtX0 M_Talk_finish (takes_of rfl rfl rfl rfl) hr (by decide) T.cl_Talk (pv 4))) (pss_cons (ps_if (pt_cmpR (op_nePK (K := K) (DL.room65 hr)) (pe_mtX0 M_Talk_stand (takes_of rfl rfl rfl rfl) hr (by decide) T.cl_Talk (pv 4)) pe_str (nomark _)) (pss_one (ps_ret (pe_un un_neg pe_int))) pss_nil) (pss_cons (ps_set (i := 5) nd rfl (by first | exact Or.inl rfl | exact Or.inr rfl) (pe_lst (pa_cons pe_int (pa_cons pe_int (pa_cons pe_int pa_nil))))) (pss_cons (ps_for (passes_of rfl) rfl (pi_range1 rfl T.b_range (pa_cons (pe_op (op_addU (K := K)) (pv 2) pe_int) pa_nil)) (pg_name (i := 6) nd rfl (by first | exact Or.inl rfl | exact Or.inr rfl)) (pss_cons (ps_set (i := 7) nd rfl (by first | exact Or.inl rfl | exact Or.inr rfl) (pe_dx C_l_brought (takes_of rfl rfl rfl rfl) hr (by decide) rfl (pa_cons (pv 0) (pa_cons pe_int (pa_cons (pv 1) (pa_cons (pe_callTy call_intU (by rfl) T.b_int (by decide +kernel) (pa_cons (pe_cmpR op_ltU (pv 6) (pv 2) (nomark _)) pa_nil)) pa_nil)))))) (pss_cons (ps_if (PW.pt (pw_or (pt_cmpR (op_nePK (K := K) (DL.room65 hr)) (pv 7) (pe_callTy call_intU (by rfl) T.b_int (by decide +kernel) (pa_cons (pe_cmpR op_ltU (pv 6) (pv 2) (nomark _)) pa_nil)) (nomark _)) (pw_or (pt_cmpR (op_nePK (K := K) (DL.room65 hr)) (pe_mtX0 M_Talk_stand (takes_of rfl rfl rfl rfl) hr (by decide) T.cl_Talk (pv 3)) pe_str (nomark _)) (pw_or1 (pt_cmpR (op_nePK (K := K) (DL.room65 hr)) (pe_mtX0 M_Talk_stand (takes_of rfl rfl rfl rfl) hr (by decide) T.cl_Talk (pv 4)) (pe_ix (ix_U (K := K)) (pe_lst (pa_cons pe_str (pa_cons pe_str pa_nil))) (pv 7) (fun _ _ => rfl)) (nomark _)))))) (pss_one (ps_ret (pe_un un_neg pe_int))) pss_nil) (pss_one (ps_if (pt_cmpR op_ltU (pv 6) (pv 2) (nomark _)) (pss_one (ps_set (i := 1) nd rfl (by first | exact Or.inl rfl | exact Or.inr rfl) (pe_op (op_addU (K := K)) (pv 1) (pe_ix (ix_U (K := K)) (pv 5) (pv 6) (fun _ _ => rfl))))) pss_nil))))) (pss_one (ps_ret (pv 1)))))))), ?_⟩
  exact (ss_seq (ss_asg se_var (sg_lst (sgs_cons sg_name (sgs_cons sg_name sgs_nil)) rfl)) (ss_seq (ss_drop (meth_one (by decide +kernel) se_var sa_nil)) (ss_seq (ss_if (st_test (se_op os_ne (meth_one (by decide +kernel) se_var sa_nil) (se_strS (by decide +kernel)))) (ss_ret (se_un us_neg se_int)) ss_next) (ss_seq (ss_set (se_lst (sa_cons se_int (sa_cons se_int (sa_cons se_int sa_nil))))) (ss_seq (ss_for (sw_r1 (sa_cons (se_op os_add se_var se_int) sa_nil)) sg_name (ss_seq (ss_set (se_call (sa_cons se_var (sa_cons se_int (sa_cons se_var (sa_cons (se_cb cs_int (sa_cons (se_op os_lt se_var se_var) sa_nil)) sa_nil)))))) (ss_seq (ss_if (st_or (st_test (se_op os_ne se_var (se_cb cs_int (sa_cons (se_op os_lt se_var se_var) sa_nil)))) (st_or (st_test (se_op os_ne (meth_one (by decide +kernel) se_var sa_nil) (se_strS (by decide +kernel)))) (st_test (se_op os_ne (meth_one (by decide +kernel) se_var sa_nil) (se_op os_ix (se_lst (sa_cons (se_strS (by decide +kernel)) (sa_cons (se_strS (by decide +kernel)) sa_nil))) se_var))))) (ss_ret (se_un us_neg se_int)) ss_next) (ss_if (st_test (se_op os_lt se_var se_var)) (ss_set (se_op os_add se_var (se_op os_ix se_var se_var))) ss_next)))) (ss_ret se_var))))))
abbrev s_l_moved : Stmt := topS 59
abbrev N_l_moved : List Str := ["_law_number", "_law_by"]
theorem sc_l_moved : FnScope N_l_moved ["_law_number", "_law_by"] (defScope s_l_moved) := ⟨rfl, rfl, rfl, by decide +kernel, rfl, by decide +kernel, by decide +kernel⟩
theorem ok_l_moved {P : Program} {w : World} {K : PySem.W.Frag} {mg : Str → Option Value} {base : Heap} {a : Addr} {fd : FuncData} {ca : String → Addr} (T : Txt K mg ca) (F : Fun K "_law_moved" "_law_moved" s_l_moved a fd)  :
    FnOk P w K mg base (L2.CX P w) 1 a fd ["_law_number", "_law_by"] (SpF K ca F_l_moved) := by
  refine SM.Fn.ofF F sc_l_moved rfl fun cdv A outer s H E hr => ?_
  have nd := sc_l_moved.nd
  refine ⟨_, (pss_one (ps_ret (pe_op op_modU (pe_op (op_addU (K := K)) (pv 0) (pv 1)) (pe_op op_powU pe_int pe_int)))), ?_⟩
  exact (ss_ret (se_op os_mod (se_op os_add se_var se_var) (se_op os_pow se_int se_int)))
abbrev s_Giver___init__ : Stmt := inClass (topS 28) 0
abbrev N_Giver___init__ : List Str := ["self", "first", "most", "wait"]
theorem sc_Giver___init__ : FnScope N_Giver___init__ ["self", "first", "most", "wait"] (defScope s_Giver___init__) := ⟨rfl, rfl, rfl, by decide +kernel, rfl, by decide +kernel, by decide +kernel⟩
theorem ok_Giver___init__ {P : Program} {w : World} {K : PySem.W.Frag} {mg : Str → Option Value} {base : Heap} {a : Addr} {fd : FuncData} {ca : String → Addr} (T : Txt K mg ca) (F : Fun K "__init__" "Giver.__init__" s_Giver___init__ a fd) (C_is_number_givers : Dx P w K mg base 1 "is_number_givers" (SpF K ca F_is_number_givers)) :
    FnOk P w K mg base (L2.CX P w) 2 a fd ["self", "first", "most", "wait"] (SpF K ca F_Giver___init__) := by
  refine SM.Fn.ofF F sc_Giver___init__ rfl fun cdv A outer s H E hr => ?_
  have nd := sc_Giver___init__.nd
  refine ⟨_, (pss_cons (ps_if (PW.pt (pw_or (pt_not (pt_val (pe_dx C_is_number_givers (takes_of rfl rfl rfl rfl) hr (by decide) rfl (pa_cons (pv 1) (pa_cons pe_int pa_nil))))) (pw_or (pt_cmpR op_geU (pv 1) (pe_glob (v := .int 4294967296) rfl T.c_SIZE_givers.choose_spec ⟨_, rfl⟩) (nomark _)) (pw_or (pt_not (pt_val (pe_dx C_is_number_givers (takes_of rfl rfl rfl rfl) hr (by decide) rfl (pa_cons (pv 2) (pa_cons pe_int pa_nil))))) (pw_or1 (pt_cmpR op_gtU (pv 2) (pe_glob (v := .int 200) rfl T.c_MOST_IN_PAIR.choose_spec ⟨_, rfl⟩) (nomark _))))))) (pss_one (DL.ps_raiseC rfl (takes_of rfl rfl rfl rfl) (pmk_own PySem.F.excBase_ValueError T.e_NoNumber T.g_NoNumber T.k_NoNumber (raises_own T.b_NoNumber T.t_NoNumber) rfl))) pss_nil) (pss_cons (ps_if (pt_not (pt_val (pe_dx C_is_number_givers (takes_of rfl rfl rfl rfl) hr (by decide) rfl (pa_cons (pv 3) (pa_cons pe_int pa_nil))))) (pss_one (DL.ps_raiseC rfl (takes_of rfl rfl rfl rfl) (pmk_own PySem.F.excBase_ValueError T.e_NoNumber T.g_NoNumber T.k_NoNumber (raises_own T.b_NoNumber T.t_NoNumber) rfl))) pss_nil) (pss_cons (ps_fld (pv 0) (pv 1) rfl) (pss_cons (ps_fld (pv 0) (pv 2) rfl) (pss_cons (ps_fld (pv 0) (pv 3) rfl) (pss_cons (ps_fld (pv 0) (pv 3) rfl) (pss_cons (ps_fld (pv 0) (pe_lst (pa_cons pe_str pa_nil)) rfl) (pss_cons (ps_fld (pv 0) pe_int rfl) (pss_cons (ps_fld (pv 0) pe_int rfl) (pss_cons (ps_fld (pv 0) (pv 2) rfl) (pss_cons (ps_fld (pv 0) pe_non rfl) (pss_cons (ps_fld (pv 0) pe_int rfl) (pss_cons (ps_fld (pv 0) pe_int rfl) (pss_cons (ps_fld (pv 0) pe_bl rfl) (pss_one (ps_fld (pv 0) pe_int rfl)))))))))))))))), ?_⟩
  exact (ss_seq (ss_if (st_or (st_not (st_b (se_call (sa_cons se_var (sa_cons se_int sa_nil))))) (st_or (st_test (se_op os_ge se_var se_int)) (st_or (st_not (st_b (se_call (sa_cons se_var (sa_cons se_int sa_nil))))) (st_test (se_op os_gt se_var se_int))))) (ss_raise rfl) ss_next) (ss_seq (ss_if (st_not (st_b (se_call (sa_cons se_var (sa_cons se_int sa_nil))))) (ss_raise rfl) ss_next) (ss_seq (ss_fl (by decide +kernel) ⟨⟨T.cl_Giver, T.n_Giver_base⟩, trivial⟩ se_var se_var) (ss_seq (ss_fl (by decide +kernel) ⟨⟨T.cl_Giver, T.n_Giver_most⟩, trivial⟩ se_var se_var) (ss_seq (ss_fl (by decide +kernel) ⟨⟨T.cl_Giver, T.n_Giver_first_wait⟩, trivial⟩ se_var se_var) (ss_seq (ss_fl (by decide +kernel) ⟨⟨T.cl_Giver, T.n_Giver_wait⟩, trivial⟩ se_var se_var) (ss_seq (ss_fl (by decide +kernel) ⟨⟨T.cl_Giver, T.n_Giver_kept⟩, trivial⟩ se_var (se_lst (sa_cons (se_strS (by decide +kernel)) sa_nil))) (ss_seq (ss_fl (by decide +kernel) ⟨⟨T.cl_Giver, T.n_Giver_sent⟩, trivial⟩ se_var se_int) (ss_seq (ss_fl (by decide +kernel) ⟨⟨T.cl_Giver, T.n_Giver_reach⟩, trivial⟩ se_var se_int) (ss_seq (ss_fl (by decide +kernel) ⟨⟨T.cl_Giver, T.n_Giver_pace⟩, trivial⟩ se_var se_var) (ss_seq (ss_fl (by decide +kernel) ⟨⟨T.cl_Giver, T.n_Giver_since⟩, trivial⟩ se_var se_non) (ss_seq (ss_fl (by decide +kernel) ⟨⟨T.cl_Giver, T.n_Giver_tried⟩, trivial⟩ se_var se_int) (ss_seq (ss_fl (by decide +kernel) ⟨⟨T.cl_Giver, T.n_Giver_passed⟩, trivial⟩ se_var se_int) (ss_seq (ss_fl (by decide +kernel) ⟨⟨T.cl_Giver, T.n_Giver_finished⟩, ⟨T.cl_Talk, T.n_Talk_finished⟩, trivial⟩ se_var se_bl) (ss_fl (by decide +kernel) ⟨⟨T.cl_Giver, T.n_Giver_now⟩, trivial⟩ se_var se_int)))))))))))))))
abbrev s_is_number_talks : Stmt := topS 49
abbrev N_is_number_talks : List Str := ["thing", "beyond"]
theorem sc_is_number_talks : FnScope N_is_number_talks ["thing", "beyond"] (defScope s_is_number_talks) := ⟨rfl, rfl, rfl, by decide +kernel, rfl, by decide +kernel, by decide +kernel⟩
theorem ok_is_number_talks {P : Program} {w : World} {K : PySem.W.Frag} {mg : Str → Option Value} {base : Heap} {a : Addr} {fd : FuncData} {ca : String → Addr} (T : Txt K mg ca) (F : Fun K "is_number" "is_number" s_is_number_talks a fd)  :
    FnOk P w K mg base (L2.CX P w) 1 a fd ["thing", "beyond"] (SpF K ca F_is_number_talks) := by
  refine SM.Fn.ofF F sc_is_number_talks rfl fun cdv A outer s H E hr => ?_
  have nd := sc_is_number_talks.nd
  refine ⟨_, (pss_one (ps_ret (pe_and (pe_callB (call_isiA (K := K)) (by rfl) T.b_isinstance (by decide +kernel) (pa_cons (pv 0) (pa_cons (pe_bltn (v := .ty "int") (by rfl) T.b_int (by decide +kernel) rfl) pa_nil))) (pe_and (pe_not (pe_callB (call_isiA (K := K)) (by rfl) T.b_isinstance (by decide +kernel) (pa_cons (pv 0) (pa_cons (pe_bltn (v := .ty "bool") (by rfl) T.b_bool (by decide +kernel) rfl) pa_nil)))) (pe_one (pe_chain op_leU op_ltU pe_int (pv 0) (pv 1))))))), ?_⟩
  exact (ss_ret (se_and (se_cb (cs_isi T.isO T.isX T.isT) (sa_cons se_var (sa_cons se_ty sa_nil))) (se_and (se_not (se_cb (cs_isi T.isO T.isX T.isT) (sa_cons se_var (sa_cons se_ty sa_nil)))) (se_ch os_le os_lt se_int se_var se_var))))
abbrev s_Talk___init__ : Stmt := inClass (topS 52) 0
abbrev N_Talk___init__ : List Str := ["self", "here", "there", "first", "tick", "opening"]
theorem sc_Talk___init__ : FnScope N_Talk___init__ ["self", "here", "there", "first", "tick", "opening"] (defScope s_Talk___init__) := ⟨rfl, rfl, rfl, by decide +kernel, rfl, by decide +kernel, by decide +kernel⟩
theorem ok_Talk___init__ {P : Program} {w : World} {K : PySem.W.Frag} {mg : Str → Option Value} {base : Heap} {a : Addr} {fd : FuncData} {ca : String → Addr} (T : Txt K mg ca) (F : FunD K "__init__" "Talk.__init__" (defArgs s_Talk___init__) (defBody s_Talk___init__) (defScope s_Talk___init__) [V.non] [] a fd) (M_Giver : Mx P w K mg base 2 "Giver" (ca "Giver") (SpF K ca F_Giver___init__)) (M_Talk_begin_taker : SM.Mt P w K mg base 4 (ca "Talk") "begin_taker" (SpF K ca F_Talk_begin_taker)) (C_is_number_talks : Dx P w K mg base 1 "is_number_talks" (SpF K ca F_is_number_talks)) (C_need_tick : Dx P w K mg base 1 "need_tick" (SpF K ca F_need_tick)) :
    FnOk P w K mg base (L2.CX P w) 5 a fd ["self", "here", "there", "first", "tick", "opening"] (SpF K ca F_Talk___init__) := by
  refine SM.Fn.ofFD F sc_Talk___init__ rfl fun cdv A outer s H E hr => ?_
  have nd := sc_Talk___init__.nd
  refine ⟨_, (pss_cons (ps_if (PW.pt (pw_or (pt_not (pt_val (pe_dx C_is_number_talks (takes_of rfl rfl rfl rfl) hr (by decide) rfl (pa_cons (pv 1) (pa_cons pe_int pa_nil))))) (pw_or1 (pt_not (pt_val (pe_dx C_is_number_talks (takes_of rfl rfl rfl rfl) hr (by decide) rfl (pa_cons (pv 2) (pa_cons pe_int pa_nil)))))))) (pss_one (DL.ps_raiseC rfl (takes_of rfl rfl rfl rfl) (pmk_own PySem.F.excBase_ValueError T.e_NoPort T.g_NoPort T.k_NoPort (raises_own T.b_NoPort T.t_NoPort) rfl))) pss_nil) (pss_cons (ps_if (pt_not (pt_val (pe_dx C_is_number_talks (takes_of rfl rfl rfl rfl) hr (by decide) rfl (pa_cons (pv 3) (pa_cons (pe_glob (v := .int 4294967296) rfl T.c_SIZE_talks.choose_spec ⟨_, rfl⟩) pa_nil))))) (pss_one (DL.ps_raiseC rfl (takes_of rfl rfl rfl rfl) (pmk_own PySem.F.excBase_ValueError T.e_NoNumber T.g_NoNumber T.k_NoNumber (raises_own T.b_NoNumber T.t_NoNumber) rfl))) pss_nil) (pss_cons (ps_expr (pe_dx C_need_tick (takes_of rfl rfl rfl rfl) hr (by decide) rfl (pa_cons (pv 4) (pa_cons pe_int pa_nil)))) (pss_cons (ps_fld (pv 0) (pv 1) rfl) (pss_cons (ps_fld (pv 0) (pv 2) rfl) (pss_cons (ps_fld (pv 0) (pv 3) rfl) (pss_cons (ps_fld (pv 0) (pe_mx M_Giver (takes_of rfl rfl rfl rfl) hr (by decide) rfl (pa_cons (pv 3) (pa_cons (pe_glob (v := .int 32) rfl T.c_MOST_ITEMS.choose_spec ⟨_, rfl⟩) (pa_cons (pe_glob (v := .int 4) rfl T.c_FIRST_WAIT.choose_spec ⟨_, rfl⟩) pa_nil)))) rfl) (pss_cons (ps_fld (pv 0) pe_non rfl) (pss_cons (ps_fld (pv 0) pe_non rfl) (pss_cons (ps_fld (pv 0) (pv 4) rfl) (pss_cons (ps_fld (pv 0) pe_str rfl) (pss_cons (ps_fld (pv 0) pe_bl rfl) (pss_cons (ps_fld (pv 0) pe_non rfl) (pss_one (ps_if (pt_cmpR op_notU (pv 5) pe_non (nomark _)) (pss_one (ps_expr (pe_mtX M_Talk_begin_taker (takes_of rfl rfl rfl rfl) hr (by decide) T.cl_Talk (pv 0) (pa_cons (pe_fld (pv 5) rfl) pa_nil)))) pss_nil))))))))))))))), ?_⟩
  exact (ss_seq (ss_if (st_or (st_not (st_b (se_call (sa_cons se_var (sa_cons se_int sa_nil))))) (st_not (st_b (se_call (sa_cons se_var (sa_cons se_int sa_nil)))))) (ss_raise rfl) ss_next) (ss_seq (ss_if (st_not (st_b (se_call (sa_cons se_var (sa_cons se_int sa_nil))))) (ss_raise rfl) ss_next) (ss_seq (ss_drop (se_call (sa_cons se_var (sa_cons se_int sa_nil)))) (ss_seq (ss_fl (by decide +kernel) ⟨⟨T.cl_Talk, T.n_Talk_here⟩, trivial⟩ se_var se_var) (ss_seq (ss_fl (by decide +kernel) ⟨⟨T.cl_Talk, T.n_Talk_there⟩, trivial⟩ se_var se_var) (ss_seq (ss_fl (by decide +kernel) ⟨⟨T.cl_Talk, T.n_Talk_begun_with⟩, trivial⟩ se_var se_var) (ss_seq (ss_fl (by decide +kernel) ⟨⟨T.cl_Talk, T.n_Talk_giver⟩, trivial⟩ se_var (se_make (sa_cons se_var (sa_cons se_int (sa_cons se_int sa_nil))))) (ss_seq (ss_fl (by decide +kernel) ⟨⟨T.cl_Talk, T.n_Talk_taker⟩, trivial⟩ se_var se_non) (ss_seq (ss_fl (by decide +kernel) ⟨⟨T.cl_Talk, T.n_Talk_other_first⟩, trivial⟩ se_var se_non) (ss_seq (ss_fl (by decide +kernel) ⟨⟨T.cl_Talk, T.n_Talk_last_tick⟩, trivial⟩ se_var se_var) (ss_seq (ss_fl (by decide +kernel) ⟨⟨T.cl_Talk, T.n_Talk_ending⟩, trivial⟩ se_var (se_strS (by decide +kernel))) (ss_seq (ss_fl (by decide +kernel) ⟨⟨T.cl_Giver, T.n_Giver_finished⟩, ⟨T.cl_Talk, T.n_Talk_finished⟩, trivial⟩ se_var se_bl) (ss_seq (ss_fl (by decide +kernel) ⟨⟨T.cl_Talk, T.n_Talk_rested⟩, trivial⟩ se_var se_non) (ss_if (st_test (se_op os_isnot se_var se_non)) (ss_drop (meth_one (by decide +kernel) se_var (sa_cons (se_fld (by decide +kernel) ⟨⟨T.cl_Segment, T.n_Segment_number⟩, trivial⟩ se_var) sa_nil))) ss_next))))))))))))))
abbrev s_l_first : Stmt := topS 57
abbrev N_l_first : List Str := ["_law_draw_here", "_law_kind"]
theorem sc_l_first : FnScope N_l_first ["_law_draw_here"] (defScope s_l_first) := ⟨rfl, rfl, rfl, by decide +kernel, rfl, by decide +kernel, by decide +kernel⟩
theorem ok_l_first {P : Program} {w : World} {K : PySem.W.Frag} {mg : Str → Option Value} {base : Heap} {a : Addr} {fd : FuncData} {ca : String → Addr} (T : Txt K mg ca) (F : Fun K "_law_first" "_law_first" s_l_first a fd) (C_l_next : Dx P w K mg base 2 "_law_next" (SpF K ca F_l_next)) :
    FnOk P w K mg base (L2.CX P w) 3 a fd ["_law_draw_here"] (SpF K ca F_l_first) := by
  refine SM.Fn.ofF F sc_l_first rfl fun cdv A outer s H E hr => ?_
  have nd := sc_l_first.nd
  refine ⟨_, (pss_cons (ps_set (i := 1) nd rfl (by first | exact Or.inl rfl | exact Or.inr rfl) (pe_dx C_l_next (takes_of rfl rfl rfl rfl) hr (by decide) rfl (pa_cons (pv 0) (pa_cons pe_int pa_nil)))) (pss_cons (ps_if (pt_cmpR (op_eqPK (K := K) (DL.room65 hr)) (pv 1) pe_int (nomark _)) (pss_one (ps_ret (pe_dx C_l_next (takes_of rfl rfl rfl rfl) hr (by decide) rfl (pa_cons (pv 0) (pa_cons pe_int pa_nil))))) pss_nil) (pss_cons (ps_if (pt_cmpR (op_eqPK (K := K) (DL.room65 hr)) (pv 1) pe_int (nomark _)) (pss_one (ps_ret (pe_op op_subU (pe_op op_subU (pe_op op_powU pe_int pe_int) pe_int) (pe_dx C_l_next (takes_of rfl rfl rfl rfl) hr (by decide) rfl (pa_cons (pv 0) (pa_cons pe_int pa_nil)))))) pss_nil) (pss_one (ps_ret (pe_op (op_addU (K := K)) (pe_op (op_mulA (K := K)) (pe_dx C_l_next (takes_of rfl rfl rfl rfl) hr (by decide) rfl (pa_cons (pv 0) (pa_cons pe_int pa_nil))) pe_int) (pe_dx C_l_next (takes_of rfl rfl rfl rfl) hr (by decide) rfl (pa_cons (pv 0) (pa_cons pe_int pa_nil))))))))), ?_⟩
  exact (ss_seq (ss_set (se_call (sa_cons se_var (sa_cons se_int sa_nil)))) (ss_seq (ss_if (st_test (se_op os_eq se_var se_int)) (ss_ret (se_call (sa_cons se_var (sa_cons se_int sa_nil)))) ss_next) (ss_seq (ss_if (st_test (se_op os_eq se_var se_int)) (ss_ret (se_op os_sub (se_op os_sub (se_op os_pow se_int se_int) se_int) (se_call (sa_cons se_var (sa_cons se_int sa_nil))))) ss_next) (ss_ret (se_op os_add (se_op os_mul (se_call (sa_cons se_var (sa_cons se_int sa_nil))) se_int) (se_call (sa_cons se_var (sa_cons se_int sa_nil))))))))
abbrev s_l_pair : Stmt := topS 60
abbrev N_l_pair : List Str := ["_law_draw_here", "_law_tick", "_law_ports", "_law_firsts", "_law_one", "_law_other"]
theorem sc_l_pair : FnScope N_l_pair ["_law_draw_here", "_law_tick"] (defScope s_l_pair) := ⟨rfl, rfl, rfl, by decide +kernel, rfl, by decide +kernel, by decide +kernel⟩
theorem ok_l_pair {P : Program} {w : World} {K : PySem.W.Frag} {mg : Str → Option Value} {base : Heap} {a : Addr} {fd : FuncData} {ca : String → Addr} (T : Txt K mg ca) (F : Fun K "_law_pair" "_law_pair" s_l_pair a fd) (M_Talk : Mx P w K mg base 5 "Talk" (ca "Talk") (SpF K ca F_Talk___init__)) (MD_Talk : DL.MxD P w K mg base 5 "Talk" (ca "Talk") (SpF K ca F_Talk___init__) [V.non]) (M_Talk_due : SM.Mt P w K mg base 7 (ca "Talk") "due" (SpF K ca F_Talk_due)) (M_Talk_heard : SM.Mt P w K mg base 7 (ca "Talk") "heard" (SpF K ca F_Talk_heard)) (C_l_first : Dx P w K mg base 3 "_law_first" (SpF K ca F_l_first)) (C_l_next : Dx P w K mg base 2 "_law_next" (SpF K ca F_l_next)) :
    FnOk P w K mg base (L2.CX P w) 8 a fd ["_law_draw_here", "_law_tick"] (SpF K ca F_l_pair) := by
  refine SM.Fn.ofF F sc_l_pair rfl fun cdv A outer s H E hr => ?_
  have nd := sc_l_pair.nd
  refine ⟨_, (pss_cons (ps_set (i := 2) nd rfl (by first | exact Or.inl rfl | exact Or.inr rfl) (pe_tup (pa_cons (pe_dx C_l_next (takes_of rfl rfl rfl rfl) hr (by decide) rfl (pa_cons (pv 0) (pa_cons pe_int pa_nil))) (pa_cons (pe_dx C_l_next (takes_of rfl rfl rfl rfl) hr (by decide) rfl (pa_cons (pv 0) (pa_cons pe_int pa_nil))) pa_nil)))) (pss_cons (ps_set (i := 3) nd rfl (by first | exact Or.inl rfl | exact Or.inr rfl) (pe_tup (pa_cons (pe_dx C_l_first (takes_of rfl rfl rfl rfl) hr (by decide) rfl (pa_cons (pv 0) pa_nil)) (pa_cons (pe_dx C_l_first (takes_of rfl rfl rfl rfl) hr (by decide) rfl (pa_cons (pv 0) pa_nil)) pa_nil)))) (pss_cons (ps_set (i := 4) nd rfl (by first | exact Or.inl rfl | exact Or.inr rfl) (DL.pe_mxD MD_Talk (takes_of rfl rfl rfl rfl) hr (by decide) rfl (pa_cons (pe_ix (ix_U (K := K)) (pv 2) pe_int (fun _ _ => rfl)) (pa_cons (pe_ix (ix_U (K := K)) (pv 2) pe_int (fun _ _ => rfl)) (pa_cons (pe_ix (ix_U (K := K)) (pv 3) pe_int (fun _ _ => rfl)) (pa_cons (pv 1) pa_nil)))))) (pss_cons (ps_set (i := 5) nd rfl (by first | exact Or.inl rfl | exact Or.inr rfl) (pe_mx M_Talk (takes_of rfl rfl rfl rfl) hr (by decide) rfl (pa_cons (pe_ix (ix_U (K := K)) (pv 2) pe_int (fun _ _ => rfl)) (pa_cons (pe_ix (ix_U (K := K)) (pv 2) pe_int (fun _ _ => rfl)) (pa_cons (pe_ix (ix_U (K := K)) (pv 3) pe_int (fun _ _ => rfl)) (pa_cons (pv 1) (pa_cons (pe_ix (ix_U (K := K)) (pe_mtX M_Talk_due (takes_of rfl rfl rfl rfl) hr (by decide) T.cl_Talk (pv 4) (pa_cons (pv 1) pa_nil)) pe_int (fun _ _ => rfl)) pa_nil))))))) (pss_cons (ps_expr (pe_mtX M_Talk_heard (takes_of rfl rfl rfl rfl) hr (by decide) T.cl_Talk (pv 5) (pa_cons (pe_ix (ix_U (K := K)) (pe_mtX M_Talk_heard (takes_of rfl rfl rfl rfl) hr (by decide) T.cl_Talk (pv 4) (pa_cons (pe_ix (ix_U (K := K)) (pe_mtX M_Talk_due (takes_of rfl rfl rfl rfl) hr (by decide) T.cl_Talk (pv 5) (pa_cons (pv 1) pa_nil)) pe_int (fun _ _ => rfl)) (pa_cons (pv 1) pa_nil))) pe_int (fun _ _ => rfl)) (pa_cons (pv 1) pa_nil)))) (pss_one (ps_ret (pe_lst (pa_cons (pv 4) (pa_cons (pv 5) (pa_cons (pv 2) (pa_cons (pv 3) pa_nil)))))))))))), ?_⟩
  exact (ss_seq (ss_set (se_tup (sa_cons (se_call (sa_cons se_var (sa_cons se_int sa_nil))) (sa_cons (se_call (sa_cons se_var (sa_cons se_int sa_nil))) sa_nil)))) (ss_seq (ss_set (se_tup (sa_cons (se_call (sa_cons se_var sa_nil)) (sa_cons (se_call (sa_cons se_var sa_nil)) sa_nil)))) (ss_seq (ss_set (se_makeD (sa_cons (se_op os_ix se_var se_int) (sa_cons (se_op os_ix se_var se_int) (sa_cons (se_op os_ix se_var se_int) (sa_cons se_var sa_nil)))))) (ss_seq (ss_set (se_make (sa_cons (se_op os_ix se_var se_int) (sa_cons (se_op os_ix se_var se_int) (sa_cons (se_op os_ix se_var se_int) (sa_cons se_var (sa_cons (se_op os_ix (meth_one (by decide +kernel) se_var (sa_cons se_var sa_nil)) se_int) sa_nil))))))) (ss_seq (ss_drop (meth_one (by decide +kernel) se_var (sa_cons (se_op os_ix (meth_one (by decide +kernel) se_var (sa_cons (se_op os_ix (meth_one (by decide +kernel) se_var (sa_cons se_var sa_nil)) se_int) (sa_cons se_var sa_nil))) se_int) (sa_cons se_var sa_nil)))) (ss_ret (se_lst (sa_cons se_var (sa_cons se_var (sa_cons se_var (sa_cons se_var sa_nil)))))))))))
abbrev s_l_right : Stmt := topS 64
abbrev N_l_right : List Str := ["_law_draw_here", "_law_tick", "_law_one", "_law_other", "_law_ports", "_law_firsts", "_law_talks", "_law_rows", "_law_end", "_law_since", "_law_last", "_law_segment", "_law_number", "_law_late"]
theorem sc_l_right : FnScope N_l_right ["_law_draw_here"] (defScope s_l_right) := ⟨rfl, rfl, rfl, by decide +kernel, rfl, by decide +kernel, by decide +kernel⟩
theorem ok_l_right {P : Program} {w : World} {K : PySem.W.Frag} {mg : Str → Option Value} {base : Heap} {a : Addr} {fd : FuncData} {ca : String → Addr} (T : Txt K mg ca) (F : Fun K "_law_right" "_law_right" s_l_right a fd) (M_Segment : Mx P w K mg base 3 "Segment" (ca "Segment") (SpF K ca F_Segment___init__)) (M_Talk_finish : SM.Mt P w K mg base 5 (ca "Talk") "finish" (SpF K ca F_Talk_finish)) (M_Talk_heard : SM.Mt P w K mg base 7 (ca "Talk") "heard" (SpF K ca F_Talk_heard)) (M_Talk_read : SM.Mt P w K mg base 3 (ca "Talk") "read" (SpF K ca F_Talk_read)) (M_Talk_ready : SM.Mt P w K mg base 2 (ca "Talk") "ready" (SpF K ca F_Talk_ready)) (M_Talk_stand : SM.Mt P w K mg base 3 (ca "Talk") "stand" (SpF K ca F_Talk_stand)) (M_Talk_write : SM.Mt P w K mg base 5 (ca "Talk") "write" (SpF K ca F_Talk_write)) (C_l_brought : Dx P w K mg base 8 "_law_brought" (SpF K ca F_l_brought)) (C_l_bytes : Dx P w K mg base 3 "_law_bytes" (SpF K ca F_l_bytes)) (C_l_closes : Dx P w K mg base 8 "_law_closes" (SpF K ca F_l_closes)) (C_l_left_right : Dx P w K mg base 9 "_law_left_right" (SpF K ca F_l_left_right)) (C_l_moved : Dx P w K mg base 1 "_law_moved" (SpF K ca F_l_moved)) (C_l_next : Dx P w K mg base 2 "_law_next" (SpF K ca F_l_next)) (C_l_pair : Dx P w K mg base 8 "_law_pair" (SpF K ca F_l_pair)) :
    FnOk P w K mg base (L2.CX P w) 10 a fd ["_law_draw_here"] (SpF K ca F_l_right) := by
  refine SM.Fn.ofF F sc_l_right rfl fun cdv A outer s H E hr => ?_
  have nd := sc_l_right.nd
  refine ⟨_, (pss_cons (ps_set (i := 1) nd rfl (by first | exact Or.inl rfl | exact Or.inr rfl) (pe_dx C_l_next (takes_of rfl rfl rfl rfl) hr (by decide) rfl (pa_cons (pv 0) (pa_cons pe_int pa_nil)))) (pss_cons (ps_asg (pe_dx C_l_pair (takes_of rfl rfl rfl rfl) hr (by decide) rfl (pa_cons (pv 0) (pa_cons (pv 1) pa_nil))) (pg_lst rfl (pgs_cons (pg_name (i := 2) nd rfl (by first | exact Or.inl rfl | exact Or.inr rfl)) (pgs_cons (pg_name (i := 3) nd rfl (by first | exact Or.inl rfl | exact Or.inr rfl)) (pgs_cons (pg_name (i := 4) nd rfl (by first | exact Or.inl rfl | exact Or.inr rfl)) (pgs_cons (pg_name (i := 5) nd rfl (by first | exact Or.inl rfl | exact Or.inr rfl)) pgs_nil)))))) (pss_cons (ps_set (i := 6) nd rfl (by first | exact Or.inl rfl | exact Or.inr rfl) (pe_lst (pa_cons (pv 2) (pa_cons (pv 3) pa_nil)))) (pss_cons (ps_set (i := 7) nd rfl (by first | exact Or.inl rfl | exact Or.inr rfl) (pe_lst (pa_cons (pe_dx C_l_bytes (takes_of rfl rfl rfl rfl) hr (by decide) rfl (pa_cons (pv 0) (pa_cons (pe_dx C_l_next (takes_of rfl rfl rfl rfl) hr (by decide) rfl (pa_cons (pv 0) (pa_cons pe_int pa_nil))) pa_nil))) (pa_cons (pe_dx C_l_bytes (takes_of rfl rfl rfl rfl) hr (by decide) rfl (pa_cons (pv 0) (pa_cons (pe_dx C_l_next (takes_of rfl rfl rfl rfl) hr (by decide) rfl (pa_cons (pv 0) (pa_cons pe_int pa_nil))) pa_nil))) pa_nil)))) (pss_cons (ps_for (passes_of rfl) rfl (pi_range1 rfl T.b_range (pa_cons pe_int pa_nil)) (pg_name (i := 8) nd rfl (by first | exact Or.inl rfl | exact Or.inr rfl)) (pss_cons (ps_if (pt_cmpR (op_nePK (K := K) (DL.room65 hr)) (pe_mtX M_Talk_write (takes_of rfl rfl rfl rfl) hr (by decide) T.cl_Talk (pe_ix (ix_U (K := K)) (pv 6) (pv 8) (fun _ _ => rfl)) (pa_cons (pe_ix (ix_U (K := K)) (pv 7) (pv 8) (fun _ _ => rfl)) pa_nil)) (pe_callB (call_lenU (K := K)) (by rfl) T.b_len (by decide +kernel) (pa_cons (pe_ix (ix_U (K := K)) (pv 7) (pv 8) (fun _ _ => rfl)) pa_nil)) (nomark _)) (pss_one (ps_ret pe_bl)) pss_nil) (pss_one (ps_expr (pe_dx C_l_brought (takes_of rfl rfl rfl rfl) hr (by decide) rfl (pa_cons (pv 6) (pa_cons (pv 8) (pa_cons (pv 1) (pa_cons pe_int pa_nil))))))))) (pss_cons (ps_expr (pe_mtX0 M_Talk_finish (takes_of rfl rfl rfl rfl) hr (by decide) T.cl_Talk (pv 2))) (pss_cons (ps_if (PW.pt (pw_or (pt_cmpR (op_nePK (K := K) (DL.room65 hr)) (pe_mtX0 M_Talk_stand (takes_of rfl rfl rfl rfl) hr (by decide) T.cl_Talk (pv 2)) pe_str (nomark _)) (pw_or (pt_cmpR (op_nePK (K := K) (DL.room65 hr)) (pe_mtX M_Talk_write (takes_of rfl rfl rfl rfl) hr (by decide) T.cl_Talk (pv 2) (pa_cons (pe_tup (pa_cons pe_int pa_nil)) pa_nil)) pe_int (nomark _)) (pw_or1 (pt_cmpR (op_nePK (K := K) (DL.room65 hr)) (pe_mtX0 M_Talk_stand (takes_of rfl rfl rfl rfl) hr (by decide) T.cl_Talk (pv 3)) pe_str (nomark _)))))) (pss_one (ps_ret pe_bl)) pss_nil) (pss_cons (ps_set (i := 1) nd rfl (by first | exact Or.inl rfl | exact Or.inr rfl) (pe_op (op_addU (K := K)) (pe_op (op_addU (K := K)) (pv 1) pe_int) (pe_dx C_l_next (takes_of rfl rfl rfl rfl) hr (by decide) rfl (pa_cons (pv 0) (pa_cons pe_int pa_nil))))) (pss_cons (ps_expr (pe_dx C_l_brought (takes_of rfl rfl rfl rfl) hr (by decide) rfl (pa_cons (pv 6) (pa_cons pe_int (pa_cons (pv 1) (pa_cons pe_int pa_nil)))))) (pss_cons (ps_if (PW.pt (pw_or (pt_cmpR (op_nePK (K := K) (DL.room65 hr)) (pe_mtX0 M_Talk_stand (takes_of rfl rfl rfl rfl) hr (by decide) T.cl_Talk (pv 2)) pe_str (nomark _)) (pw_or1 (pt_cmpR (op_nePK (K := K) (DL.room65 hr)) (pe_mtX0 M_Talk_stand (takes_of rfl rfl rfl rfl) hr (by decide) T.cl_Talk (pv 3)) pe_str (nomark _))))) (pss_one (ps_ret pe_bl)) pss_nil) (pss_cons (ps_set (i := 9) nd rfl (by first | exact Or.inl rfl | exact Or.inr rfl) (pe_op (op_addU (K := K)) (pv 1) (pe_dx C_l_next (takes_of rfl rfl rfl rfl) hr (by decide) rfl (pa_cons (pv 0) (pa_cons pe_int pa_nil))))) (pss_cons (ps_set (i := 10) nd rfl (by first | exact Or.inl rfl | exact Or.inr rfl) (pe_dx C_l_left_right (takes_of rfl rfl rfl rfl) hr (by decide) rfl (pa_cons (pv 6) (pa_cons (pv 9) (pa_cons (pe_dx C_l_next (takes_of rfl rfl rfl rfl) hr (by decide) rfl (pa_cons (pv 0) (pa_cons pe_int pa_nil))) pa_nil))))) (pss_cons (ps_if (pt_cmpR op_ltU (pv 10) pe_int (nomark _)) (pss_one (ps_ret pe_bl)) pss_nil) (pss_cons (ps_set (i := 11) nd rfl (by first | exact Or.inl rfl | exact Or.inr rfl) pe_non) (pss_cons (ps_if (pt_cmpR (op_eqPK (K := K) (DL.room65 hr)) (pe_dx C_l_next (takes_of rfl rfl rfl rfl) hr (by decide) rfl (pa_cons (pv 0) (pa_cons pe_int pa_nil))) pe_int (nomark _)) (pss_cons (ps_set (i := 12) nd rfl (by first | exact Or.inl rfl | exact Or.inr rfl) (pe_dx C_l_moved (takes_of rfl rfl rfl rfl) hr (by decide) rfl (pa_cons (pe_ix (ix_U (K := K)) (pv 5) pe_int (fun _ _ => rfl)) (pa_cons (pe_op (op_addU (K := K)) (pe_op (op_addU (K := K)) pe_int (pe_callB (call_lenU (K := K)) (by rfl) T.b_len (by decide +kernel) (pa_cons (pe_ix (ix_U (K := K)) (pv 7) pe_int (fun _ _ => rfl)) pa_nil))) (pe_dx C_l_next (takes_of rfl rfl rfl rfl) hr (by decide) rfl (pa_cons (pv 0) (pa_cons pe_int pa_nil)))) pa_nil)))) (pss_one (ps_set (i := 11) nd rfl (by first | exact Or.inl rfl | exact Or.inr rfl) (pe_mx M_Segment (takes_of rfl rfl rfl rfl) hr (by decide) rfl (pa_cons (pe_ix (ix_U (K := K)) (pv 4) pe_int (fun _ _ => rfl)) (pa_cons (pe_ix (ix_U (K := K)) (pv 4) pe_int (fun _ _ => rfl)) (pa_cons pe_str (pa_cons (pv 12) (pa_cons pe_int (pa_cons pe_int (pa_cons (pe_tup pa_nil) pa_nil))))))))))) pss_nil) (pss_cons (ps_if (PW.pt (pw_or (pt_not (pt_val (pe_dx C_l_closes (takes_of rfl rfl rfl rfl) hr (by decide) rfl (pa_cons (pv 2) (pa_cons (pv 9) (pa_cons (pv 11) pa_nil)))))) (pw_or1 (pt_not (pt_val (pe_dx C_l_closes (takes_of rfl rfl rfl rfl) hr (by decide) rfl (pa_cons (pv 3) (pa_cons (pv 10) (pa_cons pe_non pa_nil))))))))) (pss_one (ps_ret pe_bl)) pss_nil) (pss_cons (ps_if (PW.pt (pw_or (pt_cmpR (op_nePK (K := K) (DL.room65 hr)) (pe_mtX M_Talk_read (takes_of rfl rfl rfl rfl) hr (by decide) T.cl_Talk (pv 2) (pa_cons pe_int pa_nil)) (pe_ix (ix_U (K := K)) (pv 7) pe_int (fun _ _ => rfl)) (nomark _)) (pw_or (pt_cmpR (op_nePK (K := K) (DL.room65 hr)) (pe_mtX M_Talk_read (takes_of rfl rfl rfl rfl) hr (by decide) T.cl_Talk (pv 3) (pa_cons pe_int pa_nil)) (pe_ix (ix_U (K := K)) (pv 7) pe_int (fun _ _ => rfl)) (nomark _)) (pw_or1 (pt_cmpR (op_nePK (K := K) (DL.room65 hr)) (pe_op (op_addU (K := K)) (pe_mtX0 M_Talk_ready (takes_of rfl rfl rfl rfl) hr (by decide) T.cl_Talk (pv 2)) (pe_mtX0 M_Talk_ready (takes_of rfl rfl rfl rfl) hr (by decide) T.cl_Talk (pv 3))) pe_int (nomark _)))))) (pss_one (ps_ret pe_bl)) pss_nil) (pss_cons (ps_set (i := 13) nd rfl (by first | exact Or.inl rfl | exact Or.inr rfl) (pe_mx M_Segment (takes_of rfl rfl rfl rfl) hr (by decide) rfl (pa_cons (pe_ix (ix_U (K := K)) (pv 4) pe_int (fun _ _ => rfl)) (pa_cons (pe_ix (ix_U (K := K)) (pv 4) pe_int (fun _ _ => rfl)) (pa_cons pe_str (pa_cons (pe_ix (ix_U (K := K)) (pv 5) pe_int (fun _ _ => rfl)) (pa_cons (pe_dx C_l_moved (takes_of rfl rfl rfl rfl) hr (by decide) rfl (pa_cons (pe_ix (ix_U (K := K)) (pv 5) pe_int (fun _ _ => rfl)) (pa_cons pe_int pa_nil))) (pa_cons pe_int (pa_cons (pe_tup (pa_cons pe_int pa_nil)) pa_nil))))))))) (pss_one (ps_ret (pe_cmpR (op_eqPK (K := K) (DL.room65 hr)) (pe_mtX M_Talk_heard (takes_of rfl rfl rfl rfl) hr (by decide) T.cl_Talk (pv 2) (pa_cons (pv 13) (pa_cons (pe_op (op_addU (K := K)) (pv 10) pe_int) pa_nil))) (pe_lst pa_nil) (nomark _)))))))))))))))))))))), ?_⟩
  exact (ss_seq (ss_set (se_call (sa_cons se_var (sa_cons se_int sa_nil)))) (ss_seq (ss_asg (se_call (sa_cons se_var (sa_cons se_var sa_nil))) (sg_lst (sgs_cons sg_name (sgs_cons sg_name (sgs_cons sg_name (sgs_cons sg_name sgs_nil)))) rfl)) (ss_seq (ss_set (se_lst (sa_cons se_var (sa_cons se_var sa_nil)))) (ss_seq (ss_set (se_lst (sa_cons (se_call (sa_cons se_var (sa_cons (se_call (sa_cons se_var (sa_cons se_int sa_nil))) sa_nil))) (sa_cons (se_call (sa_cons se_var (sa_cons (se_call (sa_cons se_var (sa_cons se_int sa_nil))) sa_nil))) sa_nil)))) (ss_seq (ss_for (sw_r1 (sa_cons se_int sa_nil)) sg_name (ss_seq (ss_if (st_test (se_op os_ne (meth_one (by decide +kernel) (se_op os_ix se_var se_var) (sa_cons (se_op os_ix se_var se_var) sa_nil)) (se_cb cs_len (sa_cons (se_op os_ix se_var se_var) sa_nil)))) (ss_ret se_bl) ss_next) (ss_drop (se_call (sa_cons se_var (sa_cons se_var (sa_cons se_var (sa_cons se_int sa_nil)))))))) (ss_seq (ss_drop (meth_one (by decide +kernel) se_var sa_nil)) (ss_seq (ss_if (st_or (st_test (se_op os_ne (meth_one (by decide +kernel) se_var sa_nil) (se_strS (by decide +kernel)))) (st_or (st_test (se_op os_ne (meth_one (by decide +kernel) se_var (sa_cons (se_tup (sa_cons se_int sa_nil)) sa_nil)) se_int)) (st_test (se_op os_ne (meth_one (by decide +kernel) se_var sa_nil) (se_strS (by decide +kernel)))))) (ss_ret se_bl) ss_next) (ss_seq (ss_set (se_op os_add (se_op os_add se_var se_int) (se_call (sa_cons se_var (sa_cons se_int sa_nil))))) (ss_seq (ss_drop (se_call (sa_cons se_var (sa_cons se_int (sa_cons se_var (sa_cons se_int sa_nil)))))) (ss_seq (ss_if (st_or (st_test (se_op os_ne (meth_one (by decide +kernel) se_var sa_nil) (se_strS (by decide +kernel)))) (st_test (se_op os_ne (meth_one (by decide +kernel) se_var sa_nil) (se_strS (by decide +kernel))))) (ss_ret se_bl) ss_next) (ss_seq (ss_set (se_op os_add se_var (se_call (sa_cons se_var (sa_cons se_int sa_nil))))) (ss_seq (ss_set (se_call (sa_cons se_var (sa_cons se_var (sa_cons (se_call (sa_cons se_var (sa_cons se_int sa_nil))) sa_nil))))) (ss_seq (ss_if (st_test (se_op os_lt se_var se_int)) (ss_ret se_bl) ss_next) (ss_seq (ss_set se_non) (ss_seq (ss_if (st_test (se_op os_eq (se_call (sa_cons se_var (sa_cons se_int sa_nil))) se_int)) (ss_seq (ss_set (se_call (sa_cons (se_op os_ix se_var se_int) (sa_cons (se_op os_add (se_op os_add se_int (se_cb cs_len (sa_cons (se_op os_ix se_var se_int) sa_nil))) (se_call (sa_cons se_var (sa_cons se_int sa_nil)))) sa_nil)))) (ss_set (se_make (sa_cons (se_op os_ix se_var se_int) (sa_cons (se_op os_ix se_var se_int) (sa_cons (se_strS (by decide +kernel)) (sa_cons se_var (sa_cons se_int (sa_cons se_int (sa_cons (se_tup sa_nil) sa_nil)))))))))) ss_next) (ss_seq (ss_if (st_or (st_not (st_b (se_call (sa_cons se_var (sa_cons se_var (sa_cons se_var sa_nil)))))) (st_not (st_b (se_call (sa_cons se_var (sa_cons se_var (sa_cons se_non sa_nil))))))) (ss_ret se_bl) ss_next) (ss_seq (ss_if (st_or (st_test (se_op os_ne (meth_one (by decide +kernel) se_var (sa_cons se_int sa_nil)) (se_op os_ix se_var se_int))) (st_or (st_test (se_op os_ne (meth_one (by decide +kernel) se_var (sa_cons se_int sa_nil)) (se_op os_ix se_var se_int))) (st_test (se_op os_ne (se_op os_add (meth_one (by decide +kernel) se_var sa_nil) (meth_one (by decide +kernel) se_var sa_nil)) se_int)))) (ss_ret se_bl) ss_next) (ss_seq (ss_set (se_make (sa_cons (se_op os_ix se_var se_int) (sa_cons (se_op os_ix se_var se_int) (sa_cons (se_strS (by decide +kernel)) (sa_cons (se_op os_ix se_var se_int) (sa_cons (se_call (sa_cons (se_op os_ix se_var se_int) (sa_cons se_int sa_nil))) (sa_cons se_int (sa_cons (se_tup (sa_cons se_int sa_nil)) sa_nil))))))))) (ss_ret (se_op os_eq (meth_one (by decide +kernel) se_var (sa_cons se_var (sa_cons (se_op os_add se_var se_int) sa_nil))) (se_lst sa_nil)))))))))))))))))))))
abbrev s_law : Stmt := topS 65
abbrev N_law : List Str := ["_law_script", "_law_k"]
theorem sc_law : FnScope N_law ["_law_script"] (defScope s_law) := ⟨rfl, rfl, rfl, by decide +kernel, rfl, by decide +kernel, by decide +kernel⟩
theorem ok_law {P : Program} {w : World} {K : PySem.W.Frag} {mg : Str → Option Value} {base : Heap} {a : Addr} {fd : FuncData} {ca : String → Addr} (T : Txt K mg ca) (F : Fun K "law" "law" s_law a fd) (C_l_draw : Dx P w K mg base 2 "_law_draw" (SpF K ca F_l_draw)) (C_l_right : Dx P w K mg base 10 "_law_right" (SpF K ca F_l_right)) :
    FnOk P w K mg base CX0 11 a fd ["_law_script"] (SpF K ca F_law) := by
  refine SM.Fn.ofF0 F sc_law rfl fun cdv A outer s H E hr => ?_
  have nd := sc_law.nd
  refine ⟨_, (pss_cons (ps_for PassesOwn.never rfl (pi_range1 rfl T.b_range (pa_cons (pe_callB (call_max2U rfl) (by rfl) T.b_max (by decide +kernel) (pa_cons pe_int (pa_cons (pe_callB (call_min2U rfl) (by rfl) T.b_min (by decide +kernel) (pa_cons pe_int (pa_cons (pe_callB (call_lenU (K := K)) (by rfl) T.b_len (by decide +kernel) (pa_cons (pv 0) pa_nil)) pa_nil))) pa_nil))) pa_nil)) (pg_name (i := 1) nd rfl (by first | exact Or.inl rfl | exact Or.inr rfl)) (pss_one (ps_if (pt_not (pt_val (pe_dx0 C_l_right hr (by decide) rfl (pa_cons (pe_dx0 C_l_draw hr (by decide) rfl (pa_cons (pv 0) (pa_cons (pv 1) (pa_cons pe_int pa_nil)))) pa_nil)))) (pss_one (ps_ret pe_bl)) pss_nil))) (pss_one (ps_ret pe_bl))), ?_⟩
  exact (ss_seq (ss_for (sw_r1 (sa_cons (se_cb cs_max2 (sa_cons se_int (sa_cons (se_cb cs_min2 (sa_cons se_int (sa_cons (se_cb cs_len (sa_cons se_var sa_nil)) sa_nil))) sa_nil))) sa_nil)) sg_name (ss_if (st_not (st_b (se_call0 (sa_cons (se_call0 (sa_cons se_var (sa_cons se_var (sa_cons se_int sa_nil)))) sa_nil)))) (ss_ret se_bl) ss_next)) (ss_ret se_bl))
def spLaw (K : PySem.W.Frag) : Sp := fun vs H Q _ => ∃ (a : Addr) (ns : List Int), vs = [.ref a] ∧ SqL K H a (ns.map V.int) ∧ ns.length ≤ 63 ∧ ∀ H1, Q (.bl true) H1
theorem law_imp {K : PySem.W.Frag} {ca : String → Addr} : ∀ (vs : List V) (H : Hp) (Q : VK) (E : XK), spLaw K vs H Q E → SpF K ca F_law vs H Q E := fun vs H Q E ⟨a, ns, e, h, hl, k⟩ => by
  subst e
  obtain ⟨A, hA⟩ := law_true ns hl
  refine ⟨H, [], [], [.scr (ns.map D.int)], ⟨DL.Ex.refl H, rfl, List.nodup_nil, fun a h => by simp at h, fun i o a h => by simp at h⟩, .cons (.scr h RepL.of_ints) .nil, ?_⟩
  rw [hA]
  intro v F' m' H' _ _ r
  cases r
  exact k H'
theorem all_mk {l : PySem.W.OpenLaw} {w : World} {K : PySem.W.Frag} {h : Heap} {mg : Str → Option Value} {fa f0 f1 f2 f3 f4 f5 f6 f7 f8 f9 f10 f11 f12 f13 f14 f15 f16 f17 f18 f19 f20 f21 f22 f23 f24 f25 f26 f27 f28 f29 f30 f31 f32 f33 f34 f35 f36 f37 f38 f39 f40 f41 f42 f43 f44 f45 f46 f47 f48 f49 f50 f51 f52 f53 f54 f55 f56 f57 f58 f59 f60 f61 f62 f63 f64 f65 : Addr} (X : K.In h) (G : h.Ns mainGlobals mg) (hfa : mg "law" = some (.ref fa))
    {od0 an0 od1 an1 od2 an2 od3 an3 od4 an4 od5 an5 od6 an6 od7 an7 od8 an8 od9 an9 od10 an10 od11 an11 od12 an12 od13 an13 od14 an14 od15 an15 od16 an16 od17 an17 od18 an18 od19 an19 od20 an20 od21 an21 od22 an22 od23 an23 od24 an24 od25 an25 od26 an26 od27 an27 od28 an28 od29 an29 od30 an30 od31 an31 od32 an32 od33 an33 od34 an34 od35 an35 od36 an36 od37 an37 od38 an38 od39 an39 od40 an40 od41 an41 od42 an42 od43 an43 od44 an44 od45 an45 od46 an46 od47 an47 od48 an48 od49 an49 od50 an50 od51 an51 od52 an52 od53 an53 od54 an54 od55 an55 od56 an56 od57 an57 od58 an58 od59 an59 od60 an60 od61 an61 od62 an62 od63 an63 od64 an64 od65 an65 : Option Addr} {sl0 sl1 sl2 sl3 sl4 sl5 sl6 sl7 sl8 sl9 sl10 sl11 sl12 sl13 sl14 sl15 sl16 sl17 sl18 sl19 sl20 sl21 sl22 sl23 sl24 sl25 sl26 sl27 sl28 sl29 sl30 sl31 sl32 sl33 sl34 sl35 sl36 sl37 sl38 sl39 sl40 sl41 sl42 sl43 sl44 sl45 sl46 sl47 sl48 sl49 sl50 sl51 sl52 sl53 sl54 sl55 sl56 sl57 sl58 sl59 sl60 sl61 sl62 sl63 sl64 sl65 : Array (Option Value)} {oc0 kV0 dc0 pm0 cd0 ct0 oc1 kV1 dc1 pm1 cd1 ct1 oc2 kV2 dc2 pm2 cd2 ct2 oc3 kV3 dc3 pm3 cd3 ct3 oc4 kV4 dc4 pm4 cd4 ct4 oc5 kV5 dc5 pm5 cd5 ct5 oc6 kV6 dc6 pm6 cd6 ct6 oc7 kV7 dc7 pm7 cd7 ct7 oc8 kV8 dc8 pm8 cd8 ct8 oc9 kV9 dc9 pm9 cd9 ct9 oc10 kV10 dc10 pm10 cd10 ct10 oc11 kV11 dc11 pm11 cd11 ct11 oc12 kV12 dc12 pm12 cd12 ct12 oc13 kV13 dc13 pm13 cd13 ct13 oc14 kV14 dc14 pm14 cd14 ct14 oc15 kV15 dc15 pm15 cd15 ct15 oc16 kV16 dc16 pm16 cd16 ct16 oc17 kV17 dc17 pm17 cd17 ct17 oc18 kV18 dc18 pm18 cd18 ct18 oc19 kV19 dc19 pm19 cd19 ct19 oc20 kV20 dc20 pm20 cd20 ct20 oc21 kV21 dc21 pm21 cd21 ct21 oc22 kV22 dc22 pm22 cd22 ct22 oc23 kV23 dc23 pm23 cd23 ct23 oc24 kV24 dc24 pm24 cd24 ct24 oc25 kV25 dc25 pm25 cd25 ct25 oc26 kV26 dc26 pm26 cd26 ct26 oc27 kV27 dc27 pm27 cd27 ct27 oc28 kV28 dc28 pm28 cd28 ct28 oc29 kV29 dc29 pm29 cd29 ct29 oc30 kV30 dc30 pm30 cd30 ct30 oc31 kV31 dc31 pm31 cd31 ct31 oc32 kV32 dc32 pm32 cd32 ct32 oc33 kV33 dc33 pm33 cd33 ct33 oc34 kV34 dc34 pm34 cd34 ct34 oc35 kV35 dc35 pm35 cd35 ct35 oc36 kV36 dc36 pm36 cd36 ct36 oc37 kV37 dc37 pm37 cd37 ct37 oc38 kV38 dc38 pm38 cd38 ct38 oc39 kV39 dc39 pm39 cd39 ct39 oc40 kV40 dc40 pm40 cd40 ct40 oc41 kV41 dc41 pm41 cd41 ct41 oc42 kV42 dc42 pm42 cd42 ct42 oc43 kV43 dc43 pm43 cd43 ct43 oc44 kV44 dc44 pm44 cd44 ct44 oc45 kV45 dc45 pm45 cd45 ct45 oc46 kV46 dc46 pm46 cd46 ct46 oc47 kV47 dc47 pm47 cd47 ct47 oc48 kV48 dc48 pm48 cd48 ct48 oc49 kV49 dc49 pm49 cd49 ct49 oc50 kV50 dc50 pm50 cd50 ct50 oc51 kV51 dc51 pm51 cd51 ct51 oc52 kV52 dc52 pm52 cd52 ct52 oc53 kV53 dc53 pm53 cd53 ct53 oc54 kV54 dc54 pm54 cd54 ct54 oc55 kV55 dc55 pm55 cd55 ct55 oc56 kV56 dc56 pm56 cd56 ct56 oc57 kV57 dc57 pm57 cd57 ct57 oc58 kV58 dc58 pm58 cd58 ct58 oc59 kV59 dc59 pm59 cd59 ct59 oc60 kV60 dc60 pm60 cd60 ct60 oc61 kV61 dc61 pm61 cd61 ct61 oc62 kV62 dc62 pm62 cd62 ct62 oc63 kV63 dc63 pm63 cd63 ct63 oc64 kV64 dc64 pm64 cd64 ct64 oc65 kV65 dc65 pm65 cd65 ct65 : Value}
    {ca_Giver : Addr} (g_Giver : PySem.W.nsIn K mainGlobals "Giver" = some (some (.ref ca_Giver))) {ca_NoData : Addr} (g_NoData : PySem.W.nsIn K mainGlobals "NoData" = some (some (.ref ca_NoData))) {ca_NoNumber : Addr} (g_NoNumber : PySem.W.nsIn K mainGlobals "NoNumber" = some (some (.ref ca_NoNumber))) {ca_NoPort : Addr} (g_NoPort : PySem.W.nsIn K mainGlobals "NoPort" = some (some (.ref ca_NoPort))) {ca_NoSegment : Addr} (g_NoSegment : PySem.W.nsIn K mainGlobals "NoSegment" = some (some (.ref ca_NoSegment))) {ca_NoSize : Addr} (g_NoSize : PySem.W.nsIn K mainGlobals "NoSize" = some (some (.ref ca_NoSize))) {ca_NoTick : Addr} (g_NoTick : PySem.W.nsIn K mainGlobals "NoTick" = some (some (.ref ca_NoTick))) {ca_Segment : Addr} (g_Segment : PySem.W.nsIn K mainGlobals "Segment" = some (some (.ref ca_Segment))) {ca_Taker : Addr} (g_Taker : PySem.W.nsIn K mainGlobals "Taker" = some (some (.ref ca_Taker))) {ca_Talk : Addr} (g_Talk : PySem.W.nsIn K mainGlobals "Talk" = some (some (.ref ca_Talk)))
    (a0 : PySem.W.nsIn K mainGlobals "_law_mixed" = some (some (.ref f0))) (l0 : K.lookup f0 = some ⟨oc0, od0, .func (PySem.W.fnOf "_law_mixed" "_law_mixed" (defArgs s_l_mixed) (defBody s_l_mixed) (defScope s_l_mixed) .none kV0 dc0 pm0 an0 cd0 ct0), sl0⟩) (c0 : PySem.W.codeIn K cd0 "_law_mixed" = true) (k0 : PySem.W.keepIn K (.ref f0) = true)
    (a1 : PySem.W.nsIn K mainGlobals "_law_draw" = some (some (.ref f1))) (l1 : K.lookup f1 = some ⟨oc1, od1, .func (PySem.W.fnOf "_law_draw" "_law_draw" (defArgs s_l_draw) (defBody s_l_draw) (defScope s_l_draw) .none kV1 dc1 pm1 an1 cd1 ct1), sl1⟩) (c1 : PySem.W.codeIn K cd1 "_law_draw" = true) (k1 : PySem.W.keepIn K (.ref f1) = true)
    (a2 : PySem.W.nsIn K mainGlobals "are_marks" = some (some (.ref f2))) (l2 : K.lookup f2 = some ⟨oc2, od2, .func (PySem.W.fnOf "are_marks" "are_marks" (defArgs s_are_marks) (defBody s_are_marks) (defScope s_are_marks) .none kV2 dc2 pm2 an2 cd2 ct2), sl2⟩) (c2 : PySem.W.codeIn K cd2 "are_marks" = true) (k2 : PySem.W.keepIn K (.ref f2) = true)
    (a3 : PySem.W.nsIn K mainGlobals "is_whole" = some (some (.ref f3))) (l3 : K.lookup f3 = some ⟨oc3, od3, .func (PySem.W.fnOf "is_whole" "is_whole" (defArgs s_is_whole) (defBody s_is_whole) (defScope s_is_whole) .none kV3 dc3 pm3 an3 cd3 ct3), sl3⟩) (c3 : PySem.W.codeIn K cd3 "is_whole" = true) (k3 : PySem.W.keepIn K (.ref f3) = true)
    (a4 : PySem.W.nsIn K mainGlobals "is_data" = some (some (.ref f4))) (l4 : K.lookup f4 = some ⟨oc4, od4, .func (PySem.W.fnOf "is_data" "is_data" (defArgs s_is_data) (defBody s_is_data) (defScope s_is_data) .none kV4 dc4 pm4 an4 cd4 ct4), sl4⟩) (c4 : PySem.W.codeIn K cd4 "is_data" = true) (k4 : PySem.W.keepIn K (.ref f4) = true)
    (a5 : PySem.W.nsIn K mainGlobals "is_from_nought" = some (some (.ref f5))) (l5 : K.lookup f5 = some ⟨oc5, od5, .func (PySem.W.fnOf "is_from_nought" "is_from_nought" (defArgs s_is_from_nought) (defBody s_is_from_nought) (defScope s_is_from_nought) .none kV5 dc5 pm5 an5 cd5 ct5), sl5⟩) (c5 : PySem.W.codeIn K cd5 "is_from_nought" = true) (k5 : PySem.W.keepIn K (.ref f5) = true)
    (a6 : PySem.W.findIn K (.ref ca_Segment) "__init__" = some (some (.ref f6))) (i6 : PySem.W.isFn K (.ref f6) = true) (l6 : K.lookup f6 = some ⟨oc6, od6, .func (PySem.W.fnOf "__init__" "Segment.__init__" (defArgs s_Segment___init__) (defBody s_Segment___init__) (defScope s_Segment___init__) .none kV6 dc6 pm6 an6 cd6 ct6), sl6⟩) (c6 : PySem.W.codeIn K cd6 "Segment.__init__" = true) (k6 : PySem.W.keepIn K (.ref f6) = true)
    (a7 : PySem.W.findIn K (.ref ca_Giver) "finish" = some (some (.ref f7))) (i7 : PySem.W.isFn K (.ref f7) = true) (l7 : K.lookup f7 = some ⟨oc7, od7, .func (PySem.W.fnOf "finish" "Giver.finish" (defArgs s_Giver_finish) (defBody s_Giver_finish) (defScope s_Giver_finish) .none kV7 dc7 pm7 an7 cd7 ct7), sl7⟩) (c7 : PySem.W.codeIn K cd7 "Giver.finish" = true) (k7 : PySem.W.keepIn K (.ref f7) = true)
    (a8 : PySem.W.findIn K (.ref ca_Taker) "ended" = some (some (.ref f8))) (i8 : PySem.W.isFn K (.ref f8) = true) (l8 : K.lookup f8 = some ⟨oc8, od8, .func (PySem.W.fnOf "ended" "Taker.ended" (defArgs s_Taker_ended) (defBody s_Taker_ended) (defScope s_Taker_ended) .none kV8 dc8 pm8 an8 cd8 ct8), sl8⟩) (c8 : PySem.W.codeIn K cd8 "Taker.ended" = true) (k8 : PySem.W.keepIn K (.ref f8) = true)
    (a9 : PySem.W.findIn K (.ref ca_Giver) "answered" = some (some (.ref f9))) (i9 : PySem.W.isFn K (.ref f9) = true) (l9 : K.lookup f9 = some ⟨oc9, od9, .func (PySem.W.fnOf "answered" "Giver.answered" (defArgs s_Giver_answered) (defBody s_Giver_answered) (defScope s_Giver_answered) .none kV9 dc9 pm9 an9 cd9 ct9), sl9⟩) (c9 : PySem.W.codeIn K cd9 "Giver.answered" = true) (k9 : PySem.W.keepIn K (.ref f9) = true)
    (a10 : PySem.W.findIn K (.ref ca_Talk) "is_open" = some (some (.ref f10))) (i10 : PySem.W.isFn K (.ref f10) = true) (l10 : K.lookup f10 = some ⟨oc10, od10, .func (PySem.W.fnOf "is_open" "Talk.is_open" (defArgs s_Talk_is_open) (defBody s_Talk_is_open) (defScope s_Talk_is_open) .none kV10 dc10 pm10 an10 cd10 ct10), sl10⟩) (c10 : PySem.W.codeIn K cd10 "Talk.is_open" = true) (k10 : PySem.W.keepIn K (.ref f10) = true)
    (a11 : PySem.W.findIn K (.ref ca_Talk) "stand" = some (some (.ref f11))) (i11 : PySem.W.isFn K (.ref f11) = true) (l11 : K.lookup f11 = some ⟨oc11, od11, .func (PySem.W.fnOf "stand" "Talk.stand" (defArgs s_Talk_stand) (defBody s_Talk_stand) (defScope s_Talk_stand) .none kV11 dc11 pm11 an11 cd11 ct11), sl11⟩) (c11 : PySem.W.codeIn K cd11 "Talk.stand" = true) (k11 : PySem.W.keepIn K (.ref f11) = true)
    (a12 : PySem.W.findIn K (.ref ca_Talk) "is_over" = some (some (.ref f12))) (i12 : PySem.W.isFn K (.ref f12) = true) (l12 : K.lookup f12 = some ⟨oc12, od12, .func (PySem.W.fnOf "is_over" "Talk.is_over" (defArgs s_Talk_is_over) (defBody s_Talk_is_over) (defScope s_Talk_is_over) .none kV12 dc12 pm12 an12 cd12 ct12), sl12⟩) (c12 : PySem.W.codeIn K cd12 "Talk.is_over" = true) (k12 : PySem.W.keepIn K (.ref f12) = true)
    (a13 : PySem.W.findIn K (.ref ca_Talk) "finish" = some (some (.ref f13))) (i13 : PySem.W.isFn K (.ref f13) = true) (l13 : K.lookup f13 = some ⟨oc13, od13, .func (PySem.W.fnOf "finish" "Talk.finish" (defArgs s_Talk_finish) (defBody s_Talk_finish) (defScope s_Talk_finish) .none kV13 dc13 pm13 an13 cd13 ct13), sl13⟩) (c13 : PySem.W.codeIn K cd13 "Talk.finish" = true) (k13 : PySem.W.keepIn K (.ref f13) = true)
    (a14 : PySem.W.nsIn K mainGlobals "is_within" = some (some (.ref f14))) (l14 : K.lookup f14 = some ⟨oc14, od14, .func (PySem.W.fnOf "is_within" "is_within" (defArgs s_is_within) (defBody s_is_within) (defScope s_is_within) .none kV14 dc14 pm14 an14 cd14 ct14), sl14⟩) (c14 : PySem.W.codeIn K cd14 "is_within" = true) (k14 : PySem.W.keepIn K (.ref f14) = true)
    (a15 : PySem.W.findIn K (.ref ca_Taker) "__init__" = some (some (.ref f15))) (i15 : PySem.W.isFn K (.ref f15) = true) (l15 : K.lookup f15 = some ⟨oc15, od15, .func (PySem.W.fnOf "__init__" "Taker.__init__" (defArgs s_Taker___init__) (defBody s_Taker___init__) (defScope s_Taker___init__) .none kV15 dc15 pm15 an15 cd15 ct15), sl15⟩) (c15 : PySem.W.codeIn K cd15 "Taker.__init__" = true) (k15 : PySem.W.keepIn K (.ref f15) = true)
    (a16 : PySem.W.nsIn K mainGlobals "need_number" = some (some (.ref f16))) (l16 : K.lookup f16 = some ⟨oc16, od16, .func (PySem.W.fnOf "need_number" "need_number" (defArgs s_need_number) (defBody s_need_number) (defScope s_need_number) .none kV16 dc16 pm16 an16 cd16 ct16), sl16⟩) (c16 : PySem.W.codeIn K cd16 "need_number" = true) (k16 : PySem.W.keepIn K (.ref f16) = true)
    (a17 : PySem.W.nsIn K mainGlobals "need_size" = some (some (.ref f17))) (l17 : K.lookup f17 = some ⟨oc17, od17, .func (PySem.W.fnOf "need_size" "need_size" (defArgs s_need_size) (defBody s_need_size) (defScope s_need_size) .none kV17 dc17 pm17 an17 cd17 ct17), sl17⟩) (c17 : PySem.W.codeIn K cd17 "need_size" = true) (k17 : PySem.W.keepIn K (.ref f17) = true)
    (a18 : PySem.W.nsIn K mainGlobals "moved" = some (some (.ref f18))) (l18 : K.lookup f18 = some ⟨oc18, od18, .func (PySem.W.fnOf "moved" "moved" (defArgs s_moved) (defBody s_moved) (defScope s_moved) .none kV18 dc18 pm18 an18 cd18 ct18), sl18⟩) (c18 : PySem.W.codeIn K cd18 "moved" = true) (k18 : PySem.W.keepIn K (.ref f18) = true)
    (a19 : PySem.W.findIn K (.ref ca_Talk) "begin_taker" = some (some (.ref f19))) (i19 : PySem.W.isFn K (.ref f19) = true) (l19 : K.lookup f19 = some ⟨oc19, od19, .func (PySem.W.fnOf "begin_taker" "Talk.begin_taker" (defArgs s_Talk_begin_taker) (defBody s_Talk_begin_taker) (defScope s_Talk_begin_taker) .none kV19 dc19 pm19 an19 cd19 ct19), sl19⟩) (c19 : PySem.W.codeIn K cd19 "Talk.begin_taker" = true) (k19 : PySem.W.keepIn K (.ref f19) = true)
    (a20 : PySem.W.findIn K (.ref ca_Giver) "is_counted" = some (some (.ref f20))) (i20 : PySem.W.isFn K (.ref f20) = true) (l20 : K.lookup f20 = some ⟨oc20, od20, .func (PySem.W.fnOf "is_counted" "Giver.is_counted" (defArgs s_Giver_is_counted) (defBody s_Giver_is_counted) (defScope s_Giver_is_counted) .none kV20 dc20 pm20 an20 cd20 ct20), sl20⟩) (c20 : PySem.W.codeIn K cd20 "Giver.is_counted" = true) (k20 : PySem.W.keepIn K (.ref f20) = true)
    (a21 : PySem.W.findIn K (.ref ca_Giver) "count" = some (some (.ref f21))) (i21 : PySem.W.isFn K (.ref f21) = true) (l21 : K.lookup f21 = some ⟨oc21, od21, .func (PySem.W.fnOf "count" "Giver.count" (defArgs s_Giver_count) (defBody s_Giver_count) (defScope s_Giver_count) .none kV21 dc21 pm21 an21 cd21 ct21), sl21⟩) (c21 : PySem.W.codeIn K cd21 "Giver.count" = true) (k21 : PySem.W.keepIn K (.ref f21) = true)
    (a22 : PySem.W.nsIn K mainGlobals "is_number_givers" = some (some (.ref f22))) (l22 : K.lookup f22 = some ⟨oc22, od22, .func (PySem.W.fnOf "is_number" "is_number" (defArgs s_is_number_givers) (defBody s_is_number_givers) (defScope s_is_number_givers) .none kV22 dc22 pm22 an22 cd22 ct22), sl22⟩) (c22 : PySem.W.codeIn K cd22 "is_number" = true) (k22 : PySem.W.keepIn K (.ref f22) = true)
    (a23 : PySem.W.findIn K (.ref ca_Giver) "need_tick" = some (some (.ref f23))) (i23 : PySem.W.isFn K (.ref f23) = true) (l23 : K.lookup f23 = some ⟨oc23, od23, .func (PySem.W.fnOf "need_tick" "Giver.need_tick" (defArgs s_Giver_need_tick) (defBody s_Giver_need_tick) (defScope s_Giver_need_tick) .none kV23 dc23 pm23 an23 cd23 ct23), sl23⟩) (c23 : PySem.W.codeIn K cd23 "Giver.need_tick" = true) (k23 : PySem.W.keepIn K (.ref f23) = true)
    (a24 : PySem.W.nsIn K mainGlobals "far" = some (some (.ref f24))) (l24 : K.lookup f24 = some ⟨oc24, od24, .func (PySem.W.fnOf "far" "far" (defArgs s_far) (defBody s_far) (defScope s_far) .none kV24 dc24 pm24 an24 cd24 ct24), sl24⟩) (c24 : PySem.W.codeIn K cd24 "far" = true) (k24 : PySem.W.keepIn K (.ref f24) = true)
    (a25 : PySem.W.findIn K (.ref ca_Giver) "heard" = some (some (.ref f25))) (i25 : PySem.W.isFn K (.ref f25) = true) (l25 : K.lookup f25 = some ⟨oc25, od25, .func (PySem.W.fnOf "heard" "Giver.heard" (defArgs s_Giver_heard) (defBody s_Giver_heard) (defScope s_Giver_heard) .none kV25 dc25 pm25 an25 cd25 ct25), sl25⟩) (c25 : PySem.W.codeIn K cd25 "Giver.heard" = true) (k25 : PySem.W.keepIn K (.ref f25) = true)
    (a26 : PySem.W.findIn K (.ref ca_Giver) "left" = some (some (.ref f26))) (i26 : PySem.W.isFn K (.ref f26) = true) (l26 : K.lookup f26 = some ⟨oc26, od26, .func (PySem.W.fnOf "left" "Giver.left" (defArgs s_Giver_left) (defBody s_Giver_left) (defScope s_Giver_left) .none kV26 dc26 pm26 an26 cd26 ct26), sl26⟩) (c26 : PySem.W.codeIn K cd26 "Giver.left" = true) (k26 : PySem.W.keepIn K (.ref f26) = true)
    (a27 : PySem.W.findIn K (.ref ca_Giver) "next_number" = some (some (.ref f27))) (i27 : PySem.W.isFn K (.ref f27) = true) (l27 : K.lookup f27 = some ⟨oc27, od27, .func (PySem.W.fnOf "next_number" "Giver.next_number" (defArgs s_Giver_next_number) (defBody s_Giver_next_number) (defScope s_Giver_next_number) .none kV27 dc27 pm27 an27 cd27 ct27), sl27⟩) (c27 : PySem.W.codeIn K cd27 "Giver.next_number" = true) (k27 : PySem.W.keepIn K (.ref f27) = true)
    (a28 : PySem.W.findIn K (.ref ca_Segment) "numbered" = some (some (.ref f28))) (i28 : PySem.W.isFn K (.ref f28) = true) (l28 : K.lookup f28 = some ⟨oc28, od28, .func (PySem.W.fnOf "numbered" "Segment.numbered" (defArgs s_Segment_numbered) (defBody s_Segment_numbered) (defScope s_Segment_numbered) .none kV28 dc28 pm28 an28 cd28 ct28), sl28⟩) (c28 : PySem.W.codeIn K cd28 "Segment.numbered" = true) (k28 : PySem.W.keepIn K (.ref f28) = true)
    (a29 : PySem.W.findIn K (.ref ca_Taker) "free" = some (some (.ref f29))) (i29 : PySem.W.isFn K (.ref f29) = true) (l29 : K.lookup f29 = some ⟨oc29, od29, .func (PySem.W.fnOf "free" "Taker.free" (defArgs s_Taker_free) (defBody s_Taker_free) (defScope s_Taker_free) .none kV29 dc29 pm29 an29 cd29 ct29), sl29⟩) (c29 : PySem.W.codeIn K cd29 "Taker.free" = true) (k29 : PySem.W.keepIn K (.ref f29) = true)
    (a30 : PySem.W.findIn K (.ref ca_Taker) "wants" = some (some (.ref f30))) (i30 : PySem.W.isFn K (.ref f30) = true) (l30 : K.lookup f30 = some ⟨oc30, od30, .func (PySem.W.fnOf "wants" "Taker.wants" (defArgs s_Taker_wants) (defBody s_Taker_wants) (defScope s_Taker_wants) .none kV30 dc30 pm30 an30 cd30 ct30), sl30⟩) (c30 : PySem.W.codeIn K cd30 "Taker.wants" = true) (k30 : PySem.W.keepIn K (.ref f30) = true)
    (a31 : PySem.W.findIn K (.ref ca_Talk) "made" = some (some (.ref f31))) (i31 : PySem.W.isFn K (.ref f31) = true) (l31 : K.lookup f31 = some ⟨oc31, od31, .func (PySem.W.fnOf "made" "Talk.made" (defArgs s_Talk_made) (defBody s_Talk_made) (defScope s_Talk_made) .none kV31 dc31 pm31 an31 cd31 ct31), sl31⟩) (c31 : PySem.W.codeIn K cd31 "Talk.made" = true) (k31 : PySem.W.keepIn K (.ref f31) = true)
    (a32 : PySem.W.findIn K (.ref ca_Taker) "come_ready" = some (some (.ref f32))) (i32 : PySem.W.isFn K (.ref f32) = true) (l32 : K.lookup f32 = some ⟨oc32, od32, .func (PySem.W.fnOf "come_ready" "Taker.come_ready" (defArgs s_Taker_come_ready) (defBody s_Taker_come_ready) (defScope s_Taker_come_ready) .none kV32 dc32 pm32 an32 cd32 ct32), sl32⟩) (c32 : PySem.W.codeIn K cd32 "Taker.come_ready" = true) (k32 : PySem.W.keepIn K (.ref f32) = true)
    (a33 : PySem.W.findIn K (.ref ca_Taker) "take" = some (some (.ref f33))) (i33 : PySem.W.isFn K (.ref f33) = true) (l33 : K.lookup f33 = some ⟨oc33, od33, .func (PySem.W.fnOf "take" "Taker.take" (defArgs s_Taker_take) (defBody s_Taker_take) (defScope s_Taker_take) .none kV33 dc33 pm33 an33 cd33 ct33), sl33⟩) (c33 : PySem.W.codeIn K cd33 "Taker.take" = true) (k33 : PySem.W.keepIn K (.ref f33) = true)
    (a34 : PySem.W.findIn K (.ref ca_Talk) "take" = some (some (.ref f34))) (i34 : PySem.W.isFn K (.ref f34) = true) (l34 : K.lookup f34 = some ⟨oc34, od34, .func (PySem.W.fnOf "take" "Talk.take" (defArgs s_Talk_take) (defBody s_Talk_take) (defScope s_Talk_take) .none kV34 dc34 pm34 an34 cd34 ct34), sl34⟩) (c34 : PySem.W.codeIn K cd34 "Talk.take" = true) (k34 : PySem.W.keepIn K (.ref f34) = true)
    (a35 : PySem.W.findIn K (.ref ca_Talk) "counted" = some (some (.ref f35))) (i35 : PySem.W.isFn K (.ref f35) = true) (l35 : K.lookup f35 = some ⟨oc35, od35, .func (PySem.W.fnOf "counted" "Talk.counted" (defArgs s_Talk_counted) (defBody s_Talk_counted) (defScope s_Talk_counted) .none kV35 dc35 pm35 an35 cd35 ct35), sl35⟩) (c35 : PySem.W.codeIn K cd35 "Talk.counted" = true) (k35 : PySem.W.keepIn K (.ref f35) = true)
    (a36 : PySem.W.findIn K (.ref ca_Talk) "is_answer" = some (some (.ref f36))) (i36 : PySem.W.isFn K (.ref f36) = true) (l36 : K.lookup f36 = some ⟨oc36, od36, .func (PySem.W.fnOf "is_answer" "Talk.is_answer" (defArgs s_Talk_is_answer) (defBody s_Talk_is_answer) (defScope s_Talk_is_answer) .none kV36 dc36 pm36 an36 cd36 ct36), sl36⟩) (c36 : PySem.W.codeIn K cd36 "Talk.is_answer" = true) (k36 : PySem.W.keepIn K (.ref f36) = true)
    (a37 : PySem.W.findIn K (.ref ca_Talk) "is_cut_by" = some (some (.ref f37))) (i37 : PySem.W.isFn K (.ref f37) = true) (l37 : K.lookup f37 = some ⟨oc37, od37, .func (PySem.W.fnOf "is_cut_by" "Talk.is_cut_by" (defArgs s_Talk_is_cut_by) (defBody s_Talk_is_cut_by) (defScope s_Talk_is_cut_by) .none kV37 dc37 pm37 an37 cd37 ct37), sl37⟩) (c37 : PySem.W.codeIn K cd37 "Talk.is_cut_by" = true) (k37 : PySem.W.keepIn K (.ref f37) = true)
    (a38 : PySem.W.nsIn K mainGlobals "need_tick" = some (some (.ref f38))) (l38 : K.lookup f38 = some ⟨oc38, od38, .func (PySem.W.fnOf "need_tick" "need_tick" (defArgs s_need_tick) (defBody s_need_tick) (defScope s_need_tick) .none kV38 dc38 pm38 an38 cd38 ct38), sl38⟩) (c38 : PySem.W.codeIn K cd38 "need_tick" = true) (k38 : PySem.W.keepIn K (.ref f38) = true)
    (a39 : PySem.W.findIn K (.ref ca_Talk) "pass_to" = some (some (.ref f39))) (i39 : PySem.W.isFn K (.ref f39) = true) (l39 : K.lookup f39 = some ⟨oc39, od39, .func (PySem.W.fnOf "pass_to" "Talk.pass_to" (defArgs s_Talk_pass_to) (defBody s_Talk_pass_to) (defScope s_Talk_pass_to) .none kV39 dc39 pm39 an39 cd39 ct39), sl39⟩) (c39 : PySem.W.codeIn K cd39 "Talk.pass_to" = true) (k39 : PySem.W.keepIn K (.ref f39) = true)
    (a40 : PySem.W.findIn K (.ref ca_Talk) "heard" = some (some (.ref f40))) (i40 : PySem.W.isFn K (.ref f40) = true) (l40 : K.lookup f40 = some ⟨oc40, od40, .func (PySem.W.fnOf "heard" "Talk.heard" (defArgs s_Talk_heard) (defBody s_Talk_heard) (defScope s_Talk_heard) .none kV40 dc40 pm40 an40 cd40 ct40), sl40⟩) (c40 : PySem.W.codeIn K cd40 "Talk.heard" = true) (k40 : PySem.W.keepIn K (.ref f40) = true)
    (a41 : PySem.W.findIn K (.ref ca_Taker) "read" = some (some (.ref f41))) (i41 : PySem.W.isFn K (.ref f41) = true) (l41 : K.lookup f41 = some ⟨oc41, od41, .func (PySem.W.fnOf "read" "Taker.read" (defArgs s_Taker_read) (defBody s_Taker_read) (defScope s_Taker_read) .none kV41 dc41 pm41 an41 cd41 ct41), sl41⟩) (c41 : PySem.W.codeIn K cd41 "Taker.read" = true) (k41 : PySem.W.keepIn K (.ref f41) = true)
    (a42 : PySem.W.findIn K (.ref ca_Talk) "read" = some (some (.ref f42))) (i42 : PySem.W.isFn K (.ref f42) = true) (l42 : K.lookup f42 = some ⟨oc42, od42, .func (PySem.W.fnOf "read" "Talk.read" (defArgs s_Talk_read) (defBody s_Talk_read) (defScope s_Talk_read) .none kV42 dc42 pm42 an42 cd42 ct42), sl42⟩) (c42 : PySem.W.codeIn K cd42 "Talk.read" = true) (k42 : PySem.W.keepIn K (.ref f42) = true)
    (a43 : PySem.W.findIn K (.ref ca_Taker) "ready" = some (some (.ref f43))) (i43 : PySem.W.isFn K (.ref f43) = true) (l43 : K.lookup f43 = some ⟨oc43, od43, .func (PySem.W.fnOf "ready" "Taker.ready" (defArgs s_Taker_ready) (defBody s_Taker_ready) (defScope s_Taker_ready) .none kV43 dc43 pm43 an43 cd43 ct43), sl43⟩) (c43 : PySem.W.codeIn K cd43 "Taker.ready" = true) (k43 : PySem.W.keepIn K (.ref f43) = true)
    (a44 : PySem.W.findIn K (.ref ca_Talk) "ready" = some (some (.ref f44))) (i44 : PySem.W.isFn K (.ref f44) = true) (l44 : K.lookup f44 = some ⟨oc44, od44, .func (PySem.W.fnOf "ready" "Talk.ready" (defArgs s_Talk_ready) (defBody s_Talk_ready) (defScope s_Talk_ready) .none kV44 dc44 pm44 an44 cd44 ct44), sl44⟩) (c44 : PySem.W.codeIn K cd44 "Talk.ready" = true) (k44 : PySem.W.keepIn K (.ref f44) = true)
    (a45 : PySem.W.findIn K (.ref ca_Giver) "write" = some (some (.ref f45))) (i45 : PySem.W.isFn K (.ref f45) = true) (l45 : K.lookup f45 = some ⟨oc45, od45, .func (PySem.W.fnOf "write" "Giver.write" (defArgs s_Giver_write) (defBody s_Giver_write) (defScope s_Giver_write) .none kV45 dc45 pm45 an45 cd45 ct45), sl45⟩) (c45 : PySem.W.codeIn K cd45 "Giver.write" = true) (k45 : PySem.W.keepIn K (.ref f45) = true)
    (a46 : PySem.W.findIn K (.ref ca_Talk) "write" = some (some (.ref f46))) (i46 : PySem.W.isFn K (.ref f46) = true) (l46 : K.lookup f46 = some ⟨oc46, od46, .func (PySem.W.fnOf "write" "Talk.write" (defArgs s_Talk_write) (defBody s_Talk_write) (defScope s_Talk_write) .none kV46 dc46 pm46 an46 cd46 ct46), sl46⟩) (c46 : PySem.W.codeIn K cd46 "Talk.write" = true) (k46 : PySem.W.keepIn K (.ref f46) = true)
    (a47 : PySem.W.findIn K (.ref ca_Giver) "again" = some (some (.ref f47))) (i47 : PySem.W.isFn K (.ref f47) = true) (l47 : K.lookup f47 = some ⟨oc47, od47, .func (PySem.W.fnOf "again" "Giver.again" (defArgs s_Giver_again) (defBody s_Giver_again) (defScope s_Giver_again) .none kV47 dc47 pm47 an47 cd47 ct47), sl47⟩) (c47 : PySem.W.codeIn K cd47 "Giver.again" = true) (k47 : PySem.W.keepIn K (.ref f47) = true)
    (a48 : PySem.W.findIn K (.ref ca_Giver) "due" = some (some (.ref f48))) (i48 : PySem.W.isFn K (.ref f48) = true) (l48 : K.lookup f48 = some ⟨oc48, od48, .func (PySem.W.fnOf "due" "Giver.due" (defArgs s_Giver_due) (defBody s_Giver_due) (defScope s_Giver_due) .none kV48 dc48 pm48 an48 cd48 ct48), sl48⟩) (c48 : PySem.W.codeIn K cd48 "Giver.due" = true) (k48 : PySem.W.keepIn K (.ref f48) = true)
    (a49 : PySem.W.findIn K (.ref ca_Giver) "tries" = some (some (.ref f49))) (i49 : PySem.W.isFn K (.ref f49) = true) (l49 : K.lookup f49 = some ⟨oc49, od49, .func (PySem.W.fnOf "tries" "Giver.tries" (defArgs s_Giver_tries) (defBody s_Giver_tries) (defScope s_Giver_tries) .none kV49 dc49 pm49 an49 cd49 ct49), sl49⟩) (c49 : PySem.W.codeIn K cd49 "Giver.tries" = true) (k49 : PySem.W.keepIn K (.ref f49) = true)
    (a50 : PySem.W.findIn K (.ref ca_Talk) "segment_of" = some (some (.ref f50))) (i50 : PySem.W.isFn K (.ref f50) = true) (l50 : K.lookup f50 = some ⟨oc50, od50, .func (PySem.W.fnOf "segment_of" "Talk.segment_of" (defArgs s_Talk_segment_of) (defBody s_Talk_segment_of) (defScope s_Talk_segment_of) .none kV50 dc50 pm50 an50 cd50 ct50), sl50⟩) (c50 : PySem.W.codeIn K cd50 "Talk.segment_of" = true) (k50 : PySem.W.keepIn K (.ref f50) = true)
    (a51 : PySem.W.findIn K (.ref ca_Talk) "due" = some (some (.ref f51))) (i51 : PySem.W.isFn K (.ref f51) = true) (l51 : K.lookup f51 = some ⟨oc51, od51, .func (PySem.W.fnOf "due" "Talk.due" (defArgs s_Talk_due) (defBody s_Talk_due) (defScope s_Talk_due) .none kV51 dc51 pm51 an51 cd51 ct51), sl51⟩) (c51 : PySem.W.codeIn K cd51 "Talk.due" = true) (k51 : PySem.W.keepIn K (.ref f51) = true)
    (a52 : PySem.W.nsIn K mainGlobals "_law_brought" = some (some (.ref f52))) (l52 : K.lookup f52 = some ⟨oc52, od52, .func (PySem.W.fnOf "_law_brought" "_law_brought" (defArgs s_l_brought) (defBody s_l_brought) (defScope s_l_brought) .none kV52 dc52 pm52 an52 cd52 ct52), sl52⟩) (c52 : PySem.W.codeIn K cd52 "_law_brought" = true) (k52 : PySem.W.keepIn K (.ref f52) = true)
    (a53 : PySem.W.nsIn K mainGlobals "_law_next" = some (some (.ref f53))) (l53 : K.lookup f53 = some ⟨oc53, od53, .func (PySem.W.fnOf "_law_next" "_law_next" (defArgs s_l_next) (defBody s_l_next) (defScope s_l_next) .none kV53 dc53 pm53 an53 cd53 ct53), sl53⟩) (c53 : PySem.W.codeIn K cd53 "_law_next" = true) (k53 : PySem.W.keepIn K (.ref f53) = true)
    (a54 : PySem.W.nsIn K mainGlobals "_law_bytes" = some (some (.ref f54))) (l54 : K.lookup f54 = some ⟨oc54, od54, .func (PySem.W.fnOf "_law_bytes" "_law_bytes" (defArgs s_l_bytes) (defBody s_l_bytes) (defScope s_l_bytes) .none kV54 dc54 pm54 an54 cd54 ct54), sl54⟩) (c54 : PySem.W.codeIn K cd54 "_law_bytes" = true) (k54 : PySem.W.keepIn K (.ref f54) = true)
    (a55 : PySem.W.findIn K (.ref ca_Talk) "cut" = some (some (.ref f55))) (i55 : PySem.W.isFn K (.ref f55) = true) (l55 : K.lookup f55 = some ⟨oc55, od55, .func (PySem.W.fnOf "cut" "Talk.cut" (defArgs s_Talk_cut) (defBody s_Talk_cut) (defScope s_Talk_cut) .none kV55 dc55 pm55 an55 cd55 ct55), sl55⟩) (c55 : PySem.W.codeIn K cd55 "Talk.cut" = true) (k55 : PySem.W.keepIn K (.ref f55) = true)
    (a56 : PySem.W.nsIn K mainGlobals "_law_closes" = some (some (.ref f56))) (l56 : K.lookup f56 = some ⟨oc56, od56, .func (PySem.W.fnOf "_law_closes" "_law_closes" (defArgs s_l_closes) (defBody s_l_closes) (defScope s_l_closes) .none kV56 dc56 pm56 an56 cd56 ct56), sl56⟩) (c56 : PySem.W.codeIn K cd56 "_law_closes" = true) (k56 : PySem.W.keepIn K (.ref f56) = true)
    (a57 : PySem.W.nsIn K mainGlobals "_law_left_right" = some (some (.ref f57))) (l57 : K.lookup f57 = some ⟨oc57, od57, .func (PySem.W.fnOf "_law_left_right" "_law_left_right" (defArgs s_l_left_right) (defBody s_l_left_right) (defScope s_l_left_right) .none kV57 dc57 pm57 an57 cd57 ct57), sl57⟩) (c57 : PySem.W.codeIn K cd57 "_law_left_right" = true) (k57 : PySem.W.keepIn K (.ref f57) = true)
    (a58 : PySem.W.nsIn K mainGlobals "_law_moved" = some (some (.ref f58))) (l58 : K.lookup f58 = some ⟨oc58, od58, .func (PySem.W.fnOf "_law_moved" "_law_moved" (defArgs s_l_moved) (defBody s_l_moved) (defScope s_l_moved) .none kV58 dc58 pm58 an58 cd58 ct58), sl58⟩) (c58 : PySem.W.codeIn K cd58 "_law_moved" = true) (k58 : PySem.W.keepIn K (.ref f58) = true)
    (a59 : PySem.W.findIn K (.ref ca_Giver) "__init__" = some (some (.ref f59))) (i59 : PySem.W.isFn K (.ref f59) = true) (l59 : K.lookup f59 = some ⟨oc59, od59, .func (PySem.W.fnOf "__init__" "Giver.__init__" (defArgs s_Giver___init__) (defBody s_Giver___init__) (defScope s_Giver___init__) .none kV59 dc59 pm59 an59 cd59 ct59), sl59⟩) (c59 : PySem.W.codeIn K cd59 "Giver.__init__" = true) (k59 : PySem.W.keepIn K (.ref f59) = true)
    (a60 : PySem.W.nsIn K mainGlobals "is_number_talks" = some (some (.ref f60))) (l60 : K.lookup f60 = some ⟨oc60, od60, .func (PySem.W.fnOf "is_number" "is_number" (defArgs s_is_number_talks) (defBody s_is_number_talks) (defScope s_is_number_talks) .none kV60 dc60 pm60 an60 cd60 ct60), sl60⟩) (c60 : PySem.W.codeIn K cd60 "is_number" = true) (k60 : PySem.W.keepIn K (.ref f60) = true)
    {dt61 : Addr}
    (a61 : PySem.W.findIn K (.ref ca_Talk) "__init__" = some (some (.ref f61))) (i61 : PySem.W.isFn K (.ref f61) = true) (l61 : K.lookup f61 = some ⟨oc61, od61, .func (PySem.W.fnOf "__init__" "Talk.__init__" (defArgs s_Talk___init__) (defBody s_Talk___init__) (defScope s_Talk___init__) (.ref dt61) kV61 dc61 pm61 an61 cd61 ct61), sl61⟩) (c61 : PySem.W.codeIn K cd61 "Talk.__init__" = true) (k61 : PySem.W.keepIn K (.ref f61) = true)
    {ot61 : Obj} {nn61 : Nat} (u61 : K.lookup dt61 = some ot61) (v61 : ot61.data = .seq #[Value.none] nn61)
    (a62 : PySem.W.nsIn K mainGlobals "_law_first" = some (some (.ref f62))) (l62 : K.lookup f62 = some ⟨oc62, od62, .func (PySem.W.fnOf "_law_first" "_law_first" (defArgs s_l_first) (defBody s_l_first) (defScope s_l_first) .none kV62 dc62 pm62 an62 cd62 ct62), sl62⟩) (c62 : PySem.W.codeIn K cd62 "_law_first" = true) (k62 : PySem.W.keepIn K (.ref f62) = true)
    (a63 : PySem.W.nsIn K mainGlobals "_law_pair" = some (some (.ref f63))) (l63 : K.lookup f63 = some ⟨oc63, od63, .func (PySem.W.fnOf "_law_pair" "_law_pair" (defArgs s_l_pair) (defBody s_l_pair) (defScope s_l_pair) .none kV63 dc63 pm63 an63 cd63 ct63), sl63⟩) (c63 : PySem.W.codeIn K cd63 "_law_pair" = true) (k63 : PySem.W.keepIn K (.ref f63) = true)
    (a64 : PySem.W.nsIn K mainGlobals "_law_right" = some (some (.ref f64))) (l64 : K.lookup f64 = some ⟨oc64, od64, .func (PySem.W.fnOf "_law_right" "_law_right" (defArgs s_l_right) (defBody s_l_right) (defScope s_l_right) .none kV64 dc64 pm64 an64 cd64 ct64), sl64⟩) (c64 : PySem.W.codeIn K cd64 "_law_right" = true) (k64 : PySem.W.keepIn K (.ref f64) = true)
    (a65 : PySem.W.nsIn K mainGlobals "law" = some (some (.ref f65))) (l65 : K.lookup f65 = some ⟨oc65, od65, .func (PySem.W.fnOf "law" "law" (defArgs s_law) (defBody s_law) (defScope s_law) .none kV65 dc65 pm65 an65 cd65 ct65), sl65⟩) (c65 : PySem.W.codeIn K cd65 "law" = true) (k65 : PySem.W.keepIn K (.ref f65) = true)
    (z_all : PySem.W.nsIn K mainGlobals "all" = some none) (z_bool : PySem.W.nsIn K mainGlobals "bool" = some none) (z_enumerate : PySem.W.nsIn K mainGlobals "enumerate" = some none) (z_int : PySem.W.nsIn K mainGlobals "int" = some none) (z_isinstance : PySem.W.nsIn K mainGlobals "isinstance" = some none) (z_len : PySem.W.nsIn K mainGlobals "len" = some none) (z_max : PySem.W.nsIn K mainGlobals "max" = some none) (z_min : PySem.W.nsIn K mainGlobals "min" = some none) (z_range : PySem.W.nsIn K mainGlobals "range" = some none) (z_str : PySem.W.nsIn K mainGlobals "str" = some none) (z_tuple : PySem.W.nsIn K mainGlobals "tuple" = some none) {t_FIRST_WAIT : Tok} (y_FIRST_WAIT : PySem.W.nsIn K mainGlobals "FIRST_WAIT" = some (some (.int 4 t_FIRST_WAIT))) {t_LEAST_SIZE : Tok} (y_LEAST_SIZE : PySem.W.nsIn K mainGlobals "LEAST_SIZE" = some (some (.int 2 t_LEAST_SIZE))) {t_LETTERS : Tok} (y_LETTERS : PySem.W.nsIn K mainGlobals "LETTERS" = some (some (.str "aceoq" t_LETTERS))) {t_LONGEST : Tok} (y_LONGEST : PySem.W.nsIn K mainGlobals "LONGEST" = some (some (.int 16 t_LONGEST))) {t_MOST_BYTE : Tok} (y_MOST_BYTE : PySem.W.nsIn K mainGlobals "MOST_BYTE" = some (some (.int 255 t_MOST_BYTE))) {t_MOST_DATA_bits : Tok} (y_MOST_DATA_bits : PySem.W.nsIn K mainGlobals "MOST_DATA_bits" = some (some (.int 1000 t_MOST_DATA_bits))) {t_MOST_DATA_segments : Tok} (y_MOST_DATA_segments : PySem.W.nsIn K mainGlobals "MOST_DATA_segments" = some (some (.int 200 t_MOST_DATA_segments))) {t_MOST_IN_PAIR : Tok} (y_MOST_IN_PAIR : PySem.W.nsIn K mainGlobals "MOST_IN_PAIR" = some (some (.int 200 t_MOST_IN_PAIR))) {t_MOST_ITEMS : Tok} (y_MOST_ITEMS : PySem.W.nsIn K mainGlobals "MOST_ITEMS" = some (some (.int 32 t_MOST_ITEMS))) {t_MOST_KEPT : Tok} (y_MOST_KEPT : PySem.W.nsIn K mainGlobals "MOST_KEPT" = some (some (.int 512 t_MOST_KEPT))) {t_MOST_NUMBER : Tok} (y_MOST_NUMBER : PySem.W.nsIn K mainGlobals "MOST_NUMBER" = some (some (.int 4294967295 t_MOST_NUMBER))) {t_MOST_ROOM_segments : Tok} (y_MOST_ROOM_segments : PySem.W.nsIn K mainGlobals "MOST_ROOM_segments" = some (some (.int 128 t_MOST_ROOM_segments))) {t_MOST_ROOM_takers : Tok} (y_MOST_ROOM_takers : PySem.W.nsIn K mainGlobals "MOST_ROOM_takers" = some (some (.int 128 t_MOST_ROOM_takers))) {t_MOST_SIZE : Tok} (y_MOST_SIZE : PySem.W.nsIn K mainGlobals "MOST_SIZE" = some (some (.int 4294967296 t_MOST_SIZE))) {t_MOST_TRIES : Tok} (y_MOST_TRIES : PySem.W.nsIn K mainGlobals "MOST_TRIES" = some (some (.int 16 t_MOST_TRIES))) {t_RESTS : Tok} (y_RESTS : PySem.W.nsIn K mainGlobals "RESTS" = some (some (.int 120 t_RESTS))) {t_ROOM : Tok} (y_ROOM : PySem.W.nsIn K mainGlobals "ROOM" = some (some (.int 128 t_ROOM))) {t_SIZE_givers : Tok} (y_SIZE_givers : PySem.W.nsIn K mainGlobals "SIZE_givers" = some (some (.int 4294967296 t_SIZE_givers))) {t_SIZE_takers : Tok} (y_SIZE_takers : PySem.W.nsIn K mainGlobals "SIZE_takers" = some (some (.int 4294967296 t_SIZE_takers))) {t_SIZE_talks : Tok} (y_SIZE_talks : PySem.W.nsIn K mainGlobals "SIZE_talks" = some (some (.int 4294967296 t_SIZE_talks))) (e_NoData : PySem.W.excIn K ca_NoData [.type "ValueError", .type "Exception", .type "BaseException", .type "object"] "ValueError.__new__" = true) (k_NoData : PySem.W.keepIn K (.ref ca_NoData) = true) (b_NoData : PySem.W.subIn K (.ref ca_NoData) (.type "BaseException") = some true) (t_NoData : PySem.W.typeIn K (.ref ca_NoData) = some (.type "type")) (e_NoNumber : PySem.W.excIn K ca_NoNumber [.type "ValueError", .type "Exception", .type "BaseException", .type "object"] "ValueError.__new__" = true) (k_NoNumber : PySem.W.keepIn K (.ref ca_NoNumber) = true) (b_NoNumber : PySem.W.subIn K (.ref ca_NoNumber) (.type "BaseException") = some true) (t_NoNumber : PySem.W.typeIn K (.ref ca_NoNumber) = some (.type "type")) (e_NoPort : PySem.W.excIn K ca_NoPort [.type "ValueError", .type "Exception", .type "BaseException", .type "object"] "ValueError.__new__" = true) (k_NoPort : PySem.W.keepIn K (.ref ca_NoPort) = true) (b_NoPort : PySem.W.subIn K (.ref ca_NoPort) (.type "BaseException") = some true) (t_NoPort : PySem.W.typeIn K (.ref ca_NoPort) = some (.type "type")) (e_NoSegment : PySem.W.excIn K ca_NoSegment [.type "ValueError", .type "Exception", .type "BaseException", .type "object"] "ValueError.__new__" = true) (k_NoSegment : PySem.W.keepIn K (.ref ca_NoSegment) = true) (b_NoSegment : PySem.W.subIn K (.ref ca_NoSegment) (.type "BaseException") = some true) (t_NoSegment : PySem.W.typeIn K (.ref ca_NoSegment) = some (.type "type")) (e_NoSize : PySem.W.excIn K ca_NoSize [.type "ValueError", .type "Exception", .type "BaseException", .type "object"] "ValueError.__new__" = true) (k_NoSize : PySem.W.keepIn K (.ref ca_NoSize) = true) (b_NoSize : PySem.W.subIn K (.ref ca_NoSize) (.type "BaseException") = some true) (t_NoSize : PySem.W.typeIn K (.ref ca_NoSize) = some (.type "type")) (e_NoTick : PySem.W.excIn K ca_NoTick [.type "ValueError", .type "Exception", .type "BaseException", .type "object"] "ValueError.__new__" = true) (k_NoTick : PySem.W.keepIn K (.ref ca_NoTick) = true) (b_NoTick : PySem.W.subIn K (.ref ca_NoTick) (.type "BaseException") = some true) (t_NoTick : PySem.W.typeIn K (.ref ca_NoTick) = some (.type "type")) (cl_Giver : Cls K ca_Giver) (mk_Giver : PySem.W.makesIn K ca_Giver = true) (kc_Giver : PySem.W.keepIn K (.ref ca_Giver) = true) (n_Giver_base : PySem.W.findIn K (.ref ca_Giver) "base" = some none) (n_Giver_finished : PySem.W.findIn K (.ref ca_Giver) "finished" = some none) (n_Giver_first_wait : PySem.W.findIn K (.ref ca_Giver) "first_wait" = some none) (n_Giver_kept : PySem.W.findIn K (.ref ca_Giver) "kept" = some none) (n_Giver_most : PySem.W.findIn K (.ref ca_Giver) "most" = some none) (n_Giver_now : PySem.W.findIn K (.ref ca_Giver) "now" = some none) (n_Giver_pace : PySem.W.findIn K (.ref ca_Giver) "pace" = some none) (n_Giver_passed : PySem.W.findIn K (.ref ca_Giver) "passed" = some none) (n_Giver_reach : PySem.W.findIn K (.ref ca_Giver) "reach" = some none) (n_Giver_sent : PySem.W.findIn K (.ref ca_Giver) "sent" = some none) (n_Giver_since : PySem.W.findIn K (.ref ca_Giver) "since" = some none) (n_Giver_tried : PySem.W.findIn K (.ref ca_Giver) "tried" = some none) (n_Giver_wait : PySem.W.findIn K (.ref ca_Giver) "wait" = some none) (cl_Segment : Cls K ca_Segment) (mk_Segment : PySem.W.makesIn K ca_Segment = true) (kc_Segment : PySem.W.keepIn K (.ref ca_Segment) = true) (n_Segment_answer : PySem.W.findIn K (.ref ca_Segment) "answer" = some none) (n_Segment_data : PySem.W.findIn K (.ref ca_Segment) "data" = some none) (n_Segment_marks : PySem.W.findIn K (.ref ca_Segment) "marks" = some none) (n_Segment_number : PySem.W.findIn K (.ref ca_Segment) "number" = some none) (n_Segment_room : PySem.W.findIn K (.ref ca_Segment) "room" = some none) (n_Segment_source : PySem.W.findIn K (.ref ca_Segment) "source" = some none) (n_Segment_target : PySem.W.findIn K (.ref ca_Segment) "target" = some none) (cl_Taker : Cls K ca_Taker) (mk_Taker : PySem.W.makesIn K ca_Taker = true) (kc_Taker : PySem.W.keepIn K (.ref ca_Taker) = true) (n_Taker_ahead : PySem.W.findIn K (.ref ca_Taker) "ahead" = some none) (n_Taker_over : PySem.W.findIn K (.ref ca_Taker) "over" = some none) (n_Taker_unread : PySem.W.findIn K (.ref ca_Taker) "unread" = some none) (n_Taker_wanted : PySem.W.findIn K (.ref ca_Taker) "wanted" = some none) (n_Taker_whole_room : PySem.W.findIn K (.ref ca_Taker) "whole_room" = some none) (cl_Talk : Cls K ca_Talk) (mk_Talk : PySem.W.makesIn K ca_Talk = true) (kc_Talk : PySem.W.keepIn K (.ref ca_Talk) = true) (n_Talk_begun_with : PySem.W.findIn K (.ref ca_Talk) "begun_with" = some none) (n_Talk_ending : PySem.W.findIn K (.ref ca_Talk) "ending" = some none) (n_Talk_finished : PySem.W.findIn K (.ref ca_Talk) "finished" = some none) (n_Talk_giver : PySem.W.findIn K (.ref ca_Talk) "giver" = some none) (n_Talk_here : PySem.W.findIn K (.ref ca_Talk) "here" = some none) (n_Talk_last_tick : PySem.W.findIn K (.ref ca_Talk) "last_tick" = some none) (n_Talk_other_first : PySem.W.findIn K (.ref ca_Talk) "other_first" = some none) (n_Talk_rested : PySem.W.findIn K (.ref ca_Talk) "rested" = some none) (n_Talk_taker : PySem.W.findIn K (.ref ca_Talk) "taker" = some none) (n_Talk_there : PySem.W.findIn K (.ref ca_Talk) "there" = some none) (in_Giver : DL.InC K ca_Giver) (in_Segment : DL.InC K ca_Segment) (in_Taker : DL.InC K ca_Taker) (in_Talk : DL.InC K ca_Talk) (x_NoData : ExcC K ca_NoData) (x_NoNumber : ExcC K ca_NoNumber) (x_NoPort : ExcC K ca_NoPort) (x_NoSegment : ExcC K ca_NoSegment) (x_NoSize : ExcC K ca_NoSize) (x_NoTick : ExcC K ca_NoTick) (i_Giver_bool : PySem.W.kitOne K (.ref ca_Giver) (.type "bool") = some false) (i_Giver_int : PySem.W.kitOne K (.ref ca_Giver) (.type "int") = some false) (i_Giver_str : PySem.W.kitOne K (.ref ca_Giver) (.type "str") = some false) (i_Giver_tuple : PySem.W.kitOne K (.ref ca_Giver) (.type "tuple") = some false) (i_Segment_bool : PySem.W.kitOne K (.ref ca_Segment) (.type "bool") = some false) (i_Segment_int : PySem.W.kitOne K (.ref ca_Segment) (.type "int") = some false) (i_Segment_str : PySem.W.kitOne K (.ref ca_Segment) (.type "str") = some false) (i_Segment_tuple : PySem.W.kitOne K (.ref ca_Segment) (.type "tuple") = some false) (i_Taker_bool : PySem.W.kitOne K (.ref ca_Taker) (.type "bool") = some false) (i_Taker_int : PySem.W.kitOne K (.ref ca_Taker) (.type "int") = some false) (i_Taker_str : PySem.W.kitOne K (.ref ca_Taker) (.type "str") = some false) (i_Taker_tuple : PySem.W.kitOne K (.ref ca_Taker) (.type "tuple") = some false) (i_Talk_bool : PySem.W.kitOne K (.ref ca_Talk) (.type "bool") = some false) (i_Talk_int : PySem.W.kitOne K (.ref ca_Talk) (.type "int") = some false) (i_Talk_str : PySem.W.kitOne K (.ref ca_Talk) (.type "str") = some false) (i_Talk_tuple : PySem.W.kitOne K (.ref ca_Talk) (.type "tuple") = some false) (i_NoData_bool : PySem.W.kitOne K (.ref ca_NoData) (.type "bool") = some false) (i_NoData_int : PySem.W.kitOne K (.ref ca_NoData) (.type "int") = some false) (i_NoData_str : PySem.W.kitOne K (.ref ca_NoData) (.type "str") = some false) (i_NoData_tuple : PySem.W.kitOne K (.ref ca_NoData) (.type "tuple") = some false) (i_NoNumber_bool : PySem.W.kitOne K (.ref ca_NoNumber) (.type "bool") = some false) (i_NoNumber_int : PySem.W.kitOne K (.ref ca_NoNumber) (.type "int") = some false) (i_NoNumber_str : PySem.W.kitOne K (.ref ca_NoNumber) (.type "str") = some false) (i_NoNumber_tuple : PySem.W.kitOne K (.ref ca_NoNumber) (.type "tuple") = some false) (i_NoPort_bool : PySem.W.kitOne K (.ref ca_NoPort) (.type "bool") = some false) (i_NoPort_int : PySem.W.kitOne K (.ref ca_NoPort) (.type "int") = some false) (i_NoPort_str : PySem.W.kitOne K (.ref ca_NoPort) (.type "str") = some false) (i_NoPort_tuple : PySem.W.kitOne K (.ref ca_NoPort) (.type "tuple") = some false) (i_NoSegment_bool : PySem.W.kitOne K (.ref ca_NoSegment) (.type "bool") = some false) (i_NoSegment_int : PySem.W.kitOne K (.ref ca_NoSegment) (.type "int") = some false) (i_NoSegment_str : PySem.W.kitOne K (.ref ca_NoSegment) (.type "str") = some false) (i_NoSegment_tuple : PySem.W.kitOne K (.ref ca_NoSegment) (.type "tuple") = some false) (i_NoSize_bool : PySem.W.kitOne K (.ref ca_NoSize) (.type "bool") = some false) (i_NoSize_int : PySem.W.kitOne K (.ref ca_NoSize) (.type "int") = some false) (i_NoSize_str : PySem.W.kitOne K (.ref ca_NoSize) (.type "str") = some false) (i_NoSize_tuple : PySem.W.kitOne K (.ref ca_NoSize) (.type "tuple") = some false) (i_NoTick_bool : PySem.W.kitOne K (.ref ca_NoTick) (.type "bool") = some false) (i_NoTick_int : PySem.W.kitOne K (.ref ca_NoTick) (.type "int") = some false) (i_NoTick_str : PySem.W.kitOne K (.ref ca_NoTick) (.type "str") = some false) (i_NoTick_tuple : PySem.W.kitOne K (.ref ca_NoTick) (.type "tuple") = some false) :
    ∃ fd : FuncData, (∀ (s : Shared) (v : Value), BindsTo s fd ⟨[v], []⟩ [("_law_script", v)]) ∧ ∀ base : Heap, K.In base → base.Ns mainGlobals mg → FnOk l.prog w K mg base CX0 11 fa fd ["_law_script"] (spLaw K) := by
  have e := hfa.symm.trans (PySem.W.mg_of X G a65)
  cases e
  obtain ⟨ca, q_Giver, q_NoData, q_NoNumber, q_NoPort, q_NoSegment, q_NoSize, q_NoTick, q_Segment, q_Taker, q_Talk⟩ : ∃ ca : String → Addr, ca "Giver" = ca_Giver ∧ ca "NoData" = ca_NoData ∧ ca "NoNumber" = ca_NoNumber ∧ ca "NoPort" = ca_NoPort ∧ ca "NoSegment" = ca_NoSegment ∧ ca "NoSize" = ca_NoSize ∧ ca "NoTick" = ca_NoTick ∧ ca "Segment" = ca_Segment ∧ ca "Taker" = ca_Taker ∧ ca "Talk" = ca_Talk := ⟨fun x => if x = "Giver" then ca_Giver else if x = "NoData" then ca_NoData else if x = "NoNumber" then ca_NoNumber else if x = "NoPort" then ca_NoPort else if x = "NoSegment" then ca_NoSegment else if x = "NoSize" then ca_NoSize else if x = "NoTick" then ca_NoTick else if x = "Segment" then ca_Segment else if x = "Taker" then ca_Taker else if x = "Talk" then ca_Talk else 0, by simp, by simp, by simp, by simp, by simp, by simp, by simp, by simp, by simp, by simp⟩
  subst q_Giver q_NoData q_NoNumber q_NoPort q_NoSegment q_NoSize q_NoTick q_Segment q_Taker q_Talk
  have T : Txt K mg ca := ⟨PySem.W.mg_of X G g_Giver, PySem.W.mg_of X G g_NoData, PySem.W.mg_of X G g_NoNumber, PySem.W.mg_of X G g_NoPort, PySem.W.mg_of X G g_NoSegment, PySem.W.mg_of X G g_NoSize, PySem.W.mg_of X G g_NoTick, PySem.W.mg_of X G g_Segment, PySem.W.mg_of X G g_Taker, PySem.W.mg_of X G g_Talk, e_NoData, k_NoData, b_NoData, t_NoData, e_NoNumber, k_NoNumber, b_NoNumber, t_NoNumber, e_NoPort, k_NoPort, b_NoPort, t_NoPort, e_NoSegment, k_NoSegment, b_NoSegment, t_NoSegment, e_NoSize, k_NoSize, b_NoSize, t_NoSize, e_NoTick, k_NoTick, b_NoTick, t_NoTick, cl_Giver, mk_Giver, kc_Giver, n_Giver_base, n_Giver_finished, n_Giver_first_wait, n_Giver_kept, n_Giver_most, n_Giver_now, n_Giver_pace, n_Giver_passed, n_Giver_reach, n_Giver_sent, n_Giver_since, n_Giver_tried, n_Giver_wait, cl_Segment, mk_Segment, kc_Segment, n_Segment_answer, n_Segment_data, n_Segment_marks, n_Segment_number, n_Segment_room, n_Segment_source, n_Segment_target, cl_Taker, mk_Taker, kc_Taker, n_Taker_ahead, n_Taker_over, n_Taker_unread, n_Taker_wanted, n_Taker_whole_room, cl_Talk, mk_Talk, kc_Talk, n_Talk_begun_with, n_Talk_ending, n_Talk_finished, n_Talk_giver, n_Talk_here, n_Talk_last_tick, n_Talk_other_first, n_Talk_rested, n_Talk_taker, n_Talk_there, ⟨⟨in_Giver, by decide⟩, ⟨in_Segment, by decide⟩, ⟨in_Taker, by decide⟩, ⟨in_Talk, by decide⟩, trivial⟩, ⟨⟨x_NoData, by decide⟩, ⟨x_NoNumber, by decide⟩, ⟨x_NoPort, by decide⟩, ⟨x_NoSegment, by decide⟩, ⟨x_NoSize, by decide⟩, ⟨x_NoTick, by decide⟩, trivial⟩, (by unfold tb_; exact .cons (by simpa [vOf, btn] using i_Giver_bool) (.cons (by simpa [vOf, btn] using i_Giver_int) (.cons (by simpa [vOf, btn] using i_Giver_str) (.cons (by simpa [vOf, btn] using i_Giver_tuple) (.cons (by simpa [vOf, btn] using i_Segment_bool) (.cons (by simpa [vOf, btn] using i_Segment_int) (.cons (by simpa [vOf, btn] using i_Segment_str) (.cons (by simpa [vOf, btn] using i_Segment_tuple) (.cons (by simpa [vOf, btn] using i_Taker_bool) (.cons (by simpa [vOf, btn] using i_Taker_int) (.cons (by simpa [vOf, btn] using i_Taker_str) (.cons (by simpa [vOf, btn] using i_Taker_tuple) (.cons (by simpa [vOf, btn] using i_Talk_bool) (.cons (by simpa [vOf, btn] using i_Talk_int) (.cons (by simpa [vOf, btn] using i_Talk_str) (.cons (by simpa [vOf, btn] using i_Talk_tuple) (.cons (by simpa [vOf, btn] using i_NoData_bool) (.cons (by simpa [vOf, btn] using i_NoData_int) (.cons (by simpa [vOf, btn] using i_NoData_str) (.cons (by simpa [vOf, btn] using i_NoData_tuple) (.cons (by simpa [vOf, btn] using i_NoNumber_bool) (.cons (by simpa [vOf, btn] using i_NoNumber_int) (.cons (by simpa [vOf, btn] using i_NoNumber_str) (.cons (by simpa [vOf, btn] using i_NoNumber_tuple) (.cons (by simpa [vOf, btn] using i_NoPort_bool) (.cons (by simpa [vOf, btn] using i_NoPort_int) (.cons (by simpa [vOf, btn] using i_NoPort_str) (.cons (by simpa [vOf, btn] using i_NoPort_tuple) (.cons (by simpa [vOf, btn] using i_NoSegment_bool) (.cons (by simpa [vOf, btn] using i_NoSegment_int) (.cons (by simpa [vOf, btn] using i_NoSegment_str) (.cons (by simpa [vOf, btn] using i_NoSegment_tuple) (.cons (by simpa [vOf, btn] using i_NoSize_bool) (.cons (by simpa [vOf, btn] using i_NoSize_int) (.cons (by simpa [vOf, btn] using i_NoSize_str) (.cons (by simpa [vOf, btn] using i_NoSize_tuple) (.cons (by simpa [vOf, btn] using i_NoTick_bool) (.cons (by simpa [vOf, btn] using i_NoTick_int) (.cons (by simpa [vOf, btn] using i_NoTick_str) (.cons (by simpa [vOf, btn] using i_NoTick_tuple) (.nil))))))))))))))))))))))))))))))))))))))))), PySem.W.mg_none_of X G z_all, PySem.W.mg_none_of X G z_bool, PySem.W.mg_none_of X G z_enumerate, PySem.W.mg_none_of X G z_int, PySem.W.mg_none_of X G z_isinstance, PySem.W.mg_none_of X G z_len, PySem.W.mg_none_of X G z_max, PySem.W.mg_none_of X G z_min, PySem.W.mg_none_of X G z_range, PySem.W.mg_none_of X G z_str, PySem.W.mg_none_of X G z_tuple, ⟨_, PySem.W.mg_of X G y_FIRST_WAIT⟩, ⟨_, PySem.W.mg_of X G y_LEAST_SIZE⟩, ⟨_, PySem.W.mg_of X G y_LETTERS⟩, ⟨_, PySem.W.mg_of X G y_LONGEST⟩, ⟨_, PySem.W.mg_of X G y_MOST_BYTE⟩, ⟨_, PySem.W.mg_of X G y_MOST_DATA_bits⟩, ⟨_, PySem.W.mg_of X G y_MOST_DATA_segments⟩, ⟨_, PySem.W.mg_of X G y_MOST_IN_PAIR⟩, ⟨_, PySem.W.mg_of X G y_MOST_ITEMS⟩, ⟨_, PySem.W.mg_of X G y_MOST_KEPT⟩, ⟨_, PySem.W.mg_of X G y_MOST_NUMBER⟩, ⟨_, PySem.W.mg_of X G y_MOST_ROOM_segments⟩, ⟨_, PySem.W.mg_of X G y_MOST_ROOM_takers⟩, ⟨_, PySem.W.mg_of X G y_MOST_SIZE⟩, ⟨_, PySem.W.mg_of X G y_MOST_TRIES⟩, ⟨_, PySem.W.mg_of X G y_RESTS⟩, ⟨_, PySem.W.mg_of X G y_ROOM⟩, ⟨_, PySem.W.mg_of X G y_SIZE_givers⟩, ⟨_, PySem.W.mg_of X G y_SIZE_takers⟩, ⟨_, PySem.W.mg_of X G y_SIZE_talks⟩, True.intro⟩
  have F0 := fun_mk (st := s_l_mixed) l0 c0 k0
  have b0 := F0.binds (ps := ["_law_cell", "_law_k"]) fun _ _ _ _ _ _ us hl => match us, hl with | [_, _], _ => rfl
  have F1 := fun_mk (st := s_l_draw) l1 c1 k1
  have b1 := F1.binds (ps := ["_law_script", "_law_k", "_law_count"]) fun _ _ _ _ _ _ us hl => match us, hl with | [_, _, _], _ => rfl
  have F2 := fun_mk (st := s_are_marks) l2 c2 k2
  have b2 := F2.binds (ps := ["thing"]) fun _ _ _ _ _ _ us hl => match us, hl with | [_], _ => rfl
  have F3 := fun_mk (st := s_is_whole) l3 c3 k3
  have b3 := F3.binds (ps := ["thing", "least", "most"]) fun _ _ _ _ _ _ us hl => match us, hl with | [_, _, _], _ => rfl
  have F4 := fun_mk (st := s_is_data) l4 c4 k4
  have b4 := F4.binds (ps := ["thing"]) fun _ _ _ _ _ _ us hl => match us, hl with | [_], _ => rfl
  have F5 := fun_mk (st := s_is_from_nought) l5 c5 k5
  have b5 := F5.binds (ps := ["thing", "most"]) fun _ _ _ _ _ _ us hl => match us, hl with | [_, _], _ => rfl
  have F6 := fun_mk (st := s_Segment___init__) l6 c6 k6
  have b6 := F6.binds (ps := ["self", "source", "target", "marks", "number", "answer", "room", "data"]) fun _ _ _ _ _ _ us hl => match us, hl with | [_, _, _, _, _, _, _, _], _ => rfl
  have F7 := fun_mk (st := s_Giver_finish) l7 c7 k7
  have b7 := F7.binds (ps := ["self"]) fun _ _ _ _ _ _ us hl => match us, hl with | [_], _ => rfl
  have F8 := fun_mk (st := s_Taker_ended) l8 c8 k8
  have b8 := F8.binds (ps := ["self"]) fun _ _ _ _ _ _ us hl => match us, hl with | [_], _ => rfl
  have F9 := fun_mk (st := s_Giver_answered) l9 c9 k9
  have b9 := F9.binds (ps := ["self"]) fun _ _ _ _ _ _ us hl => match us, hl with | [_], _ => rfl
  have F10 := fun_mk (st := s_Talk_is_open) l10 c10 k10
  have b10 := F10.binds (ps := ["self"]) fun _ _ _ _ _ _ us hl => match us, hl with | [_], _ => rfl
  have F11 := fun_mk (st := s_Talk_stand) l11 c11 k11
  have b11 := F11.binds (ps := ["self"]) fun _ _ _ _ _ _ us hl => match us, hl with | [_], _ => rfl
  have F12 := fun_mk (st := s_Talk_is_over) l12 c12 k12
  have b12 := F12.binds (ps := ["self"]) fun _ _ _ _ _ _ us hl => match us, hl with | [_], _ => rfl
  have F13 := fun_mk (st := s_Talk_finish) l13 c13 k13
  have b13 := F13.binds (ps := ["self"]) fun _ _ _ _ _ _ us hl => match us, hl with | [_], _ => rfl
  have F14 := fun_mk (st := s_is_within) l14 c14 k14
  have b14 := F14.binds (ps := ["thing", "least", "most"]) fun _ _ _ _ _ _ us hl => match us, hl with | [_, _, _], _ => rfl
  have F15 := fun_mk (st := s_Taker___init__) l15 c15 k15
  have b15 := F15.binds (ps := ["self", "first", "room"]) fun _ _ _ _ _ _ us hl => match us, hl with | [_, _, _], _ => rfl
  have F16 := fun_mk (st := s_need_number) l16 c16 k16
  have b16 := F16.binds (ps := ["number", "size"]) fun _ _ _ _ _ _ us hl => match us, hl with | [_, _], _ => rfl
  have F17 := fun_mk (st := s_need_size) l17 c17 k17
  have b17 := F17.binds (ps := ["size"]) fun _ _ _ _ _ _ us hl => match us, hl with | [_], _ => rfl
  have F18 := fun_mk (st := s_moved) l18 c18 k18
  have b18 := F18.binds (ps := ["number", "by", "size"]) fun _ _ _ _ _ _ us hl => match us, hl with | [_, _, _], _ => rfl
  have F19 := fun_mk (st := s_Talk_begin_taker) l19 c19 k19
  have b19 := F19.binds (ps := ["self", "number"]) fun _ _ _ _ _ _ us hl => match us, hl with | [_, _], _ => rfl
  have F20 := fun_mk (st := s_Giver_is_counted) l20 c20 k20
  have b20 := F20.binds (ps := ["self"]) fun _ _ _ _ _ _ us hl => match us, hl with | [_], _ => rfl
  have F21 := fun_mk (st := s_Giver_count) l21 c21 k21
  have b21 := F21.binds (ps := ["self", "tick"]) fun _ _ _ _ _ _ us hl => match us, hl with | [_, _], _ => rfl
  have F22 := fun_mk (st := s_is_number_givers) l22 c22 k22
  have b22 := F22.binds (ps := ["thing", "least"]) fun _ _ _ _ _ _ us hl => match us, hl with | [_, _], _ => rfl
  have F23 := fun_mk (st := s_Giver_need_tick) l23 c23 k23
  have b23 := F23.binds (ps := ["self", "tick"]) fun _ _ _ _ _ _ us hl => match us, hl with | [_, _], _ => rfl
  have F24 := fun_mk (st := s_far) l24 c24 k24
  have b24 := F24.binds (ps := ["one", "other", "size"]) fun _ _ _ _ _ _ us hl => match us, hl with | [_, _, _], _ => rfl
  have F25 := fun_mk (st := s_Giver_heard) l25 c25 k25
  have b25 := F25.binds (ps := ["self", "answer", "room", "tick"]) fun _ _ _ _ _ _ us hl => match us, hl with | [_, _, _, _], _ => rfl
  have F26 := fun_mk (st := s_Giver_left) l26 c26 k26
  have b26 := F26.binds (ps := ["self"]) fun _ _ _ _ _ _ us hl => match us, hl with | [_], _ => rfl
  have F27 := fun_mk (st := s_Giver_next_number) l27 c27 k27
  have b27 := F27.binds (ps := ["self"]) fun _ _ _ _ _ _ us hl => match us, hl with | [_], _ => rfl
  have F28 := fun_mk (st := s_Segment_numbered) l28 c28 k28
  have b28 := F28.binds (ps := ["self"]) fun _ _ _ _ _ _ us hl => match us, hl with | [_], _ => rfl
  have F29 := fun_mk (st := s_Taker_free) l29 c29 k29
  have b29 := F29.binds (ps := ["self"]) fun _ _ _ _ _ _ us hl => match us, hl with | [_], _ => rfl
  have F30 := fun_mk (st := s_Taker_wants) l30 c30 k30
  have b30 := F30.binds (ps := ["self"]) fun _ _ _ _ _ _ us hl => match us, hl with | [_], _ => rfl
  have F31 := fun_mk (st := s_Talk_made) l31 c31 k31
  have b31 := F31.binds (ps := ["self", "marks", "number", "data"]) fun _ _ _ _ _ _ us hl => match us, hl with | [_, _, _, _], _ => rfl
  have F32 := fun_mk (st := s_Taker_come_ready) l32 c32 k32
  have b32 := F32.binds (ps := ["self", "item"]) fun _ _ _ _ _ _ us hl => match us, hl with | [_, _], _ => rfl
  have F33 := fun_mk (st := s_Taker_take) l33 c33 k33
  have b33 := F33.binds (ps := ["self", "number", "items"]) fun _ _ _ _ _ _ us hl => match us, hl with | [_, _, _], _ => rfl
  have F34 := fun_mk (st := s_Talk_take) l34 c34 k34
  have b34 := F34.binds (ps := ["self", "number", "items"]) fun _ _ _ _ _ _ us hl => match us, hl with | [_, _, _], _ => rfl
  have F35 := fun_mk (st := s_Talk_counted) l35 c35 k35
  have b35 := F35.binds (ps := ["self", "segment", "tick"]) fun _ _ _ _ _ _ us hl => match us, hl with | [_, _, _], _ => rfl
  have F36 := fun_mk (st := s_Talk_is_answer) l36 c36 k36
  have b36 := F36.binds (ps := ["self", "answer"]) fun _ _ _ _ _ _ us hl => match us, hl with | [_, _], _ => rfl
  have F37 := fun_mk (st := s_Talk_is_cut_by) l37 c37 k37
  have b37 := F37.binds (ps := ["self", "segment"]) fun _ _ _ _ _ _ us hl => match us, hl with | [_, _], _ => rfl
  have F38 := fun_mk (st := s_need_tick) l38 c38 k38
  have b38 := F38.binds (ps := ["tick", "last"]) fun _ _ _ _ _ _ us hl => match us, hl with | [_, _], _ => rfl
  have F39 := fun_mk (st := s_Talk_pass_to) l39 c39 k39
  have b39 := F39.binds (ps := ["self", "tick"]) fun _ _ _ _ _ _ us hl => match us, hl with | [_, _], _ => rfl
  have F40 := fun_mk (st := s_Talk_heard) l40 c40 k40
  have b40 := F40.binds (ps := ["self", "segment", "tick"]) fun _ _ _ _ _ _ us hl => match us, hl with | [_, _, _], _ => rfl
  have F41 := fun_mk (st := s_Taker_read) l41 c41 k41
  have b41 := F41.binds (ps := ["self", "many"]) fun _ _ _ _ _ _ us hl => match us, hl with | [_, _], _ => rfl
  have F42 := fun_mk (st := s_Talk_read) l42 c42 k42
  have b42 := F42.binds (ps := ["self", "many"]) fun _ _ _ _ _ _ us hl => match us, hl with | [_, _], _ => rfl
  have F43 := fun_mk (st := s_Taker_ready) l43 c43 k43
  have b43 := F43.binds (ps := ["self"]) fun _ _ _ _ _ _ us hl => match us, hl with | [_], _ => rfl
  have F44 := fun_mk (st := s_Talk_ready) l44 c44 k44
  have b44 := F44.binds (ps := ["self"]) fun _ _ _ _ _ _ us hl => match us, hl with | [_], _ => rfl
  have F45 := fun_mk (st := s_Giver_write) l45 c45 k45
  have b45 := F45.binds (ps := ["self", "data"]) fun _ _ _ _ _ _ us hl => match us, hl with | [_, _], _ => rfl
  have F46 := fun_mk (st := s_Talk_write) l46 c46 k46
  have b46 := F46.binds (ps := ["self", "data"]) fun _ _ _ _ _ _ us hl => match us, hl with | [_, _], _ => rfl
  have F47 := fun_mk (st := s_Giver_again) l47 c47 k47
  have b47 := F47.binds (ps := ["self", "tick"]) fun _ _ _ _ _ _ us hl => match us, hl with | [_, _], _ => rfl
  have F48 := fun_mk (st := s_Giver_due) l48 c48 k48
  have b48 := F48.binds (ps := ["self", "tick"]) fun _ _ _ _ _ _ us hl => match us, hl with | [_, _], _ => rfl
  have F49 := fun_mk (st := s_Giver_tries) l49 c49 k49
  have b49 := F49.binds (ps := ["self"]) fun _ _ _ _ _ _ us hl => match us, hl with | [_], _ => rfl
  have F50 := fun_mk (st := s_Talk_segment_of) l50 c50 k50
  have b50 := F50.binds (ps := ["self", "number", "items"]) fun _ _ _ _ _ _ us hl => match us, hl with | [_, _, _], _ => rfl
  have F51 := fun_mk (st := s_Talk_due) l51 c51 k51
  have b51 := F51.binds (ps := ["self", "tick"]) fun _ _ _ _ _ _ us hl => match us, hl with | [_, _], _ => rfl
  have F52 := fun_mk (st := s_l_brought) l52 c52 k52
  have b52 := F52.binds (ps := ["_law_talks", "_law_end", "_law_tick", "_law_lost"]) fun _ _ _ _ _ _ us hl => match us, hl with | [_, _, _, _], _ => rfl
  have F53 := fun_mk (st := s_l_next) l53 c53 k53
  have b53 := F53.binds (ps := ["_law_draw_here", "_law_size"]) fun _ _ _ _ _ _ us hl => match us, hl with | [_, _], _ => rfl
  have F54 := fun_mk (st := s_l_bytes) l54 c54 k54
  have b54 := F54.binds (ps := ["_law_draw_here", "_law_many"]) fun _ _ _ _ _ _ us hl => match us, hl with | [_, _], _ => rfl
  have F55 := fun_mk (st := s_Talk_cut) l55 c55 k55
  have b55 := F55.binds (ps := ["self"]) fun _ _ _ _ _ _ us hl => match us, hl with | [_], _ => rfl
  have F56 := fun_mk (st := s_l_closes) l56 c56 k56
  have b56 := F56.binds (ps := ["_law_talk", "_law_since", "_law_segment"]) fun _ _ _ _ _ _ us hl => match us, hl with | [_, _, _], _ => rfl
  have F57 := fun_mk (st := s_l_left_right) l57 c57 k57
  have b57 := F57.binds (ps := ["_law_talks", "_law_tick", "_law_lost"]) fun _ _ _ _ _ _ us hl => match us, hl with | [_, _, _], _ => rfl
  have F58 := fun_mk (st := s_l_moved) l58 c58 k58
  have b58 := F58.binds (ps := ["_law_number", "_law_by"]) fun _ _ _ _ _ _ us hl => match us, hl with | [_, _], _ => rfl
  have F59 := fun_mk (st := s_Giver___init__) l59 c59 k59
  have b59 := F59.binds (ps := ["self", "first", "most", "wait"]) fun _ _ _ _ _ _ us hl => match us, hl with | [_, _, _, _], _ => rfl
  have F60 := fun_mk (st := s_is_number_talks) l60 c60 k60
  have b60 := F60.binds (ps := ["thing", "beyond"]) fun _ _ _ _ _ _ us hl => match us, hl with | [_, _], _ => rfl
  have F61 := SM.funD_mk (st := s_Talk___init__) l61 u61 v61 c61 k61
  have b61 := F61.binds1 (ps := ["self", "here", "there", "first", "tick", "opening"]) 6 1 (by simp) rfl fun _ _ _ _ _ _ _ us its hl hi => match us, its, hl, hi with | [_, _, _, _, _, _], [_], _, _ => ⟨_, rfl, rfl⟩
  have e61 := F61.binds1 (ps := ["self", "here", "there", "first", "tick", "opening"]) 5 0 (by simp) rfl fun _ _ _ _ _ _ _ us its hl hi => match us, its, hl, hi with | [_, _, _, _, _], [_], _, _ => ⟨_, rfl, rfl⟩
  have F62 := fun_mk (st := s_l_first) l62 c62 k62
  have b62 := F62.binds (ps := ["_law_draw_here"]) fun _ _ _ _ _ _ us hl => match us, hl with | [_], _ => rfl
  have F63 := fun_mk (st := s_l_pair) l63 c63 k63
  have b63 := F63.binds (ps := ["_law_draw_here", "_law_tick"]) fun _ _ _ _ _ _ us hl => match us, hl with | [_, _], _ => rfl
  have F64 := fun_mk (st := s_l_right) l64 c64 k64
  have b64 := F64.binds (ps := ["_law_draw_here"]) fun _ _ _ _ _ _ us hl => match us, hl with | [_], _ => rfl
  have F65 := fun_mk (st := s_law) l65 c65 k65
  have b65 := F65.binds (ps := ["_law_script"]) fun _ _ _ _ _ _ us hl => match us, hl with | [_], _ => rfl
  refine ⟨PySem.W.fnOf "law" "law" (defArgs s_law) (defBody s_law) (defScope s_law) .none kV65 dc65 pm65 an65 cd65 ct65, fun s v => .of_eq rfl, fun base _ _ => ?_⟩
  have C_l_mixed := Dx.of2 (ok_l_mixed (P := l.prog) (w := w) (mg := mg) (base := base) T F0 ) F0 (PySem.W.mg_of X G a0) b0
  have C_l_draw := Dx.of2 (ok_l_draw (P := l.prog) (w := w) (mg := mg) (base := base) T F1 C_l_mixed) F1 (PySem.W.mg_of X G a1) b1
  have C_are_marks := Dx.of2 (ok_are_marks (P := l.prog) (w := w) (mg := mg) (base := base) T F2 ) F2 (PySem.W.mg_of X G a2) b2
  have C_is_whole := Dx.of2 (ok_is_whole (P := l.prog) (w := w) (mg := mg) (base := base) T F3 ) F3 (PySem.W.mg_of X G a3) b3
  have C_is_data := Dx.of2 (ok_is_data (P := l.prog) (w := w) (mg := mg) (base := base) T F4 C_is_whole) F4 (PySem.W.mg_of X G a4) b4
  have C_is_from_nought := Dx.of2 (ok_is_from_nought (P := l.prog) (w := w) (mg := mg) (base := base) T F5 ) F5 (PySem.W.mg_of X G a5) b5
  have M_Segment := Mx.of ⟨mk_Segment, a6, i6, kc_Segment⟩ (ok_Segment___init__ (P := l.prog) (w := w) (mg := mg) (base := base) T F6 C_are_marks C_is_data C_is_from_nought) (PySem.W.mg_of X G g_Segment) b6
  have M_Giver_finish := SM.Mt.of ⟨a7, i7, k7⟩ (ok_Giver_finish (P := l.prog) (w := w) (mg := mg) (base := base) T F7 ) b7
  have M_Taker_ended := SM.Mt.of ⟨a8, i8, k8⟩ (ok_Taker_ended (P := l.prog) (w := w) (mg := mg) (base := base) T F8 ) b8
  have M_Giver_answered := SM.Mt.of ⟨a9, i9, k9⟩ (ok_Giver_answered (P := l.prog) (w := w) (mg := mg) (base := base) T F9 ) b9
  have M_Talk_is_open := SM.Mt.of ⟨a10, i10, k10⟩ (ok_Talk_is_open (P := l.prog) (w := w) (mg := mg) (base := base) T F10 M_Giver_answered) b10
  have M_Talk_stand := SM.Mt.of ⟨a11, i11, k11⟩ (ok_Talk_stand (P := l.prog) (w := w) (mg := mg) (base := base) T F11 M_Taker_ended M_Talk_is_open) b11
  have M_Talk_is_over := SM.Mt.of ⟨a12, i12, k12⟩ (ok_Talk_is_over (P := l.prog) (w := w) (mg := mg) (base := base) T F12 M_Talk_stand) b12
  have M_Talk_finish := SM.Mt.of ⟨a13, i13, k13⟩ (ok_Talk_finish (P := l.prog) (w := w) (mg := mg) (base := base) T F13 M_Giver_finish M_Talk_is_over) b13
  have C_is_within := Dx.of2 (ok_is_within (P := l.prog) (w := w) (mg := mg) (base := base) T F14 ) F14 (PySem.W.mg_of X G a14) b14
  have M_Taker := Mx.of ⟨mk_Taker, a15, i15, kc_Taker⟩ (ok_Taker___init__ (P := l.prog) (w := w) (mg := mg) (base := base) T F15 C_is_within) (PySem.W.mg_of X G g_Taker) b15
  have C_need_number := Dx.of2 (ok_need_number (P := l.prog) (w := w) (mg := mg) (base := base) T F16 ) F16 (PySem.W.mg_of X G a16) b16
  have C_need_size := Dx.of2 (ok_need_size (P := l.prog) (w := w) (mg := mg) (base := base) T F17 ) F17 (PySem.W.mg_of X G a17) b17
  have C_moved := Dx.of2 (ok_moved (P := l.prog) (w := w) (mg := mg) (base := base) T F18 C_need_number C_need_size) F18 (PySem.W.mg_of X G a18) b18
  have M_Talk_begin_taker := SM.Mt.of ⟨a19, i19, k19⟩ (ok_Talk_begin_taker (P := l.prog) (w := w) (mg := mg) (base := base) T F19 M_Taker C_moved) b19
  have M_Giver_is_counted := SM.Mt.of ⟨a20, i20, k20⟩ (ok_Giver_is_counted (P := l.prog) (w := w) (mg := mg) (base := base) T F20 ) b20
  have M_Giver_count := SM.Mt.of ⟨a21, i21, k21⟩ (ok_Giver_count (P := l.prog) (w := w) (mg := mg) (base := base) T F21 M_Giver_is_counted) b21
  have C_is_number_givers := Dx.of2 (ok_is_number_givers (P := l.prog) (w := w) (mg := mg) (base := base) T F22 ) F22 (PySem.W.mg_of X G a22) b22
  have M_Giver_need_tick := SM.Mt.of ⟨a23, i23, k23⟩ (ok_Giver_need_tick (P := l.prog) (w := w) (mg := mg) (base := base) T F23 C_is_number_givers) b23
  have C_far := Dx.of2 (ok_far (P := l.prog) (w := w) (mg := mg) (base := base) T F24 C_need_number C_need_size) F24 (PySem.W.mg_of X G a24) b24
  have M_Giver_heard := SM.Mt.of ⟨a25, i25, k25⟩ (ok_Giver_heard (P := l.prog) (w := w) (mg := mg) (base := base) T F25 M_Giver_count M_Giver_need_tick C_far) b25
  have M_Giver_left := SM.Mt.of ⟨a26, i26, k26⟩ (ok_Giver_left (P := l.prog) (w := w) (mg := mg) (base := base) T F26 ) b26
  have M_Giver_next_number := SM.Mt.of ⟨a27, i27, k27⟩ (ok_Giver_next_number (P := l.prog) (w := w) (mg := mg) (base := base) T F27 C_moved) b27
  have M_Segment_numbered := SM.Mt.of ⟨a28, i28, k28⟩ (ok_Segment_numbered (P := l.prog) (w := w) (mg := mg) (base := base) T F28 ) b28
  have M_Taker_free := SM.Mt.of ⟨a29, i29, k29⟩ (ok_Taker_free (P := l.prog) (w := w) (mg := mg) (base := base) T F29 ) b29
  have M_Taker_wants := SM.Mt.of ⟨a30, i30, k30⟩ (ok_Taker_wants (P := l.prog) (w := w) (mg := mg) (base := base) T F30 M_Taker_free) b30
  have M_Talk_made := SM.Mt.of ⟨a31, i31, k31⟩ (ok_Talk_made (P := l.prog) (w := w) (mg := mg) (base := base) T F31 M_Segment M_Taker_wants) b31
  have M_Taker_come_ready := SM.Mt.of ⟨a32, i32, k32⟩ (ok_Taker_come_ready (P := l.prog) (w := w) (mg := mg) (base := base) T F32 C_moved) b32
  have M_Taker_take := SM.Mt.of ⟨a33, i33, k33⟩ (ok_Taker_take (P := l.prog) (w := w) (mg := mg) (base := base) T F33 M_Taker_come_ready M_Taker_wants C_far C_moved) b33
  have M_Talk_take := SM.Mt.of ⟨a34, i34, k34⟩ (ok_Talk_take (P := l.prog) (w := w) (mg := mg) (base := base) T F34 M_Taker_take C_moved) b34
  have M_Talk_counted := SM.Mt.of ⟨a35, i35, k35⟩ (ok_Talk_counted (P := l.prog) (w := w) (mg := mg) (base := base) T F35 M_Giver_heard M_Giver_left M_Giver_next_number M_Segment_numbered M_Taker_ended M_Talk_made M_Talk_take) b35
  have M_Talk_is_answer := SM.Mt.of ⟨a36, i36, k36⟩ (ok_Talk_is_answer (P := l.prog) (w := w) (mg := mg) (base := base) T F36 M_Giver_answered M_Giver_next_number M_Talk_is_open C_far C_moved) b36
  have M_Talk_is_cut_by := SM.Mt.of ⟨a37, i37, k37⟩ (ok_Talk_is_cut_by (P := l.prog) (w := w) (mg := mg) (base := base) T F37 M_Taker_wants M_Talk_is_open C_far) b37
  have C_need_tick := Dx.of2 (ok_need_tick (P := l.prog) (w := w) (mg := mg) (base := base) T F38 ) F38 (PySem.W.mg_of X G a38) b38
  have M_Talk_pass_to := SM.Mt.of ⟨a39, i39, k39⟩ (ok_Talk_pass_to (P := l.prog) (w := w) (mg := mg) (base := base) T F39 C_need_tick) b39
  have M_Talk_heard := SM.Mt.of ⟨a40, i40, k40⟩ (ok_Talk_heard (P := l.prog) (w := w) (mg := mg) (base := base) T F40 M_Talk_begin_taker M_Talk_counted M_Talk_is_answer M_Talk_is_cut_by M_Talk_is_open M_Talk_is_over M_Talk_made M_Talk_pass_to) b40
  have M_Taker_read := SM.Mt.of ⟨a41, i41, k41⟩ (ok_Taker_read (P := l.prog) (w := w) (mg := mg) (base := base) T F41 C_is_within) b41
  have M_Talk_read := SM.Mt.of ⟨a42, i42, k42⟩ (ok_Talk_read (P := l.prog) (w := w) (mg := mg) (base := base) T F42 M_Taker_read) b42
  have M_Taker_ready := SM.Mt.of ⟨a43, i43, k43⟩ (ok_Taker_ready (P := l.prog) (w := w) (mg := mg) (base := base) T F43 ) b43
  have M_Talk_ready := SM.Mt.of ⟨a44, i44, k44⟩ (ok_Talk_ready (P := l.prog) (w := w) (mg := mg) (base := base) T F44 M_Taker_ready) b44
  have M_Giver_write := SM.Mt.of ⟨a45, i45, k45⟩ (ok_Giver_write (P := l.prog) (w := w) (mg := mg) (base := base) T F45 C_is_data) b45
  have M_Talk_write := SM.Mt.of ⟨a46, i46, k46⟩ (ok_Talk_write (P := l.prog) (w := w) (mg := mg) (base := base) T F46 M_Giver_write M_Talk_is_over C_is_data) b46
  have M_Giver_again := SM.Mt.of ⟨a47, i47, k47⟩ (ok_Giver_again (P := l.prog) (w := w) (mg := mg) (base := base) T F47 ) b47
  have M_Giver_due := SM.Mt.of ⟨a48, i48, k48⟩ (ok_Giver_due (P := l.prog) (w := w) (mg := mg) (base := base) T F48 M_Giver_again M_Giver_count M_Giver_need_tick M_Giver_next_number) b48
  have M_Giver_tries := SM.Mt.of ⟨a49, i49, k49⟩ (ok_Giver_tries (P := l.prog) (w := w) (mg := mg) (base := base) T F49 ) b49
  have M_Talk_segment_of := SM.Mt.of ⟨a50, i50, k50⟩ (ok_Talk_segment_of (P := l.prog) (w := w) (mg := mg) (base := base) T F50 M_Talk_made) b50
  have M_Talk_due := SM.Mt.of ⟨a51, i51, k51⟩ (ok_Talk_due (P := l.prog) (w := w) (mg := mg) (base := base) T F51 M_Giver_due M_Giver_tries M_Talk_is_over M_Talk_pass_to M_Talk_segment_of) b51
  have C_l_brought := Dx.of2 (ok_l_brought (P := l.prog) (w := w) (mg := mg) (base := base) T F52 M_Talk_due M_Talk_heard) F52 (PySem.W.mg_of X G a52) b52
  have C_l_next := Dx.of2 (ok_l_next (P := l.prog) (w := w) (mg := mg) (base := base) T F53 C_l_mixed) F53 (PySem.W.mg_of X G a53) b53
  have C_l_bytes := Dx.of2 (ok_l_bytes (P := l.prog) (w := w) (mg := mg) (base := base) T F54 C_l_next) F54 (PySem.W.mg_of X G a54) b54
  have M_Talk_cut := SM.Mt.of ⟨a55, i55, k55⟩ (ok_Talk_cut (P := l.prog) (w := w) (mg := mg) (base := base) T F55 M_Giver_next_number M_Talk_is_over M_Talk_made) b55
  have C_l_closes := Dx.of2 (ok_l_closes (P := l.prog) (w := w) (mg := mg) (base := base) T F56 M_Talk_cut M_Talk_due M_Talk_finish M_Talk_heard M_Talk_stand M_Talk_write) F56 (PySem.W.mg_of X G a56) b56
  have C_l_left_right := Dx.of2 (ok_l_left_right (P := l.prog) (w := w) (mg := mg) (base := base) T F57 M_Talk_finish M_Talk_stand C_l_brought) F57 (PySem.W.mg_of X G a57) b57
  have C_l_moved := Dx.of2 (ok_l_moved (P := l.prog) (w := w) (mg := mg) (base := base) T F58 ) F58 (PySem.W.mg_of X G a58) b58
  have M_Giver := Mx.of ⟨mk_Giver, a59, i59, kc_Giver⟩ (ok_Giver___init__ (P := l.prog) (w := w) (mg := mg) (base := base) T F59 C_is_number_givers) (PySem.W.mg_of X G g_Giver) b59
  have C_is_number_talks := Dx.of2 (ok_is_number_talks (P := l.prog) (w := w) (mg := mg) (base := base) T F60 ) F60 (PySem.W.mg_of X G a60) b60
  have M_Talk := DL.MxD.of ⟨mk_Talk, a61, i61, kc_Talk⟩ (ok_Talk___init__ (P := l.prog) (w := w) (mg := mg) (base := base) T F61 M_Giver M_Talk_begin_taker C_is_number_talks C_need_tick) (PySem.W.mg_of X G g_Talk) b61
  have MD_Talk := DL.MxD.of ⟨mk_Talk, a61, i61, kc_Talk⟩ (ok_Talk___init__ (P := l.prog) (w := w) (mg := mg) (base := base) T F61 M_Giver M_Talk_begin_taker C_is_number_talks C_need_tick) (PySem.W.mg_of X G g_Talk) e61
  have M_Talk := M_Talk.full
  have C_l_first := Dx.of2 (ok_l_first (P := l.prog) (w := w) (mg := mg) (base := base) T F62 C_l_next) F62 (PySem.W.mg_of X G a62) b62
  have C_l_pair := Dx.of2 (ok_l_pair (P := l.prog) (w := w) (mg := mg) (base := base) T F63 M_Talk MD_Talk M_Talk_due M_Talk_heard C_l_first C_l_next) F63 (PySem.W.mg_of X G a63) b63
  have C_l_right := Dx.of2 (ok_l_right (P := l.prog) (w := w) (mg := mg) (base := base) T F64 M_Segment M_Talk_finish M_Talk_heard M_Talk_read M_Talk_ready M_Talk_stand M_Talk_write C_l_brought C_l_bytes C_l_closes C_l_left_right C_l_moved C_l_next C_l_pair) F64 (PySem.W.mg_of X G a64) b64
  exact (ok_law T F65 C_l_draw C_l_right).imp law_imp
theorem walk {l : PySem.W.OpenLaw} {q : Program} {loose : List Str} {XP : (Str → Option Value) → Heap → Prop} {YP : World → Heap → Prop} {d : DefRec} {K : Params → PySem.W.Frag} (hn : l.most = some 63) (hdf : d.params.defaults = [])
    (hY : ∀ (w : World) (h : Heap), YP w h → (K w.params).In h)
    (F : ∀ (w : World) (mg : Str → Option Value) (fa : Addr) (h : Heap), (K w.params).In h → h.Ns mainGlobals mg → mg d.name = some (.ref fa) →
      ∃ fd : FuncData, (∀ (s : Shared) (u : Value), BindsTo s fd ⟨[u], []⟩ [("_law_script", u)]) ∧ ∀ base : Heap, (K w.params).In base → base.Ns mainGlobals mg → FnOk l.prog w (K w.params) mg base CX0 11 fa fd ["_law_script"] (spLaw (K w.params))) :
    PySem.W.WalkO q loose XP YP l.row.toRowW d [] (fun f vs => PySem.call f vs) :=
  L2.walk_of (n := 63) (k := 11) (x := "_law_script") (CX := fun _ => CX0) (sp := fun w => spLaw (K w.params)) hn (by decide) hdf ⟨rfl, by decide, by decide⟩ hY F (fun _ _ a ns hl _ hS => ⟨a, ns, rfl, hS, hl, fun _ => rfl⟩) fun _ _ _ _ _ z => z
end Kk
open PySem PySem.W PyProof.Rows in
set_option maxRecDepth 100000 in
set_option maxHeartbeats 0 in
theorem PySem.Challenge.cw_surewire_k85_endings_holds : PySem.Challenge.rw_surewire_k85_endings.Holds := by
  w_on; o_law; k_head; (case hw => w_witness2)
  k_fill
  refine Kk.walk (l := PySem.Challenge.rw_surewire_k85_endings) rfl rfl (fun w h Y => PySem.W.kIn_of Y) ?F
  case F =>
    intro w mg fa h KX G hmg
    refine' Kk.all_mk KX G hmg ?g_Giver ?g_NoData ?g_NoNumber ?g_NoPort ?g_NoSegment ?g_NoSize ?g_NoTick ?g_Segment ?g_Taker ?g_Talk ?a0 ?l0 ?c0 ?k0 ?a1 ?l1 ?c1 ?k1 ?a2 ?l2 ?c2 ?k2 ?a3 ?l3 ?c3 ?k3 ?a4 ?l4 ?c4 ?k4 ?a5 ?l5 ?c5 ?k5 ?a6 ?i6 ?l6 ?c6 ?k6 ?a7 ?i7 ?l7 ?c7 ?k7 ?a8 ?i8 ?l8 ?c8 ?k8 ?a9 ?i9 ?l9 ?c9 ?k9 ?a10 ?i10 ?l10 ?c10 ?k10 ?a11 ?i11 ?l11 ?c11 ?k11 ?a12 ?i12 ?l12 ?c12 ?k12 ?a13 ?i13 ?l13 ?c13 ?k13 ?a14 ?l14 ?c14 ?k14 ?a15 ?i15 ?l15 ?c15 ?k15 ?a16 ?l16 ?c16 ?k16 ?a17 ?l17 ?c17 ?k17 ?a18 ?l18 ?c18 ?k18 ?a19 ?i19 ?l19 ?c19 ?k19 ?a20 ?i20 ?l20 ?c20 ?k20 ?a21 ?i21 ?l21 ?c21 ?k21 ?a22 ?l22 ?c22 ?k22 ?a23 ?i23 ?l23 ?c23 ?k23 ?a24 ?l24 ?c24 ?k24 ?a25 ?i25 ?l25 ?c25 ?k25 ?a26 ?i26 ?l26 ?c26 ?k26 ?a27 ?i27 ?l27 ?c27 ?k27 ?a28 ?i28 ?l28 ?c28 ?k28 ?a29 ?i29 ?l29 ?c29 ?k29 ?a30 ?i30 ?l30 ?c30 ?k30 ?a31 ?i31 ?l31 ?c31 ?k31 ?a32 ?i32 ?l32 ?c32 ?k32 ?a33 ?i33 ?l33 ?c33 ?k33 ?a34 ?i34 ?l34 ?c34 ?k34 ?a35 ?i35 ?l35 ?c35 ?k35 ?a36 ?i36 ?l36 ?c36 ?k36 ?a37 ?i37 ?l37 ?c37 ?k37 ?a38 ?l38 ?c38 ?k38 ?a39 ?i39 ?l39 ?c39 ?k39 ?a40 ?i40 ?l40 ?c40 ?k40 ?a41 ?i41 ?l41 ?c41 ?k41 ?a42 ?i42 ?l42 ?c42 ?k42 ?a43 ?i43 ?l43 ?c43 ?k43 ?a44 ?i44 ?l44 ?c44 ?k44 ?a45 ?i45 ?l45 ?c45 ?k45 ?a46 ?i46 ?l46 ?c46 ?k46 ?a47 ?i47 ?l47 ?c47 ?k47 ?a48 ?i48 ?l48 ?c48 ?k48 ?a49 ?i49 ?l49 ?c49 ?k49 ?a50 ?i50 ?l50 ?c50 ?k50 ?a51 ?i51 ?l51 ?c51 ?k51 ?a52 ?l52 ?c52 ?k52 ?a53 ?l53 ?c53 ?k53 ?a54 ?l54 ?c54 ?k54 ?a55 ?i55 ?l55 ?c55 ?k55 ?a56 ?l56 ?c56 ?k56 ?a57 ?l57 ?c57 ?k57 ?a58 ?l58 ?c58 ?k58 ?a59 ?i59 ?l59 ?c59 ?k59 ?a60 ?l60 ?c60 ?k60 ?a61 ?i61 ?l61 ?c61 ?k61 ?u61 ?v61 ?a62 ?l62 ?c62 ?k62 ?a63 ?l63 ?c63 ?k63 ?a64 ?l64 ?c64 ?k64 ?a65 ?l65 ?c65 ?k65 ?z_all ?z_bool ?z_enumerate ?z_int ?z_isinstance ?z_len ?z_max ?z_min ?z_range ?z_str ?z_tuple ?y_FIRST_WAIT ?y_LEAST_SIZE ?y_LETTERS ?y_LONGEST ?y_MOST_BYTE ?y_MOST_DATA_bits ?y_MOST_DATA_segments ?y_MOST_IN_PAIR ?y_MOST_ITEMS ?y_MOST_KEPT ?y_MOST_NUMBER ?y_MOST_ROOM_segments ?y_MOST_ROOM_takers ?y_MOST_SIZE ?y_MOST_TRIES ?y_RESTS ?y_ROOM ?y_SIZE_givers ?y_SIZE_takers ?y_SIZE_talks ?e_NoData ?k_NoData ?b_NoData ?t_NoData ?e_NoNumber ?k_NoNumber ?b_NoNumber ?t_NoNumber ?e_NoPort ?k_NoPort ?b_NoPort ?t_NoPort ?e_NoSegment ?k_NoSegment ?b_NoSegment ?t_NoSegment ?e_NoSize ?k_NoSize ?b_NoSize ?t_NoSize ?e_NoTick ?k_NoTick ?b_NoTick ?t_NoTick ?cl_Giver ?mk_Giver ?kc_Giver ?n_Giver_base ?n_Giver_finished ?n_Giver_first_wait ?n_Giver_kept ?n_Giver_most ?n_Giver_now ?n_Giver_pace ?n_Giver_passed ?n_Giver_reach ?n_Giver_sent ?n_Giver_since ?n_Giver_tried ?n_Giver_wait ?cl_Segment ?mk_Segment ?kc_Segment ?n_Segment_answer ?n_Segment_data ?n_Segment_marks ?n_Segment_number ?n_Segment_room ?n_Segment_source ?n_Segment_target ?cl_Taker ?mk_Taker ?kc_Taker ?n_Taker_ahead ?n_Taker_over ?n_Taker_unread ?n_Taker_wanted ?n_Taker_whole_room ?cl_Talk ?mk_Talk ?kc_Talk ?n_Talk_begun_with ?n_Talk_ending ?n_Talk_finished ?n_Talk_giver ?n_Talk_here ?n_Talk_last_tick ?n_Talk_other_first ?n_Talk_rested ?n_Talk_taker ?n_Talk_there ?in_Giver ?in_Segment ?in_Taker ?in_Talk ?x_NoData ?x_NoNumber ?x_NoPort ?x_NoSegment ?x_NoSize ?x_NoTick ?i_Giver_bool ?i_Giver_int ?i_Giver_str ?i_Giver_tuple ?i_Segment_bool ?i_Segment_int ?i_Segment_str ?i_Segment_tuple ?i_Taker_bool ?i_Taker_int ?i_Taker_str ?i_Taker_tuple ?i_Talk_bool ?i_Talk_int ?i_Talk_str ?i_Talk_tuple ?i_NoData_bool ?i_NoData_int ?i_NoData_str ?i_NoData_tuple ?i_NoNumber_bool ?i_NoNumber_int ?i_NoNumber_str ?i_NoNumber_tuple ?i_NoPort_bool ?i_NoPort_int ?i_NoPort_str ?i_NoPort_tuple ?i_NoSegment_bool ?i_NoSegment_int ?i_NoSegment_str ?i_NoSegment_tuple ?i_NoSize_bool ?i_NoSize_int ?i_NoSize_str ?i_NoSize_tuple ?i_NoTick_bool ?i_NoTick_int ?i_NoTick_str ?i_NoTick_tuple
    (case g_Giver => k_is)
    (case g_NoData => k_is)
    (case g_NoNumber => k_is)
    (case g_NoPort => k_is)
    (case g_NoSegment => k_is)
    (case g_NoSize => k_is)
    (case g_NoTick => k_is)
    (case g_Segment => k_is)
    (case g_Taker => k_is)
    (case g_Talk => k_is)
    (case a0 => k_is)
    (case l0 => k_is)
    (case c0 => k_is)
    (case k0 => k_is)
    (case a1 => k_is)
    (case l1 => k_is)
    (case c1 => k_is)
    (case k1 => k_is)
    (case a2 => k_is)
    (case l2 => k_is)
    (case c2 => k_is)
    (case k2 => k_is)
    (case a3 => k_is)
    (case l3 => k_is)
    (case c3 => k_is)
    (case k3 => k_is)
    (case a4 => k_is)
    (case l4 => k_is)
    (case c4 => k_is)
    (case k4 => k_is)
    (case a5 => k_is)
    (case l5 => k_is)
    (case c5 => k_is)
    (case k5 => k_is)
    (case a6 => k_is)
    (case i6 => k_is)
    (case l6 => k_is)
    (case c6 => k_is)
    (case k6 => k_is)
    (case a7 => k_is)
    (case i7 => k_is)
    (case l7 => k_is)
    (case c7 => k_is)
    (case k7 => k_is)
    (case a8 => k_is)
    (case i8 => k_is)
    (case l8 => k_is)
    (case c8 => k_is)
    (case k8 => k_is)
    (case a9 => k_is)
    (case i9 => k_is)
    (case l9 => k_is)
    (case c9 => k_is)
    (case k9 => k_is)
    (case a10 => k_is)
    (case i10 => k_is)
    (case l10 => k_is)
    (case c10 => k_is)
    (case k10 => k_is)
    (case a11 => k_is)
    (case i11 => k_is)
    (case l11 => k_is)
    (case c11 => k_is)
    (case k11 => k_is)
    (case a12 => k_is)
    (case i12 => k_is)
    (case l12 => k_is)
    (case c12 => k_is)
    (case k12 => k_is)
    (case a13 => k_is)
    (case i13 => k_is)
    (case l13 => k_is)
    (case c13 => k_is)
    (case k13 => k_is)
    (case a14 => k_is)
    (case l14 => k_is)
    (case c14 => k_is)
    (case k14 => k_is)
    (case a15 => k_is)
    (case i15 => k_is)
    (case l15 => k_is)
    (case c15 => k_is)
    (case k15 => k_is)
    (case a16 => k_is)
    (case l16 => k_is)
    (case c16 => k_is)
    (case k16 => k_is)
    (case a17 => k_is)
    (case l17 => k_is)
    (case c17 => k_is)
    (case k17 => k_is)
    (case a18 => k_is)
    (case l18 => k_is)
    (case c18 => k_is)
    (case k18 => k_is)
    (case a19 => k_is)
    (case i19 => k_is)
    (case l19 => k_is)
    (case c19 => k_is)
    (case k19 => k_is)
    (case a20 => k_is)
    (case i20 => k_is)
    (case l20 => k_is)
    (case c20 => k_is)
    (case k20 => k_is)
    (case a21 => k_is)
    (case i21 => k_is)
    (case l21 => k_is)
    (case c21 => k_is)
    (case k21 => k_is)
    (case a22 => k_is)
    (case l22 => k_is)
    (case c22 => k_is)
    (case k22 => k_is)
    (case a23 => k_is)
    (case i23 => k_is)
    (case l23 => k_is)
    (case c23 => k_is)
    (case k23 => k_is)
    (case a24 => k_is)
    (case l24 => k_is)
    (case c24 => k_is)
    (case k24 => k_is)
    (case a25 => k_is)
    (case i25 => k_is)
    (case l25 => k_is)
    (case c25 => k_is)
    (case k25 => k_is)
    (case a26 => k_is)
    (case i26 => k_is)
    (case l26 => k_is)
    (case c26 => k_is)
    (case k26 => k_is)
    (case a27 => k_is)
    (case i27 => k_is)
    (case l27 => k_is)
    (case c27 => k_is)
    (case k27 => k_is)
    (case a28 => k_is)
    (case i28 => k_is)
    (case l28 => k_is)
    (case c28 => k_is)
    (case k28 => k_is)
    (case a29 => k_is)
    (case i29 => k_is)
    (case l29 => k_is)
    (case c29 => k_is)
    (case k29 => k_is)
    (case a30 => k_is)
    (case i30 => k_is)
    (case l30 => k_is)
    (case c30 => k_is)
    (case k30 => k_is)
    (case a31 => k_is)
    (case i31 => k_is)
    (case l31 => k_is)
    (case c31 => k_is)
    (case k31 => k_is)
    (case a32 => k_is)
    (case i32 => k_is)
    (case l32 => k_is)
    (case c32 => k_is)
    (case k32 => k_is)
    (case a33 => k_is)
    (case i33 => k_is)
    (case l33 => k_is)
    (case c33 => k_is)
    (case k33 => k_is)
    (case a34 => k_is)
    (case i34 => k_is)
    (case l34 => k_is)
    (case c34 => k_is)
    (case k34 => k_is)
    (case a35 => k_is)
    (case i35 => k_is)
    (case l35 => k_is)
    (case c35 => k_is)
    (case k35 => k_is)
    (case a36 => k_is)
    (case i36 => k_is)
    (case l36 => k_is)
    (case c36 => k_is)
    (case k36 => k_is)
    (case a37 => k_is)
    (case i37 => k_is)
    (case l37 => k_is)
    (case c37 => k_is)
    (case k37 => k_is)
    (case a38 => k_is)
    (case l38 => k_is)
    (case c38 => k_is)
    (case k38 => k_is)
    (case a39 => k_is)
    (case i39 => k_is)
    (case l39 => k_is)
    (case c39 => k_is)
    (case k39 => k_is)
    (case a40 => k_is)
    (case i40 => k_is)
    (case l40 => k_is)
    (case c40 => k_is)
    (case k40 => k_is)
    (case a41 => k_is)
    (case i41 => k_is)
    (case l41 => k_is)
    (case c41 => k_is)
    (case k41 => k_is)
    (case a42 => k_is)
    (case i42 => k_is)
    (case l42 => k_is)
    (case c42 => k_is)
    (case k42 => k_is)
    (case a43 => k_is)
    (case i43 => k_is)
    (case l43 => k_is)
    (case c43 => k_is)
    (case k43 => k_is)
    (case a44 => k_is)
    (case i44 => k_is)
    (case l44 => k_is)
    (case c44 => k_is)
    (case k44 => k_is)
    (case a45 => k_is)
    (case i45 => k_is)
    (case l45 => k_is)
    (case c45 => k_is)
    (case k45 => k_is)
    (case a46 => k_is)
    (case i46 => k_is)
    (case l46 => k_is)
    (case c46 => k_is)
    (case k46 => k_is)
    (case a47 => k_is)
    (case i47 => k_is)
    (case l47 => k_is)
    (case c47 => k_is)
    (case k47 => k_is)
    (case a48 => k_is)
    (case i48 => k_is)
    (case l48 => k_is)
    (case c48 => k_is)
    (case k48 => k_is)
    (case a49 => k_is)
    (case i49 => k_is)
    (case l49 => k_is)
    (case c49 => k_is)
    (case k49 => k_is)
    (case a50 => k_is)
    (case i50 => k_is)
    (case l50 => k_is)
    (case c50 => k_is)
    (case k50 => k_is)
    (case a51 => k_is)
    (case i51 => k_is)
    (case l51 => k_is)
    (case c51 => k_is)
    (case k51 => k_is)
    (case a52 => k_is)
    (case l52 => k_is)
    (case c52 => k_is)
    (case k52 => k_is)
    (case a53 => k_is)
    (case l53 => k_is)
    (case c53 => k_is)
    (case k53 => k_is)
    (case a54 => k_is)
    (case l54 => k_is)
    (case c54 => k_is)
    (case k54 => k_is)
    (case a55 => k_is)
    (case i55 => k_is)
    (case l55 => k_is)
    (case c55 => k_is)
    (case k55 => k_is)
    (case a56 => k_is)
    (case l56 => k_is)
    (case c56 => k_is)
    (case k56 => k_is)
    (case a57 => k_is)
    (case l57 => k_is)
    (case c57 => k_is)
    (case k57 => k_is)
    (case a58 => k_is)
    (case l58 => k_is)
    (case c58 => k_is)
    (case k58 => k_is)
    (case a59 => k_is)
    (case i59 => k_is)
    (case l59 => k_is)
    (case c59 => k_is)
    (case k59 => k_is)
    (case a60 => k_is)
    (case l60 => k_is)
    (case c60 => k_is)
    (case k60 => k_is)
    (case a61 => k_is)
    (case i61 => k_is)
    (case l61 => k_is)
    (case c61 => k_is)
    (case k61 => k_is)
    (case u61 => k_is)
    (case v61 => exact rfl)
    (case a62 => k_is)
    (case l62 => k_is)
    (case c62 => k_is)
    (case k62 => k_is)
    (case a63 => k_is)
    (case l63 => k_is)
    (case c63 => k_is)
    (case k63 => k_is)
    (case a64 => k_is)
    (case l64 => k_is)
    (case c64 => k_is)
    (case k64 => k_is)
    (case a65 => k_is)
    (case l65 => k_is)
    (case c65 => k_is)
    (case k65 => k_is)
    (case z_all => k_is)
    (case z_bool => k_is)
    (case z_enumerate => k_is)
    (case z_int => k_is)
    (case z_isinstance => k_is)
    (case z_len => k_is)
    (case z_max => k_is)
    (case z_min => k_is)
    (case z_range => k_is)
    (case z_str => k_is)
    (case z_tuple => k_is)
    (case y_FIRST_WAIT => k_is)
    (case y_LEAST_SIZE => k_is)
    (case y_LETTERS => k_is)
    (case y_LONGEST => k_is)
    (case y_MOST_BYTE => k_is)
    (case y_MOST_DATA_bits => k_is)
    (case y_MOST_DATA_segments => k_is)
    (case y_MOST_IN_PAIR => k_is)
    (case y_MOST_ITEMS => k_is)
    (case y_MOST_KEPT => k_is)
    (case y_MOST_NUMBER => k_is)
    (case y_MOST_ROOM_segments => k_is)
    (case y_MOST_ROOM_takers => k_is)
    (case y_MOST_SIZE => k_is)
    (case y_MOST_TRIES => k_is)
    (case y_RESTS => k_is)
    (case y_ROOM => k_is)
    (case y_SIZE_givers => k_is)
    (case y_SIZE_takers => k_is)
    (case y_SIZE_talks => k_is)
    (case e_NoData => k_exc)
    (case k_NoData => k_is)
    (case b_NoData => k_is)
    (case t_NoData => k_is)
    (case e_NoNumber => k_exc)
    (case k_NoNumber => k_is)
    (case b_NoNumber => k_is)
    (case t_NoNumber => k_is)
    (case e_NoPort => k_exc)
    (case k_NoPort => k_is)
    (case b_NoPort => k_is)
    (case t_NoPort => k_is)
    (case e_NoSegment => k_exc)
    (case k_NoSegment => k_is)
    (case b_NoSegment => k_is)
    (case t_NoSegment => k_is)
    (case e_NoSize => k_exc)
    (case k_NoSize => k_is)
    (case b_NoSize => k_is)
    (case t_NoSize => k_is)
    (case e_NoTick => k_exc)
    (case k_NoTick => k_is)
    (case b_NoTick => k_is)
    (case t_NoTick => k_is)
    (case cl_Giver => exact ⟨by k_is, by k_is, by k_is, by k_is⟩)
    (case mk_Giver => k_is)
    (case kc_Giver => k_is)
    (case n_Giver_base => k_is)
    (case n_Giver_finished => k_is)
    (case n_Giver_first_wait => k_is)
    (case n_Giver_kept => k_is)
    (case n_Giver_most => k_is)
    (case n_Giver_now => k_is)
    (case n_Giver_pace => k_is)
    (case n_Giver_passed => k_is)
    (case n_Giver_reach => k_is)
    (case n_Giver_sent => k_is)
    (case n_Giver_since => k_is)
    (case n_Giver_tried => k_is)
    (case n_Giver_wait => k_is)
    (case cl_Segment => exact ⟨by k_is, by k_is, by k_is, by k_is⟩)
    (case mk_Segment => k_is)
    (case kc_Segment => k_is)
    (case n_Segment_answer => k_is)
    (case n_Segment_data => k_is)
    (case n_Segment_marks => k_is)
    (case n_Segment_number => k_is)
    (case n_Segment_room => k_is)
    (case n_Segment_source => k_is)
    (case n_Segment_target => k_is)
    (case cl_Taker => exact ⟨by k_is, by k_is, by k_is, by k_is⟩)
    (case mk_Taker => k_is)
    (case kc_Taker => k_is)
    (case n_Taker_ahead => k_is)
    (case n_Taker_over => k_is)
    (case n_Taker_unread => k_is)
    (case n_Taker_wanted => k_is)
    (case n_Taker_whole_room => k_is)
    (case cl_Talk => exact ⟨by k_is, by k_is, by k_is, by k_is⟩)
    (case mk_Talk => k_is)
    (case kc_Talk => k_is)
    (case n_Talk_begun_with => k_is)
    (case n_Talk_ending => k_is)
    (case n_Talk_finished => k_is)
    (case n_Talk_giver => k_is)
    (case n_Talk_here => k_is)
    (case n_Talk_last_tick => k_is)
    (case n_Talk_other_first => k_is)
    (case n_Talk_rested => k_is)
    (case n_Talk_taker => k_is)
    (case n_Talk_there => k_is)
    (case in_Giver => exact ⟨⟨by k_is, by k_is, by k_is, by k_is⟩, by k_is, by k_is, by k_is, by k_is⟩)
    (case in_Segment => exact ⟨⟨by k_is, by k_is, by k_is, by k_is⟩, by k_is, by k_is, by k_is, by k_is⟩)
    (case in_Taker => exact ⟨⟨by k_is, by k_is, by k_is, by k_is⟩, by k_is, by k_is, by k_is, by k_is⟩)
    (case in_Talk => exact ⟨⟨by k_is, by k_is, by k_is, by k_is⟩, by k_is, by k_is, by k_is, by k_is⟩)
    (case x_NoData => exact ⟨by k_is, by k_is, by k_is, by k_is, by k_is, by k_is, by k_is, by k_is⟩)
    (case x_NoNumber => exact ⟨by k_is, by k_is, by k_is, by k_is, by k_is, by k_is, by k_is, by k_is⟩)
    (case x_NoPort => exact ⟨by k_is, by k_is, by k_is, by k_is, by k_is, by k_is, by k_is, by k_is⟩)
    (case x_NoSegment => exact ⟨by k_is, by k_is, by k_is, by k_is, by k_is, by k_is, by k_is, by k_is⟩)
    (case x_NoSize => exact ⟨by k_is, by k_is, by k_is, by k_is, by k_is, by k_is, by k_is, by k_is⟩)
    (case x_NoTick => exact ⟨by k_is, by k_is, by k_is, by k_is, by k_is, by k_is, by k_is, by k_is⟩)
    (case i_Giver_bool => first | k_is | kit_is)
    (case i_Giver_int => first | k_is | kit_is)
    (case i_Giver_str => first | k_is | kit_is)
    (case i_Giver_tuple => first | k_is | kit_is)
    (case i_Segment_bool => first | k_is | kit_is)
    (case i_Segment_int => first | k_is | kit_is)
    (case i_Segment_str => first | k_is | kit_is)
    (case i_Segment_tuple => first | k_is | kit_is)
    (case i_Taker_bool => first | k_is | kit_is)
    (case i_Taker_int => first | k_is | kit_is)
    (case i_Taker_str => first | k_is | kit_is)
    (case i_Taker_tuple => first | k_is | kit_is)
    (case i_Talk_bool => first | k_is | kit_is)
    (case i_Talk_int => first | k_is | kit_is)
    (case i_Talk_str => first | k_is | kit_is)
    (case i_Talk_tuple => first | k_is | kit_is)
    (case i_NoData_bool => first | k_is | kit_is)
    (case i_NoData_int => first | k_is | kit_is)
    (case i_NoData_str => first | k_is | kit_is)
    (case i_NoData_tuple => first | k_is | kit_is)
    (case i_NoNumber_bool => first | k_is | kit_is)
    (case i_NoNumber_int => first | k_is | kit_is)
    (case i_NoNumber_str => first | k_is | kit_is)
    (case i_NoNumber_tuple => first | k_is | kit_is)
    (case i_NoPort_bool => first | k_is | kit_is)
    (case i_NoPort_int => first | k_is | kit_is)
    (case i_NoPort_str => first | k_is | kit_is)
    (case i_NoPort_tuple => first | k_is | kit_is)
    (case i_NoSegment_bool => first | k_is | kit_is)
    (case i_NoSegment_int => first | k_is | kit_is)
    (case i_NoSegment_str => first | k_is | kit_is)
    (case i_NoSegment_tuple => first | k_is | kit_is)
    (case i_NoSize_bool => first | k_is | kit_is)
    (case i_NoSize_int => first | k_is | kit_is)
    (case i_NoSize_str => first | k_is | kit_is)
    (case i_NoSize_tuple => first | k_is | kit_is)
    (case i_NoTick_bool => first | k_is | kit_is)
    (case i_NoTick_int => first | k_is | kit_is)
    (case i_NoTick_str => first | k_is | kit_is)
    (case i_NoTick_tuple => first | k_is | kit_is)
#print axioms PySem.Challenge.cw_surewire_k85_endings_holds
